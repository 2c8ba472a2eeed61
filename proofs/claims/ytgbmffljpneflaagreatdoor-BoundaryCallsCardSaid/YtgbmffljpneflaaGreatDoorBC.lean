import Derived.Test.YtgbmffljpneflaaGreatDoorBA
set_option linter.all false
namespace Go.Sx
structure WW where
 W:Int
 p:Int
structure Wv where
 k:Int
 s:Int
 u:Int
 P:Int
structure Wm where
 c:WW
 w:List Int
 p:List Wv
 s:Int
 b:Int
structure UE where
 J:Int
 a:Int
 V:Bool
structure UJ where
 O:Int
 C0:Int
 B0:Bool
structure Wo where
 S:List UE
 x:List UJ
 i:List Int
structure WT where
 G:Int
 a:Int
 V:Bool
structure Ws where
 e:List WT
structure Ux where
 a:Int
 M:Int
structure WJ where
 h:Wm
 l:Wo
 g:Ws
 v:Ws
 P:List Ux
 R:List Int
structure WC where
 k:Int
 n:Int
 Map:Int
structure In where
 H:WC
 D:List Int
structure IA where
 I:Int
 M:Int
 B0:Int
structure WX where
 c:WW
 T:List In
 l:Wo
 g:Ws
 v:Ws
 m:List IA
 R:List Int
structure Iz where
 N:WJ
 z:WX
 w:List Int
structure U0 where
 L:List Int
 at_:Int
structure IJ where
 Op:Int
 A:Int
 B:Int
 C:Int
structure Ik where
 h:Wm
 Strong:List Int
 Weak:List Int
structure WQ where
 j:Int
 K:Int
 F:Int
 E:Int
 f:Int
 y:Int
structure Ov where
 Failed:Bool
 Collected:Bool
 B0:Int
structure UR where
 Tag:Int
 Index:Int
 J:Int
structure Oc where
 l:Wo
structure UF where
 Width:Int
 Value:Int
structure WE where
 h:Wm
 o:List Int
 t:List Int
 q:List Int
 d:Int
 r:WQ
structure I5 where
 page:Int
 offset:Int
structure Uh where
 Fault:Int
 Page:Int
 Addr:Int
structure UQ where
 addr:Int
 hd:WC
structure Oq where
 O:Int
 Len:Int
@[simp] abbrev zWd:WX:=WX.mk (WW.mk 0 0) [] (Wo.mk [] [] []) (Ws.mk []) (Ws.mk []) [] []
@[simp] abbrev zHp:Wm:=Wm.mk (WW.mk 0 0) [] [] 0 0
def Qaa(N:Nat)(e:U0)(f:Int):Option (Int×U0):=bif (decide (f<1))then some (0,e)else jn (λ(h:Int)=>grd (f≠0) <| grd (f≠0) <| some (((wI ((h.tmod f)+f)).tmod f),(U0.mk e.L (wI (e.at_+1))))) λg=>bif (decide (e.at_<(e.L.length:Int)))then(bnd (Xb e.L e.at_) λj=>g j)else g (wI ((wI (e.at_*7))+3))
def Qb5(N:Nat)(f:Iz)(s:U0):Option (Int×U0):=bnd (Qaa N s 14) λe=>bif (e.1==0)then(bnd (Qaa N e.2 8) λk=>bnd (Xb [0,1,262145,262146,524289,1125899906842624,4097,262149] k.1) λu=>some (u,k.2))else bif (e.1==1)then(bnd (Qaa N e.2 (f.w.length:Int)) λl=>bnd (Xb f.w l.1) λv=>bnd (Qaa N l.2 3) λo=>some ((wU (v+(wU o.1))),o.2))else jn (λ(y:Bool)=>bif y then(bnd (Qaa N e.2 (f.w.length:Int)) λp=>bnd (Xb f.w p.1) λh=>some (h,p.2))else bnd (Qaa N e.2 (if 6<(f.w.length:Int)then 6 else(f.w.length:Int))) λg=>bnd (Xb f.w (wI ((wI ((f.w.length:Int)-1))-g.1))) λj=>some (j,g.2)) λq=>bif (e.1==2)then q true else jn (λ(z:Bool)=>q z) λr=>bif (e.1==3)then r true else r (e.1==4)
def Qdx(N:Nat)(u:Iz)(G:U0):Option (IJ×U0):=bnd (Qaa N G 32) λl=>bnd (Xb [1,1,2,2,3,4,5,6,7,7,8,8,9,9,9,10,11,12,12,13,14,15,16,17,18,19,19,20,20,0,0,21] l.1) λe=>bif (e==1)then(bnd (Qaa N l.2 4) λv=>grd (0<=(wU v.1)) <| bnd (Qaa N v.2 (ZN .i64 1 (wU v.1))) λz=>some ((IJ.mk e (wU v.1) (wU z.1) 0),z.2))else jn (λ(H:Bool)=>bif H then(bnd (Qaa N l.2 4) λA=>bnd (Qaa N A.2 9) λw=>bif (w.1==0)then(bnd (Qaa N w.2 70) λB=>some ((IJ.mk e (wU B.1) 0 0),B.2))else some ((IJ.mk e (wU A.1) 0 0),w.2))else bif (e==17)then(bnd (Qaa N l.2 9) λD=>some ((IJ.mk e (wU D.1) 0 0),D.2))else bnd (Qb5 N u l.2) λg=>bnd (Qaa N g.2 4) λo=>bnd (Qaa N o.2 1000) λh=>jn (λ(p:List Int) (q r:Int)=>bif (e==10)then(bnd (Qb5 N u (U0.mk p q)) λs=>some ((IJ.mk e g.1 s.1 r),s.2))else some ((IJ.mk e g.1 (wU o.1) r),(U0.mk p q))) λy=>bif (e==9)then(bnd (Qb5 N u h.2) λj=>y j.2.L j.2.at_ j.1)else bnd (Qaa N h.2 9) λf=>bif (f.1==0)then(bnd (Qb5 N u f.2) λk=>y k.2.L k.2.at_ k.1)else y f.2.L f.2.at_ (wU h.1)) λE=>bif (e==2)then E true else E (e==3)
def Qf7(N:Nat)(g:U0):Option (WW×U0):=bnd (Qaa N g 4) λe=>bnd (Xb [16,16,20,32] e.1) λh=>bnd (Qaa N e.2 5) λf=>bnd (Xb [8,12,16,20,24] f.1) λj=>some ((WW.mk h j),f.2)
def QaX(N:Nat)(e:WW):Option Bool:=bif (decide (e.W>=16))then(bif (decide (e.W<=64))then(bif ((e.W.tmod 4)==0)then(bif (decide (e.p>=8))then some (decide (e.p<=64))else some false)else some false)else some false)else some false
def QgZ(N:Nat)(e:WW):Option (Wm×Int):=bnd (QaX N e) λf=>bif (!f)then some (zHp,1)else grd (0<=(wI (e.p*e.W))/\(wI (e.p*e.W)).toNat*8<=140737488355328) <| grd (0<=e.p/\e.p.toNat*32<=140737488355328) <| some ((Wm.mk e (List.replicate (wI (e.p*e.W)).toNat (0:Int)) (List.replicate e.p.toNat (Wv.mk 0 0 0 0)) 0 (-1)),0)
def QfF(N:Nat)(f:WW):Option (WJ×Int):=bnd (QgZ N f) λe=>some ((WJ.mk e.1 (Wo.mk [] [] []) (Ws.mk []) (Ws.mk []) [] []),e.2)
def Qg0(N:Nat)(e:WW):Option (WX×Int):=bnd (QaX N e) λf=>bif (!f)then some (zWd,1)else some ((WX.mk e [] (Wo.mk [] [] []) (Ws.mk []) (Ws.mk []) [] []),0)
def Qcl(N:Nat)(o:U0):Option (Iz×U0):=bnd (Qf7 N o) λj=>bnd (QfF N j.1) λf=>bnd (Qg0 N j.1) λe=>bnd (Qaa N j.2 40) λk=>some ((Iz.mk (WJ.mk f.1.h (Wo.mk f.1.l.S [(UJ.mk 0 (wI (4+k.1)) true)] f.1.l.i) f.1.g f.1.v f.1.P f.1.R) (WX.mk e.1.c e.1.T (Wo.mk e.1.l.S [(UJ.mk 0 (wI (4+k.1)) true)] e.1.l.i) e.1.g e.1.v e.1.m e.1.R) [0]),k.2)
def Qhe(N:Nat)(e:U0):Option Bool:=some (decide (e.at_>=(e.L.length:Int)))
def Qf8(N:Nat)(e:List Int)(g:Int):Nat->Int->Option (Ex Bool Unit)
 |0,_=>none
 |n+1,f=>
  bif (decide (f<(e.length:Int)))then(bnd (Xb e f) λh=>
   bif (h==g)then some (.ret true)
   else Qf8 N e g n (wI (f+1)))
  else some (.nxt ())
def Qdy(N:Nat)(f:List Int)(g:Int):Option Bool:=bnd (Qf8 N f g N 0) λe=>exK e (λr=>some r) λh=>some false
def Qd8(N:Nat)(e:WW):Option Int:=bnd (QaX N e) λf=>bif (!f)then some 0 else some (wI (e.W.tdiv 4))
def Qdd(N:Nat)(f:WW)(g:Int):Nat->Int->Option (Ex Int Unit)
 |0,_=>none
 |n+1,e=>
  bif (decide (e<=4))then(bif (decide ((wI (e*f.W))>=g))then some (.ret e)
   else Qdd N f g n (wI (e+1)))
  else some (.nxt ())
def QfG(N:Nat)(f:WW)(g:Int):Option Int:=bnd (QaX N f) λh=>bif (!h)then some (-1)else bif (decide (g<1))then some (-1)else bnd (Qd8 N f) λj=>bif (decide (g<=j))then some 0 else bnd (Qdd N f g N 1) λe=>exK e (λr=>some r) λk=>some (-1)
def QhU(N:Nat)(e:Int):Option Bool:=bif (decide (e>=0))then some (decide (e<=2147483647))else some false
def Qd9(N:Nat)(e:List Wv)(h:Int):Nat->Int->Int->Option Int
 |0,_,_=>none
 |n+1,f,g=>
  bif (decide (g<(e.length:Int)))then(bnd (Xb e g) λj=>
   bif (j.k==3)then(bnd (Xb e g) λl=>
    bif (l.s==h)then Qd9 N e h n (wI (f+1)) (wI (g+1))
    else some f)
   else some f)
  else some f
def QfT(N:Nat)(e:List Wv)(f g:Int):Option Int:=bnd (Qd9 N e g N 0 (wI (f+1))) λh=>some h
def QaL(N:Nat)(f:Wm):Nat->Int->Int->Option (Ex Bool Unit)
 |0,_,_=>none
 |n+1,h,j=>
  bif (decide (j<(f.p.length:Int)))then(bnd (Xb f.p j) λe=>
   bif (!((e.k==3)==(decide (h>0))))then some (.ret false)
   else bif (decide (e.s<0))then some (.ret false)
   else bif (decide (e.s>1))then some (.ret false)
   else bnd (QhU N e.P) λw=>
   bif (!w)then some (.ret false)
   else jn (λ(g:Int)=>
    QaL N f n (if 0<(wI (g-1))then(wI (g-1))else 0) (wI (j+1))) λq=>
   bif (e.k==0)then(bif (!((e.k==0)&&((e.s==0)&&((e.u==0)&&(e.P==0)))))then some (.ret false)
    else q h)
   else jn (λ(l:Int)=>
    q l) λr=>
   bif (e.k==1)then(bif (decide (e.u<0))then some (.ret false)
    else bif (decide (e.u>f.c.W))then some (.ret false)
    else r h)
   else jn (λ(y:Int)=>
    r y) λv=>
   bif (e.k==2)then(bnd (QfG N f.c e.u) λo=>
    bif (decide (o<1))then some (.ret false)
    else bnd (QfT N f.p j e.s) λz=>
    bif (decide (z<(wI (o-1))))then some (.ret false)
    else v o)
   else bif (e.k==3)then(bif (e.u != 0)then some (.ret false)
    else bif (e.P != 0)then some (.ret false)
    else v h)
   else some (.ret false))
  else some (.nxt ())
def Qac(N:Nat)(f:Wm):Option Bool:=bnd (QaX N f.c) λh=>bif (!h)then some false else bif ((f.w.length:Int) != (wI (f.c.p*f.c.W)))then some false else bif ((f.p.length:Int) != f.c.p)then some false else bif (decide (f.s<0))then some false else bif (decide (f.s>1))then some false else jn (λ(_:Unit)=>bnd (QaL N f N 0 0) λe=>exK e (λr=>some r) λj=>some true) λg=>bif (f.b != (-1))then(bif (decide (f.b<0))then some false else bif (decide (f.b>=(f.p.length:Int)))then some false else bnd (Xb f.p f.b) λl=>bif (l.k != 1)then some false else g ())else g ()
def QdH(N:Nat)(e:WC):Option Bool:=bif (decide (e.k<0))then some false else bif (decide (e.k>3))then some false else bif (decide (e.n<0))then some false else bif (decide (e.n>255))then some false else bif (e.k != 1)then some (e.Map==0)else bif (decide (e.n<=32))then(grd (0<=(wU e.n)) <| some (decide ((wU e.Map)<(ZN .u64 1 (wU e.n)))))else some false
def Qde(N:Nat)(e:WC):Option Int:=bnd (QdH N e) λf=>bif (!f)then some 0 else some (wI (e.n+1))
def Qej(N:Nat)(f:List Int)(e g:Int):Option (Int×Bool):=bif (decide (e<4096))then some (0,false)else bif (decide (e>(wU (4096+(wU (f.length:Int))))))then some (0,false)else some ((wI (wU (e-4096))),(decide (g<=(wI ((f.length:Int)-(wI (wU (e-4096))))))))
def QgL(N:Nat)(f:List Int)(g:Int):Option (Int×Int):=bnd (Qej N f g 1) λe=>bif (!e.2)then some (0,2)else some (e.1,0)
def Qbs(N:Nat)(f:List Int)(g:Int):Option (Int×Int):=bnd (QgL N f g) λe=>bif (e.2 != 0)then some (0,e.2)else bnd (Xb f e.1) λh=>some (h,0)
def Qdl(N:Nat)(e:WW)(f:Int):Option (Int×Int×Int):=bnd (QaX N e) λg=>bif (!g)then some (0,0,1)else bif (decide (f<4096))then some (0,0,2)else bif (decide (f>=(wU (wI (4096+(wI (e.p*e.W)))))))then some (0,0,2)else grd (e.W≠0) <| grd (e.W≠0) <| some ((wI ((wI (wU (f-4096))).tdiv e.W)),((wI (wU (f-4096))).tmod e.W),0)
def Qc1(N:Nat)(e:WC):Option (Int×Int):=bnd (QdH N e) λf=>bif (!f)then some (0,1)else some ((wU ((wU ((wU (1+(wU (4*(wU e.k)))))+(wU (16*(wU e.n)))))+(ZN .u64 (wU e.Map) 16))),0)
def Qc2(N:Nat)(e:Int):Option (WC×Bool):=bnd (Qc1 N (WC.mk (wI (Y4 .u64 (YD .u64 e 2) 3)) (wI (Y4 .u64 (YD .u64 e 4) 4095)) (wW (YD .u64 e 16)))) λf=>bif (f.2 != 0)then some ((WC.mk 0 0 0),false)else bif (f.1 != e)then some ((WC.mk 0 0 0),false)else some ((WC.mk (wI (Y4 .u64 (YD .u64 e 2) 3)) (wI (Y4 .u64 (YD .u64 e 4) 4095)) (wW (YD .u64 e 16))),true)
def Qam(N:Nat)(h:Wm)(l:Int):Option (WC×Int):=bnd (Qac N h) λq=>bif (!q)then some ((WC.mk 0 0 0),1)else bnd (Qdl N h.c l) λf=>bif (f.2.2 != 0)then some ((WC.mk 0 0 0),2)else bnd (Xb h.p f.1) λe=>bnd (Qbs N h.w l) λr=>bnd (Qc2 N r.1) λg=>jn (λ(_:Unit)=>bnd (Qde N g.1) λj=>bif (e.k==1)then(bif (decide ((wI (f.2.1+j))>e.u))then some ((WC.mk 0 0 0),19)else bif (e.k==2)then(bif (f.2.1 != 0)then some ((WC.mk 0 0 0),19)else bif (j != e.u)then some ((WC.mk 0 0 0),19)else some (g.1,0))else some (g.1,0))else bif (e.k==2)then(bif (f.2.1 != 0)then some ((WC.mk 0 0 0),19)else bif (j != e.u)then some ((WC.mk 0 0 0),19)else some (g.1,0))else some (g.1,0)) λo=>bif (e.k != 1)then(bif (e.k != 2)then some ((WC.mk 0 0 0),19)else bif (decide (f.2.1>=e.u))then some ((WC.mk 0 0 0),19)else bif (!g.2)then some ((WC.mk 0 0 0),19)else o ())else bif (decide (f.2.1>=e.u))then some ((WC.mk 0 0 0),19)else bif (!g.2)then some ((WC.mk 0 0 0),19)else o ()
def QbF(N:Nat)(e:WW)(f g:Int):Option (Int×Int):=bnd (QaX N e) λh=>bif (!h)then some (0,1)else bif (decide (f<0))then some (0,2)else bif (decide (f>=e.p))then some (0,2)else bif (decide (g<0))then some (0,2)else bif (decide (g>=e.W))then some (0,2)else some ((wU (wI ((wI (4096+(wI (f*e.W))))+g))),0)
def QaA(N:Nat)(f:Wm)(l:Int)(g:Wv):Nat->Int->(List Int)->Option (Ex (List Int×Int) (List Int))
 |0,_,_=>none
 |n+1,h,e=>
  bif (decide (h<g.u))then(bnd (QbF N f.c l h) λj=>
   bnd (Qam N f j.1) λo=>
   bif (o.2 != 0)then some (.ret ([],19))
   else grd ((e.length+1)*8<=140737488355328) <|
   bif (g.k==2)then some (.nxt (e++[j.1]))
   else bnd (Qde N o.1) λp=>
   QaA N f l g n (wI (h+p)) (e++[j.1]))
  else some (.nxt e)
def Qan(N:Nat)(f:Wm)(g:Int):Option (List Int×Int):=bnd (Qac N f) λj=>bif (!j)then some ([],1)else bif (decide (g<0))then some ([],2)else bif (decide (g>=(f.p.length:Int)))then some ([],2)else bnd (Xb f.p g) λh=>bif (h.k==0)then some ([],0)else bif (h.k==3)then some ([],0)else bnd (QaA N f g h N 0 []) λe=>exK e (λr=>some r) λl=>some (l,0)
def QbM(N:Nat)(e:Wm)(h:Int)(f:List Int):Nat->Int->Option (Ex Int Unit)
 |0,_=>none
 |n+1,g=>
  bif (decide (g<(f.length:Int)))then(bnd (Xb f g) λq=>
   bnd (Qam N e q) λj=>
   bnd (Qde N j.1) λr=>
   bnd (Qd8 N e.c) λs=>
   bnd (Xb e.p h) λu=>
   bif (u.k==1)then(bif (!(decide (r<=s)))then(bnd (Xb f g) λv=>
       some (.ret v))
    else bnd (Xb e.p h) λw=>
    bif (w.k==2)then(bif (j.1.k==0)then(bnd (Xb f g) λl=>
        some (.ret l))
     else QbM N e h f n (wI (g+1)))
    else QbM N e h f n (wI (g+1)))
   else bnd (Xb e.p h) λy=>
   bif (y.k==2)then(bif (j.1.k==0)then(bnd (Xb f g) λo=>
       some (.ret o))
    else QbM N e h f n (wI (g+1)))
   else QbM N e h f n (wI (g+1)))
  else some (.nxt ())
def QfU(N:Nat)(f:Wm)(g:Int)(h:List Int):Option Int:=bnd (QbM N f g h N 0) λe=>exK e (λr=>some r) λj=>some 0
def QeD(N:Nat)(f:Wm):Nat->Int->Option Int
 |0,_=>none
 |n+1,e=>
  bnd (Xb f.p e) λg=>
  bif (g.k==3)then QeD N f n (wI (e-1))
  else some e
def Qgl(N:Nat)(e:Wm)(f:Int):Option Int:=bnd (QeD N e N f) λg=>some g
def Qb0(N:Nat)(f:Wm)(g:Int)(j:List Int)(k l:Int):Nat->Int->(List Bool)->Option (List Bool)
 |0,_,_=>none
 |n+1,e,h=>
  bif (decide (e<l))then(bnd (Xb j k) λo=>
   bif (decide ((wI ((wI ((wI ((wI o)-4096))+e))-(wI (g*f.c.W))))>=0))then(grd (h.length<=140737488355328) <|
    bif (decide ((wI ((wI ((wI ((wI o)-4096))+e))-(wI (g*f.c.W))))<(h.length:Int)))then(bnd (Xb h (wI ((wI ((wI ((wI o)-4096))+e))-(wI (g*f.c.W))))) λp=>
     Qb0 N f g j k l n (wI (e+1)) (h.set (wI ((wI ((wI ((wI o)-4096))+e))-(wI (g*f.c.W)))).toNat true))
    else Qb0 N f g j k l n (wI (e+1)) h)
   else Qb0 N f g j k l n (wI (e+1)) h)
  else some h
def Qd0(N:Nat)(g:Wm)(j:Int)(e:List Int):Nat->Int->(List Bool)->Option (List Bool)
 |0,_,_=>none
 |n+1,f,l=>
  bif (decide (f<(e.length:Int)))then(bnd (Xb e f) λq=>
   bnd (Qam N g q) λo=>
   bnd (Qde N o.1) λr=>
   jn (λ(s:Int)=>
    bnd (Qb0 N g j e f s N 0 l) λh=>
    Qd0 N g j e n (wI (f+1)) h) λp=>
   bif (o.1.k==0)then p 1
   else p r)
  else some l
def QhV(N:Nat)(e:Wm)(g:Int)(h:List Int):Option (List Bool):=grd (0<=e.c.W/\e.c.W.toNat<=140737488355328) <| bnd (Qd0 N e g h N 0 (List.replicate e.c.W.toNat false)) λf=>some f
def QhW(N:Nat)(e:Wm)(f g:Int):Option Int:=bnd (QbF N e.c f g) λh=>bnd (Qbs N e.w h.1) λj=>some j.1
def Qgm(N:Nat)(e:Wm)(f g:Int):Option Int:=bnd (QhW N e f g) λh=>some h
def QgA(N:Nat)(e:Wm)(f g:Int):Option Int:=some (wU (wI ((wI (4096+(wI (f*e.c.W))))+g)))
def Qdf(N:Nat)(f:Wm)(g:Int)(h:List Bool):Nat->Int->Option (Ex Int Unit)
 |0,_=>none
 |n+1,e=>
  bif (decide (e<(h.length:Int)))then(bnd (Xb h e) λj=>
   bif (!j)then(bnd (Qgm N f g e) λk=>
    bif (k != 0)then(bnd (QgA N f g e) λl=>
     some (.ret l))
    else Qdf N f g h n (wI (e+1)))
   else Qdf N f g h n (wI (e+1)))
  else some (.nxt ())
def Qgn(N:Nat)(f:Wm)(g:Int):Option Int:=bnd (Qgl N f g) λh=>bnd (Qan N f h) λj=>bnd (QhV N f g j.1) λk=>bnd (Qdf N f g k N 0) λe=>exK e (λr=>some r) λl=>some 0
def Qgo(N:Nat)(f:Wm)(e:Int):Option Uh:=jn (λ(_:Unit)=>bnd (Qan N f e) λg=>bif (g.2 != 0)then some (Uh.mk 3 e 0)else bnd (QfU N f e g.1) λh=>bif (h != 0)then some (Uh.mk 5 e h)else bnd (Qgn N f e) λj=>bif (j != 0)then some (Uh.mk 4 e j)else some (Uh.mk 0 0 0)) λl=>bnd (Xb f.p e) λo=>bif (o.k != 0)then(bnd (Xb f.p e) λq=>bif (q.s != f.s)then some (Uh.mk 2 e 0)else l ())else l ()
def QbU(N:Nat)(f:Wm)(g:Int):Option (WC×Int):=bnd (Qac N f) λh=>bif (!h)then some ((WC.mk 0 0 0),1)else bif (g==0)then some ((WC.mk 0 0 0),5)else bnd (Qam N f g) λe=>bif (e.2==0)then(bif (e.1.k==0)then some ((WC.mk 0 0 0),4)else some (e.1,e.2))else some (e.1,e.2)
def QaY(N:Nat)(f:Wm):Nat->Int->(List Int)->Option (Ex (List Int×Int) (List Int))
 |0,_,_=>none
 |n+1,g,h=>
  bif (decide (g<(f.p.length:Int)))then(bnd (Qan N f g) λe=>
   bif (e.2 != 0)then some (.ret ([],e.2))
   else grd ((h.length+e.1.length)*8<=140737488355328) <|
   QaY N f n (wI (g+1)) (h++e.1))
  else some (.nxt h)
def Qc3(N:Nat)(f:Wm):Option (List Int×Int):=bnd (Qac N f) λg=>bif (!g)then some ([],1)else bnd (QaY N f N 0 []) λe=>exK e (λr=>some r) λh=>some (h,0)
def Qa1(N:Nat)(h:Wm)(e:List Int×Int):Nat->Int->(List Int)->Option (List Int)
 |0,_,_=>none
 |n+1,f,g=>
  bif (decide (f<(e.1.length:Int)))then(bnd (Xb e.1 f) λj=>
   bnd (Qam N h j) λl=>
   bif (l.1.k != 0)then(bnd (Xb e.1 f) λo=>
    grd ((g.length+1)*8<=140737488355328) <|
    Qa1 N h e n (wI (f+1)) (g++[o]))
   else Qa1 N h e n (wI (f+1)) g)
  else some g
def QaK(N:Nat)(e:Wm):Option (List Int×Int):=bnd (Qc3 N e) λf=>bnd (Qa1 N e f N 0 []) λg=>some (g,f.2)
def Qcs(N:Nat)(e:WC)(f:Int):Option Bool:=bnd (QdH N e) λg=>bif (!g)then some false else bif (decide (f<0))then some false else bif (decide (f>=e.n))then some false else bif (e.k==2)then some true else bif (e.k==1)then(grd (0<=(wU f)) <| some ((Y4 .u32 (YD .u32 e.Map (wU f)) 1)==1))else some false
def QdO(N:Nat)(g:List Int)(h f:Int):Option (List Int×Int):=bif (decide (f<0))then some ([],1)else bnd (Qej N g h f) λe=>bif (!e.2)then some ([],2)else grd (0<=e.1/\e.1<=(wI (e.1+f))/\(wI (e.1+f))<=(g.length:Int)) <| grd ((min ((wI (e.1+f)).toNat-e.1.toNat) (g.length-e.1.toNat))*8<=140737488355328) <| some (((g.drop e.1.toNat).take ((wI (e.1+f)).toNat-e.1.toNat)),0)
def Qf9(N:Nat)(f:Wm)(g:Int):Option (List Int×Int):=bnd (QbU N f g) λe=>bif (e.2 != 0)then some ([],e.2)else bnd (QdO N f.w (wU (g+1)) e.1.n) λh=>some (h.1,h.2)
def QaH(N:Nat)(j:Wm)(g f:List Int×Int)(k:Int)(l:WC×Int):Nat->Int->Option (Ex Uh Unit)
 |0,_=>none
 |n+1,e=>
  bif (decide (e<(f.1.length:Int)))then(bnd (Qcs N l.1 e) λr=>
   bif r then(bnd (Xb f.1 e) λs=>
    bif (s != 0)then(bnd (Xb f.1 e) λo=>
     bnd (Qdy N g.1 o) λp=>
     bif (!p)then(bnd (Xb g.1 k) λh=>
      bnd (Qdl N j.c (wU ((wU (h+1))+(wU e)))) λq=>
      some (.ret (Uh.mk 6 q.1 (wU ((wU (h+1))+(wU e))))))
     else QaH N j g f k l n (wI (e+1)))
    else QaH N j g f k l n (wI (e+1)))
   else QaH N j g f k l n (wI (e+1)))
  else some (.nxt ())
def Qcf(N:Nat)(h:Wm)(f:List Int×Int):Nat->Int->Option (Ex Uh Unit)
 |0,_=>none
 |n+1,g=>
  bif (decide (g<(f.1.length:Int)))then(bnd (Xb f.1 g) λj=>
   bnd (QbU N h j) λk=>
   bnd (Xb f.1 g) λl=>
   bnd (Qf9 N h l) λo=>
   bnd (QaH N h f o g k N 0) λe=>exK e (λr=>some (.ret r)) λp=>
   Qcf N h f n (wI (g+1)))
  else some (.nxt ())
def Qfd(N:Nat)(f:Wm):Option Uh:=bnd (QaK N f) λg=>bnd (Qcf N f g N 0) λe=>exK e (λr=>some r) λh=>some (Uh.mk 0 0 0)
def Qb6(N:Nat)(e:Wm):Nat->Int->Option (Ex Uh Unit)
 |0,_=>none
 |n+1,f=>
  bif (decide (f<(e.p.length:Int)))then(bnd (Qgo N e f) λg=>
   bif (g.Fault != 0)then some (.ret g)
   else Qb6 N e n (wI (f+1)))
  else some (.nxt ())
def Qb7(N:Nat)(e:Wm):Nat->Int->Int->Option Int
 |0,_,_=>none
 |n+1,g,f=>
  bif (decide (f<(e.p.length:Int)))then(bnd (Xb e.p f) λh=>
   bif (h.k==1)then(bnd (Xb e.p f) λj=>
    bif (decide (j.P>0))then Qb7 N e n (wI (g+1)) (wI (f+1))
    else Qb7 N e n g (wI (f+1)))
   else Qb7 N e n g (wI (f+1)))
  else some g
def Qhv(N:Nat)(f:Wm):Option Uh:=bnd (Qac N f) λj=>bif (!j)then some (Uh.mk 1 0 0)else bnd (Qb6 N f N 0) λe=>exK e (λr=>some r) λk=>bnd (Qfd N f) λh=>bif (h.Fault != 0)then some h else bnd (Qb7 N f N 0 0) λg=>bif (decide (g>(wI (f.c.p.tdiv 4))))then some (Uh.mk 7 0 0)else some (Uh.mk 0 0 0)
def Qbt(N:Nat)(f:Wm):Option Bool:=bnd (Qhv N f) λe=>some ((e.Fault==0)&&((e.Page==0)&&(e.Addr==0)))
def QfV(N:Nat)(f:List Ux)(g:Int):Nat->Int->Option (Ex Int Unit)
 |0,_=>none
 |n+1,e=>
  bif (decide (e<(f.length:Int)))then(bnd (Xb f e) λh=>
   bif (h.a==g)then some (.ret e)
   else QfV N f g n (wI (e+1)))
  else some (.nxt ())
def QhJ(N:Nat)(f:List Ux)(g:Int):Option Int:=bnd (QfV N f g N 0) λe=>exK e (λr=>some r) λh=>some (-1)
def Qgp(N:Nat)(e:Wm)(f:Int):Option Int:=bnd (Qdl N e.c f) λg=>some g.1
def Qb8(N:Nat)(p:Wm)(e:List Ux)(q:List Int×Int):Nat->Int->(List Int)->Option (Ex Bool (List Int))
 |0,_,_=>none
 |n+1,f,h=>
  bif (decide (f<(e.length:Int)))then(bnd (Xb e f) λr=>
   bnd (Qdy N q.1 r.a) λs=>
   bif (!s)then some (.ret false)
   else bnd (Xb e f) λu=>
   bnd (QhJ N e u.a) λv=>
   bif (v != f)then some (.ret false)
   else bnd (Xb e f) λw=>
   bif (decide (w.M<1))then some (.ret false)
   else bnd (Xb e f) λj=>
   bif (decide (j.M>1000))then some (.ret false)
   else bnd (Xb e f) λk=>
   bnd (Qgp N p k.a) λg=>
   bnd (Xb h g) λl=>
   bnd (Xb e f) λo=>
   bnd (Xb h g) λy=>
   Qb8 N p e q n (wI (f+1)) (h.set g.toNat (wI (l+o.M))))
  else some (.nxt h)
def Qdz(N:Nat)(g:Wm)(f:List Int):Nat->Int->Option (Ex Bool Unit)
 |0,_=>none
 |n+1,e=>
  bif (decide (e<(g.p.length:Int)))then(bnd (Xb g.p e) λh=>
   bnd (Xb f e) λj=>
   bif (h.P != j)then some (.ret false)
   else Qdz N g f n (wI (e+1)))
  else some (.nxt ())
def Qbk(N:Nat)(f:Wm)(h:List Ux):Option Bool:=bnd (Qbt N f) λj=>bif (!j)then some false else bif (decide ((h.length:Int)>64))then some false else bnd (QaK N f) λk=>grd (0<=(f.p.length:Int)/\(f.p.length:Int).toNat*8<=140737488355328) <| bnd (Qb8 N f h k N 0 (List.replicate (f.p.length:Int).toNat (0:Int))) λe=>exK e (λr=>some r) λg=>bnd (Qdz N f g N 0) λe=>exK e (λr=>some r) λl=>some true
def QeE(N:Nat)(f:Wo)(g:Int):Nat->Int->Int->Option Int
 |0,_,_=>none
 |n+1,h,e=>
  bif (decide (e<g))then(bnd (Xb f.S e) λj=>
   bif j.V then QeE N f g n (wI (h+1)) (wI (e+1))
   else QeE N f g n h (wI (e+1)))
  else some h
def Qhf(N:Nat)(e:Wo)(f g:Int):Option Int:=bnd (QeE N e g N 0 f) λh=>some h
def QiI(N:Nat)(e:Wo)(f:Int):Option Int:=bif (decide ((wI (f+1))<(e.x.length:Int)))then(bnd (Xb e.x (wI (f+1))) λg=>some g.O)else some (e.S.length:Int)
def Qea(N:Nat)(e:Wo):Nat->Int->Option (Ex Bool Unit)
 |0,_=>none
 |n+1,f=>
  bif (decide (f<(e.i.length:Int)))then(bnd (Xb e.i f) λg=>
   bif (decide (g<0))then some (.ret false)
   else bnd (Xb e.i f) λh=>
   bif (decide (h>4095))then some (.ret false)
   else Qea N e n (wI (f+1)))
  else some (.nxt ())
def Qaw(N:Nat)(f:Wo):Nat->Int->Int->Option (Ex Bool Unit)
 |0,_,_=>none
 |n+1,h,g=>
  bif (decide (g<(f.S.length:Int)))then(bnd (Xb f.S g) λe=>
   bif (decide (e.J<=h))then some (.ret false)
   else bif (decide (e.J>(f.i.length:Int)))then some (.ret false)
   else bnd (Xb f.i (wI (e.J-1))) λj=>
   bif (j != g)then some (.ret false)
   else bif (!(e.V==(e.a != 0)))then some (.ret false)
   else Qaw N f n e.J (wI (g+1)))
  else some (.nxt ())
def Qaq(N:Nat)(g:Wo):Nat->Int->Int->Option (Ex Bool Unit)
 |0,_,_=>none
 |n+1,h,f=>
  bif (decide (f<(g.x.length:Int)))then(bnd (Xb g.x f) λe=>
   bif (f==0)then(bif (e.O != 0)then some (.ret false)
    else bif (!e.B0)then some (.ret false)
    else bif (decide (e.O<h))then some (.ret false)
    else bif (decide (e.O>(g.S.length:Int)))then some (.ret false)
    else bif (decide (e.C0<0))then some (.ret false)
    else bif (decide (e.C0>64))then some (.ret false)
    else Qaq N g n e.O (wI (f+1)))
   else bif (decide (e.O<h))then some (.ret false)
   else bif (decide (e.O>(g.S.length:Int)))then some (.ret false)
   else bif (decide (e.C0<0))then some (.ret false)
   else bif (decide (e.C0>64))then some (.ret false)
   else Qaq N g n e.O (wI (f+1)))
  else some (.nxt ())
def QdA(N:Nat)(f:Wo):Nat->Int->Option (Ex Bool Unit)
 |0,_=>none
 |n+1,e=>
  bif (decide (e<(f.x.length:Int)))then(bnd (Xb f.x e) λg=>
   bnd (QiI N f e) λh=>
   bnd (Qhf N f g.O h) λj=>
   bnd (Xb f.x e) λk=>
   bif (decide (j>k.C0))then some (.ret false)
   else QdA N f n (wI (e+1)))
  else some (.nxt ())
def Qct(N:Nat)(f:Wo):Option Bool:=jn (λ(_:Unit)=>bnd (Qea N f N 0) λe=>exK e (λr=>some r) λk=>bnd (Qaw N f N 0 0) λe=>exK e (λr=>some r) λl=>bnd (Qaq N f N 0 0) λe=>exK e (λr=>some r) λh=>bnd (QdA N f N 0) λe=>exK e (λr=>some r) λj=>some true) λg=>bif (decide ((f.i.length:Int)>4096))then some false else bif (decide ((f.x.length:Int)>64))then some false else bif ((f.x.length:Int)==0)then(bif (decide ((f.S.length:Int)>0))then some false else g ())else g ()
def QdB(N:Nat)(f:Ws):Nat->Int->Option (Ex Bool Unit)
 |0,_=>none
 |n+1,g=>
  bif (decide (g<(f.e.length:Int)))then(bnd (Xb f.e g) λh=>
   bif (decide (h.G<1))then some (.ret false)
   else bif (decide (h.G>4294967295))then some (.ret false)
   else bif (!h.V)then(bif (h.a != 0)then some (.ret false)
    else QdB N f n (wI (g+1)))
   else QdB N f n (wI (g+1)))
  else some (.nxt ())
def Qcu(N:Nat)(f:Ws):Option Bool:=bnd (QdB N f N 0) λe=>exK e (λr=>some r) λg=>some (decide ((f.e.length:Int)<=64))
def QbG(N:Nat)(f:Ws):Nat->Int->(List Int)->Option (List Int)
 |0,_,_=>none
 |n+1,g,h=>
  bif (decide (g<(f.e.length:Int)))then(bnd (Qcu N f) λj=>
   bif j then(bnd (Xb f.e g) λk=>
    bif k.V then(bnd (Xb f.e g) λl=>
     grd ((h.length+1)*8<=140737488355328) <|
     QbG N f n (wI (g+1)) (h++[l.a]))
    else QbG N f n (wI (g+1)) h)
   else some h)
  else some h
def QbD(N:Nat)(e:Ws):Option (List Int):=bnd (QbG N e N 0 []) λf=>some f
def QbH(N:Nat)(e:Wo):Nat->Int->(List Int)->Option (List Int)
 |0,_,_=>none
 |n+1,f,g=>
  bif (decide (f<(e.S.length:Int)))then(bnd (Qct N e) λh=>
   bif h then(bnd (Xb e.S f) λj=>
    bif j.V then(bnd (Xb e.S f) λk=>
     grd ((g.length+1)*8<=140737488355328) <|
     QbH N e n (wI (f+1)) (g++[k.a]))
    else QbH N e n (wI (f+1)) g)
   else some g)
  else some g
def Qdg(N:Nat)(e:Wo):Option (List Int):=bnd (QbH N e N 0 []) λf=>some f
def QaM(N:Nat)(e:List Int)(g:List Int×Int):Nat->Int->Option (Ex Bool Unit)
 |0,_=>none
 |n+1,f=>
  bif (decide (f<(e.length:Int)))then(bnd (Xb e f) λh=>
   bif (h != 0)then(bnd (Xb e f) λj=>
    bnd (Qdy N g.1 j) λk=>
    bif (!k)then some (.ret false)
    else QaM N e g n (wI (f+1)))
   else QaM N e g n (wI (f+1)))
  else some (.nxt ())
def Qbu(N:Nat)(f:Wm)(g:List Int):Option Bool:=bnd (Qbt N f) λh=>bif (!h)then some false else bnd (QaK N f) λj=>bnd (QaM N g j N 0) λe=>exK e (λr=>some r) λk=>some true
def QbP(N:Nat)(e:WJ):Option Bool:=bnd (Qbk N e.h e.P) λo=>bif (!o)then some false else bnd (Qct N e.l) λp=>bif (!p)then some false else bnd (Qcu N e.g) λq=>bif (!q)then some false else bnd (Qcu N e.v) λr=>bif (!r)then some false else bnd (QbD N e.g) λf=>bnd (Qdy N f 0) λs=>bif s then some false else grd (e.R.length*8<=140737488355328) <| bnd (Qdg N e.l) λj=>grd ((e.R.length+j.length)*8<=140737488355328) <| grd (((e.R.length+j.length)+f.length)*8<=140737488355328) <| bnd (QbD N e.v) λk=>grd ((((e.R.length+j.length)+f.length)+k.length)*8<=140737488355328) <| bnd (Qbu N e.h (((e.R++j)++f)++k)) λu=>some u
def Qae(N:Nat)(e:Int):Option (WJ×Int×Int):=some ((WJ.mk zHp (Wo.mk [] [] []) (Ws.mk []) (Ws.mk []) [] []),0,e)
def QbQ(N:Nat)(f e g:Int):Option (WC×Bool):=bif (f==1)then(bif (decide (e<=2147483647))then some ((WC.mk f (wI (Y4 .u64 e 2147483647)) (wW g)),(decide (g<=4294967295)))else some ((WC.mk f (wI (Y4 .u64 e 2147483647)) (wW g)),false))else some ((WC.mk f (wI (Y4 .u64 e 2147483647)) 0),(decide (e<=2147483647)))
def QcA(N:Nat)(f:WW)(e:WC):Option Bool:=bnd (QdH N e) λg=>bif g then(bif (e.k != 0)then(bnd (Qde N e) λh=>bnd (QfG N f h) λj=>some (j != (-1)))else some false)else some false
def Qes(N:Nat)(e:Wo)(f:Int):Option (Wo×Int×Int×Int):=bnd (Qct N e) λg=>bif (!g)then some ((Wo.mk [] [] []),0,0,1)else bif (f==0)then some ((Wo.mk [] [] []),0,0,1)else bif ((e.x.length:Int)==0)then some ((Wo.mk [] [] []),0,0,9)else bnd (Xb e.x (wI ((e.x.length:Int)-1))) λh=>bnd (Qhf N e h.O (e.S.length:Int)) λj=>bnd (Xb e.x (wI ((e.x.length:Int)-1))) λk=>bif (decide (j>=k.C0))then some ((Wo.mk [] [] []),0,0,10)else bif ((e.i.length:Int)==4096)then some ((Wo.mk [] [] []),0,0,18)else grd (e.i.length*8<=140737488355328) <| grd ((e.i.length+1)*8<=140737488355328) <| grd (e.S.length*24<=140737488355328) <| grd ((e.S.length+1)*24<=140737488355328) <| some ((Wo.mk (e.S++[(UE.mk (wI ((e.i.length:Int)+1)) f true)]) e.x (e.i++[(e.S.length:Int)])),(e.S.length:Int),(wI ((e.i.length:Int)+1)),0)
def QcB(N:Nat)(g:Wm)(h:List Int×Int):Nat->Int->(List Wv)->Option (List Wv)
 |0,_,_=>none
 |n+1,f,e=>
  grd (e.length<=140737488355328) <|
  bif (decide (f<(e.length:Int)))then(bnd (Xb e f) λl=>
   bif (l.k==1)then(bif (decide (l.P>0))then(bnd (Xb e f) λj=>
       QcB N g h n (wI (f+1)) (e.set f.toNat (Wv.mk j.k (wI (1-g.s)) j.u j.P)))
    else QcB N g h n (wI (f+1)) e)
   else QcB N g h n (wI (f+1)) e)
  else some e
def QdI(N:Nat)(e:Wm):Option (WE×Int):=bnd (Qac N e) λg=>bif (!g)then some ((WE.mk zHp [] [] [] 0 (WQ.mk 0 0 0 0 0 0)),1)else bnd (Qbt N e) λh=>bif (!h)then some ((WE.mk zHp [] [] [] 0 (WQ.mk 0 0 0 0 0 0)),19)else bnd (QaK N e) λf=>grd (e.p.length*32<=140737488355328) <| bnd (QcB N e f N 0 e.p) λj=>some ((WE.mk (Wm.mk e.c e.w j e.s e.b) f.1 [] [] 0 (WQ.mk 0 0 0 0 0 0)),0)
def Qb9(N:Nat)(f:List Int)(g:Int×Bool):Nat->Int->(List Int)->Option (List Int)
 |0,_,_=>none
 |n+1,e,h=>
  bif (decide (e<(f.length:Int)))then(bnd (Xb f e) λj=>
   bnd (Xb h (wI (g.1+e))) λk=>
   Qb9 N f g n (wI (e+1)) (h.set (wI (g.1+e)).toNat j))
  else some h
def Qcv(N:Nat)(e:List Int)(h:Int)(f:List Int):Option (List Int×Int):=bnd (Qej N e h (f.length:Int)) λg=>bif (!g.2)then some ([],2)else grd (e.length*8<=140737488355328) <| bnd (Qb9 N f g N 0 e) λj=>some (j,0)
def Qc4(N:Nat)(f:List Int)(g h:Int):Option (List Int×Int):=bnd (Qcv N f g [h]) λe=>some (e.1,e.2)
def Qc5(N:Nat)(e:Int):Option (Int×Bool):=bif ((e.tmod 4) != 2)then some (0,false)else bif (decide ((YD .u64 e 2)>=4294967296))then some (0,false)else some ((YD .u64 e 2),true)
def QdC(N:Nat)(e:WE)(g:Int):Nat->Int->Option (Ex Bool Unit)
 |0,_=>none
 |n+1,f=>
  bif (decide (f<(e.t.length:Int)))then(bnd (Xb e.t f) λh=>
   bif (h==g)then some (.ret true)
   else QdC N e g n (wI (f+1)))
  else some (.nxt ())
def Qhw(N:Nat)(f:WE)(g:Int):Option Bool:=bnd (QdC N f g N 0) λe=>exK e (λr=>some r) λh=>some false
def QdD(N:Nat)(e:WE)(f:Int):Option Bool:=bif (decide (f<0))then some false else bif (decide (f>=(e.h.p.length:Int)))then some false else bnd (Xb e.h.p f) λg=>bif (g.k==1)then(bif (g.s != e.h.s)then(bnd (Qhw N e f) λj=>some (!j))else some false)else some false
def Qek(N:Nat)(e:WE)(g:Int):Option WE:=grd (e.q.length*8<=140737488355328) <| grd ((e.q.length+1)*8<=140737488355328) <| some (WE.mk e.h e.o e.t (e.q++[g]) e.d (WQ.mk e.r.j (wI (e.r.K+1)) e.r.F e.r.E e.r.f e.r.y))
def QbI(N:Nat)(g:List Wv):Nat->Int->(List Oq)->Option (List Oq)
 |0,_,_=>none
 |n+1,f,e=>
  bif (decide (f<(g.length:Int)))then(bnd (Xb g f) λj=>
   bif (j.k != 0)then QbI N g n (wI (f+1)) e
   else grd (e.length<=140737488355328) <|
   jn (λ(_:Unit)=>
    grd ((e.length+1)*16<=140737488355328) <|
    QbI N g n (wI (f+1)) (e++[(Oq.mk f 1)])) λh=>
   bif (decide ((e.length:Int)>0))then(bnd (Xb e (wI ((e.length:Int)-1))) λl=>
    bnd (Xb e (wI ((e.length:Int)-1))) λo=>
    bif ((wI (l.O+o.Len))==f)then(bnd (Xb e (wI ((e.length:Int)-1))) λp=>
     bnd (Xb e (wI ((e.length:Int)-1))) λq=>
     QbI N g n (wI (f+1)) (e.set (wI ((e.length:Int)-1)).toNat (Oq.mk q.O (wI (p.Len+1)))))
    else h ())
   else h ())
  else some e
def Qhg(N:Nat)(e:List Wv):Option (List Oq):=bnd (QbI N e N 0 []) λf=>some f
def QbN(N:Nat)(g:Int)(e:List Oq):Nat->Int->Option (Ex Int Unit)
 |0,_=>none
 |n+1,f=>
  bif (decide (f<(e.length:Int)))then(bif (decide (g>=1))then(bnd (Xb e f) λh=>
      bif (decide (h.Len>=g))then(bnd (Xb e f) λj=>
       some (.ret j.O))
      else QbN N g e n (wI (f+1)))
   else QbN N g e n (wI (f+1)))
  else some (.nxt ())
def Qby(N:Nat)(f:List Wv)(g:Int):Option Int:=bnd (Qhg N f) λh=>bnd (QbN N g h N 0) λe=>exK e (λr=>some r) λj=>some (-1)
def QeF(N:Nat)(f h:Int)(l j:Wv):Nat->Int->(List Wv)->Option (Ex (List Wv×Int) (List Wv))
 |0,_,_=>none
 |n+1,e,g=>
  bif (decide (e<h))then(bnd (Xb g (wI (f+e))) λo=>
   bif (o.k != 0)then some (.ret ([],20))
   else bnd (Xb g (wI (f+e))) λp=>
   QeF N f h l j n (wI (e+1)) (g.set (wI (f+e)).toNat j))
  else some (.nxt g)
def QdP(N:Nat)(g:List Wv)(f h:Int)(j l:Wv):Option (List Wv×Int):=bif (decide (f<0))then some ([],2)else bif (decide (f>=(g.length:Int)))then some ([],2)else bif (decide (h>(wI ((g.length:Int)-f))))then some ([],2)else grd (g.length*32<=140737488355328) <| bnd (QeF N f h j l N 0 g) λe=>exK e (λr=>some r) λk=>bnd (Xb k f) λo=>some ((k.set f.toNat j),0)
def QbR(N:Nat)(g:List Wv)(h e:Int):Option (List Wv×Int):=bif (decide (e<0))then some ([],1)else bif (decide (e>1))then some ([],1)else bnd (QdP N g h 1 (Wv.mk 1 e 0 0) (Wv.mk 0 0 0 0)) λf=>some (f.1,f.2)
def Qc6(N:Nat)(e:WE)(y:Int):Option (WE×Int×Bool):=grd (e.h.p.length*32<=140737488355328) <| jn (λ(_:Unit)=>bnd (Qby N e.h.p 1) λf=>bif (decide (f<0))then some ((WE.mk zHp [] [] [] 0 (WQ.mk 0 0 0 0 0 0)),0,false)else bnd (QbR N e.h.p f (wI (1-e.h.s))) λv=>grd (e.t.length*8<=140737488355328) <| grd ((e.t.length+1)*8<=140737488355328) <| bnd (Xb v.1 f) λz=>bnd (Xb v.1 f) λA=>bnd (Xb v.1 f) λg=>some ((WE.mk (Wm.mk e.h.c e.h.w (v.1.set f.toNat (Wv.mk g.k g.s (wI (A.u+y)) g.P)) e.h.s e.h.b) e.o (e.t++[f]) e.q e.d e.r),(wU (wI ((wI (4096+(wI (f*e.h.c.W))))+z.u))),true)) λE=>bif (decide ((e.t.length:Int)>0))then(bnd (Xb e.t (wI ((e.t.length:Int)-1))) λG=>bnd (Xb e.h.p G) λH=>bif (decide ((wI (H.u+y))<=e.h.c.W))then(bnd (Xb e.t (wI ((e.t.length:Int)-1))) λl=>bnd (Xb e.h.p l) λB=>bnd (Xb e.h.p l) λD=>bnd (Xb e.h.p l) λj=>some ((WE.mk (Wm.mk e.h.c e.h.w (e.h.p.set l.toNat (Wv.mk j.k j.s (wI (D.u+y)) j.P)) e.h.s e.h.b) e.o e.t e.q e.d e.r),(wU (wI ((wI (4096+(wI (l*e.h.c.W))))+B.u))),true))else E ())else E ()
def Qgq(N:Nat)(f:List Int)(h j k:Int):Option (List Int×Int):=bnd (QdO N f j k) λe=>bif (e.2 != 0)then some ([],e.2)else bnd (Qcv N f h e.1) λg=>some (g.1,g.2)
def Qdh(N:Nat)(e:Int):Option (Int×Int):=bif (decide (e>=4294967296))then some (0,1)else some ((wU ((wU (4*e))+2)),0)
def QaR(N:Nat)(l:WE)(o:Int):Nat->Int->(List Wv)->Option (List Wv)
 |0,_,_=>none
 |n+1,f,e=>
  grd (e.length<=140737488355328) <|
  bif (decide (f<(e.length:Int)))then(bnd (Xb e f) λj=>
   bif (j.k==3)then(bnd (Xb e f) λg=>
    QaR N l o n (wI (f+1)) (e.set f.toNat (Wv.mk g.k (wI (1-l.h.s)) g.u g.P)))
   else some e)
  else some e
def Qbb(N:Nat)(g:WE)(l:Int):Option (WE×Int×Int):=bif (l==0)then some (g,l,0)else bnd (Qdy N g.q l) λO=>bif O then some (g,l,0)else bnd (Qdy N g.o l) λR=>bif (!R)then some ((WE.mk zHp [] [] [] 0 (WQ.mk 0 0 0 0 0 0)),0,19)else bnd (Qbs N g.h.w l) λL=>bnd (Qc5 N L.1) λM=>bif M.2 then some (g,M.1,0)else bnd (Qdl N g.h.c l) λv=>bif (v.2.2 != 0)then some ((WE.mk zHp [] [] [] 0 (WQ.mk 0 0 0 0 0 0)),0,19)else bif (decide (v.1>=(g.h.p.length:Int)))then some ((WE.mk zHp [] [] [] 0 (WQ.mk 0 0 0 0 0 0)),0,19)else bnd (QdD N g v.1) λS=>bif S then(bnd (Qek N g l) λT=>some (T,l,0))else bnd (Xb g.h.p v.1) λU=>bif (U.k==2)then(grd (g.h.p.length*32<=140737488355328) <| bnd (Xb g.h.p v.1) λA=>bnd (QaR N g l N (wI (v.1+1)) (g.h.p.set v.1.toNat (Wv.mk A.k (wI (1-g.h.s)) A.u A.P))) λB=>bnd (Qek N (WE.mk (Wm.mk g.h.c g.h.w B g.h.s g.h.b) g.o g.t g.q g.d g.r) l) λD=>some (D,l,0))else bnd (Qc2 N L.1) λG=>bnd (Qde N G.1) λz=>bnd (Qc6 N g z) λe=>bif (!e.2.2)then some ((WE.mk zHp [] [] [] 0 (WQ.mk 0 0 0 0 0 0)),0,3)else bnd (Qgq N e.1.h.w e.2.1 l z) λH=>bnd (Qdh N e.2.1) λI=>bnd (Qc4 N H.1 l I.1) λJ=>grd (e.1.q.length*8<=140737488355328) <| grd ((e.1.q.length+1)*8<=140737488355328) <| some ((WE.mk (Wm.mk e.1.h.c J.1 e.1.h.p e.1.h.s e.1.h.b) e.1.o e.1.t (e.1.q++[e.2.1]) e.1.d (WQ.mk (wI (e.1.r.j+1)) e.1.r.K e.1.r.F e.1.r.E e.1.r.f e.1.r.y)),e.2.1,0)
def Qbn(N:Nat)(G:List Int):Nat->Int->Int->Int->(List Int)->(List Wv)->Int->Int->(List Int)->(List Int)->(List Int)->Int->Int->Int->Int->Int->Int->Int->(List Int)->Option (Ex (WE×List Int×Int) (Int×Int×List Int×List Wv×Int×Int×List Int×List Int×List Int×Int×Int×Int×Int×Int×Int×Int×List Int))
 |0,_,_,_,_,_,_,_,_,_,_,_,_,_,_,_,_,_,_=>none
 |n+1,H,J,L,M,O,R,S,T,U,k,l,u,v,z,A,B,D,g=>
  bif (decide (H<(G.length:Int)))then(bnd (Xb G H) λI=>
   bnd (Qbb N (WE.mk (Wm.mk (WW.mk J L) M O R S) T U k l (WQ.mk u v z A B D)) I) λe=>
   bif (e.2.2 != 0)then some (.ret ((WE.mk zHp [] [] [] 0 (WQ.mk 0 0 0 0 0 0)),[],e.2.2))
   else grd ((g.length+1)*8<=140737488355328) <|
   Qbn N G n (wI (H+1)) e.1.h.c.W e.1.h.c.p e.1.h.w e.1.h.p e.1.h.s e.1.h.b e.1.o e.1.t e.1.q e.1.d e.1.r.j e.1.r.K e.1.r.F e.1.r.E e.1.r.f e.1.r.y (g++[e.2.1]))
  else some (.nxt (J,L,M,O,R,S,T,U,k,l,u,v,z,A,B,D,g))
def Qel(N:Nat)(k:WE)(l:List Int):Option (WE×List Int×Int):=bnd (Qbn N l N 0 k.h.c.W k.h.c.p k.h.w k.h.p k.h.s k.h.b k.o k.t k.q k.d k.r.j k.r.K k.r.F k.r.E k.r.f k.r.y []) λe=>exK e (λr=>some r) λg=>some ((WE.mk (Wm.mk (WW.mk g.1 g.2.1) g.2.2.1 g.2.2.2.1 g.2.2.2.2.1 g.2.2.2.2.2.1) g.2.2.2.2.2.2.1 g.2.2.2.2.2.2.2.1 g.2.2.2.2.2.2.2.2.1 g.2.2.2.2.2.2.2.2.2.1 (WQ.mk g.2.2.2.2.2.2.2.2.2.2.1 g.2.2.2.2.2.2.2.2.2.2.2.1 g.2.2.2.2.2.2.2.2.2.2.2.2.1 g.2.2.2.2.2.2.2.2.2.2.2.2.2.1 g.2.2.2.2.2.2.2.2.2.2.2.2.2.2.1 g.2.2.2.2.2.2.2.2.2.2.2.2.2.2.2.1)),g.2.2.2.2.2.2.2.2.2.2.2.2.2.2.2.2,0)
def Qe4(N:Nat)(e:WE)(f:Int):Option WC:=bnd (Qbs N e.h.w f) λg=>bnd (Qc2 N g.1) λj=>some j.1
def Qcg(N:Nat)(e:WC):Nat->Int->(List Int)->Option (List Int)
 |0,_,_=>none
 |n+1,f,g=>
  bif (decide (f<e.n))then(bnd (QdH N e) λh=>
   bif h then(bnd (Qcs N e f) λj=>
    bif j then(grd ((g.length+1)*8<=140737488355328) <|
     Qcg N e n (wI (f+1)) (g++[f]))
    else Qcg N e n (wI (f+1)) g)
   else some g)
  else some g
def Qga(N:Nat)(e:WC):Option (List Int):=bnd (Qcg N e N 0 []) λf=>some f
def QbJ(N:Nat)(J:Int)(L:List Int):Nat->Int->Int->Int->(List Int)->(List Wv)->Int->Int->(List Int)->(List Int)->(List Int)->Int->Int->Int->Int->Int->Int->Int->Option (Ex (WE×Bool×Int) (Int×Int×List Int×List Wv×Int×Int×List Int×List Int×List Int×Int×Int×Int×Int×Int×Int×Int))
 |0,_,_,_,_,_,_,_,_,_,_,_,_,_,_,_,_,_=>none
 |n+1,M,T,U,O,V,Y,g,k,l,u,v,z,A,B,D,G,H=>
  bif (decide (M<(L.length:Int)))then(bnd (Xb L M) λI=>
   bnd (Qbs N O (wU ((wU (J+1))+(wU I)))) λR=>
   bnd (Qbb N (WE.mk (Wm.mk (WW.mk T U) O V Y g) k l u v (WQ.mk z A B D G H)) R.1) λe=>
   bif (e.2.2 != 0)then some (.ret ((WE.mk zHp [] [] [] 0 (WQ.mk 0 0 0 0 0 0)),false,e.2.2))
   else bnd (Qc4 N e.1.h.w (wU ((wU (J+1))+(wU I))) e.2.1) λS=>
   QbJ N J L n (wI (M+1)) e.1.h.c.W e.1.h.c.p S.1 e.1.h.p e.1.h.s e.1.h.b e.1.o e.1.t e.1.q e.1.d e.1.r.j e.1.r.K e.1.r.F e.1.r.E e.1.r.f e.1.r.y)
  else some (.nxt (T,U,O,V,Y,g,k,l,u,v,z,A,B,D,G,H))
def Qgr(N:Nat)(k:WE):Option (WE×Bool×Int):=bif (decide (k.d>=(k.q.length:Int)))then some (k,false,0)else bnd (Xb k.q k.d) λl=>bnd (Qe4 N k l) λv=>bnd (Qga N v) λu=>bnd (QbJ N l u N 0 k.h.c.W k.h.c.p k.h.w k.h.p k.h.s k.h.b k.o k.t k.q k.d k.r.j k.r.K k.r.F k.r.E k.r.f k.r.y) λe=>exK e (λr=>some r) λg=>some ((WE.mk (Wm.mk (WW.mk g.1 g.2.1) g.2.2.1 g.2.2.2.1 g.2.2.2.2.1 g.2.2.2.2.2.1) g.2.2.2.2.2.2.1 g.2.2.2.2.2.2.2.1 g.2.2.2.2.2.2.2.2.1 (wI (g.2.2.2.2.2.2.2.2.2.1+1)) (WQ.mk g.2.2.2.2.2.2.2.2.2.2.1 g.2.2.2.2.2.2.2.2.2.2.2.1 g.2.2.2.2.2.2.2.2.2.2.2.2.1 g.2.2.2.2.2.2.2.2.2.2.2.2.2.1 g.2.2.2.2.2.2.2.2.2.2.2.2.2.2.1 (wI ((wI (g.2.2.2.2.2.2.2.2.2.2.2.2.2.2.2+1))+(u.length:Int))))),true,0)
def Qb1(N:Nat):Nat->Int->Int->(List Int)->(List Wv)->Int->Int->(List Int)->(List Int)->(List Int)->Int->Int->Int->Int->Int->Int->Int->Option (WE×Int)
 |0,_,_,_,_,_,_,_,_,_,_,_,_,_,_,_,_=>none
 |n+1,B,D,G,H,I,J,L,M,O,g,k,l,u,v,z,A=>
  bnd (Qgr N (WE.mk (Wm.mk (WW.mk B D) G H I J) L M O g (WQ.mk k l u v z A))) λe=>
  bif (e.2.2 != 0)then some ((WE.mk zHp [] [] [] 0 (WQ.mk 0 0 0 0 0 0)),e.2.2)
  else bif (!e.2.1)then some (e.1,0)
  else Qb1 N n e.1.h.c.W e.1.h.c.p e.1.h.w e.1.h.p e.1.h.s e.1.h.b e.1.o e.1.t e.1.q e.1.d e.1.r.j e.1.r.K e.1.r.F e.1.r.E e.1.r.f e.1.r.y
def QfH(N:Nat)(e:WE):Option (WE×Int):=bnd (Qb1 N N e.h.c.W e.h.c.p e.h.w e.h.p e.h.s e.h.b e.o e.t e.q e.d e.r.j e.r.K e.r.F e.r.E e.r.f e.r.y) λr=>some r
def Qem(N:Nat)(f:WE)(e:Int):Option Int:=bnd (Qdy N f.q e) λg=>bif g then some e else bnd (Qbs N f.h.w e) λj=>bnd (Qc5 N j.1) λk=>some k.1
def QbK(N:Nat)(e:WE)(k:List Wv)(l:Wv)(g o:Int):Nat->Int->(List Int)->Option (List Int)
 |0,_,_=>none
 |n+1,f,j=>
  bif (decide (f<e.h.c.W))then(bnd (Xb j (wI ((wI (g*e.h.c.W))+f))) λp=>
   QbK N e k l g o n (wI (f+1)) (j.set (wI ((wI (g*e.h.c.W))+f)).toNat 0))
  else some j
def Qbc(N:Nat)(g:WE):Nat->Int->Int->(List Int)->(List Wv)->Option (Int×List Int×List Wv)
 |0,_,_,_,_=>none
 |n+1,f,j,l,e=>
  grd (e.length<=140737488355328) <|
  bif (decide (f<(e.length:Int)))then(bnd (Xb e f) λo=>
   bif (o.k==0)then Qbc N g n (wI (f+1)) j l e
   else bif (o.s != g.h.s)then Qbc N g n (wI (f+1)) j l e
   else bnd (Xb e f) λq=>
   bnd (QbK N g e o f j N 0 l) λp=>
   Qbc N g n (wI (f+1)) (wI (j+1)) p (e.set f.toNat (Wv.mk 0 0 0 0)))
  else some (j,l,e)
def QeZ(N:Nat)(e:WE):Option WE:=grd (e.h.p.length*32<=140737488355328) <| grd (e.h.w.length*8<=140737488355328) <| bnd (Qbc N e N 0 e.r.E e.h.w e.h.p) λg=>some (WE.mk (Wm.mk e.h.c g.2.1 g.2.2 e.h.s e.h.b) e.o e.t e.q e.d (WQ.mk e.r.j e.r.K e.r.F g.1 e.r.f e.r.y))
def Qa2(N:Nat)(e:WE):Nat->Int->(List Int)->Int->Option (List Int×Int)
 |0,_,_,_=>none
 |n+1,k,l,u=>
  bif (decide (k<(e.o.length:Int)))then(bnd (Xb e.o k) λA=>
   bnd (Qdl N e.h.c A) λB=>
   bnd (QdD N (WE.mk (Wm.mk e.h.c l e.h.p e.h.s e.h.b) e.o e.t e.q e.d (WQ.mk e.r.j e.r.K u e.r.E e.r.f e.r.y)) B.1) λD=>
   bif (!D)then Qa2 N e n (wI (k+1)) l u
   else bnd (Xb e.o k) λG=>
   bnd (Qdy N e.q G) λH=>
   bif H then Qa2 N e n (wI (k+1)) l u
   else bnd (Xb e.o k) λI=>
   bnd (Qe4 N (WE.mk (Wm.mk e.h.c l e.h.p e.h.s e.h.b) e.o e.t e.q e.d (WQ.mk e.r.j e.r.K u e.r.E e.r.f e.r.y)) I) λg=>
   bnd (Qc1 N (WC.mk 0 g.n 0)) λv=>
   bnd (Xb e.o k) λw=>
   grd (0<=g.n/\g.n.toNat*8<=140737488355328) <|
   grd ((1+g.n.toNat)*8<=140737488355328) <|
   bnd (Qcv N l w ([v.1]++(List.replicate g.n.toNat (0:Int)))) λz=>
   Qa2 N e n (wI (k+1)) z.1 (wI (u+1)))
  else some (l,u)
def QfI(N:Nat)(e:WE):Option WE:=bnd (Qa2 N e N 0 e.h.w e.r.F) λg=>some (WE.mk (Wm.mk e.h.c g.1 e.h.p e.h.s e.h.b) e.o e.t e.q e.d (WQ.mk e.r.j e.r.K g.2 e.r.E e.r.f e.r.y))
def Qbf(N:Nat)(k:List Int)(D:WE×List Int×Int)(e:WE×Int):Nat->Int->Int->(List Int)->Option (Int×List Int)
 |0,_,_,_=>none
 |n+1,l,f,p=>
  bif (decide (l<(k.length:Int)))then(bnd (Xb k l) λs=>
   jn (λ(u v:Int)=>
    grd ((p.length+1)*8<=140737488355328) <|
    Qbf N k D e n (wI (l+1)) v (p++[u])) λA=>
   bif (s != 0)then(bnd (Xb k l) λw=>
    bnd (Qem N (WE.mk e.1.h e.1.o e.1.t e.1.q e.1.d (WQ.mk e.1.r.j e.1.r.K e.1.r.F e.1.r.E f e.1.r.y)) w) λg=>
    jn (λ(z:Int)=>
     A g z) λB=>
    bif (g==0)then B (wI (f+1))
    else B f)
   else A 0 f)
  else some (f,p)
def Qdi(N:Nat)(u:Wm)(B D:List Int):Option (Wm×List Int×List Int×WQ×Int):=bnd (Qac N u) λI=>bif (!I)then some (zHp,[],[],(WQ.mk 0 0 0 0 0 0),1)else jn (λ(_:Unit)=>some (zHp,[],[],(WQ.mk 0 0 0 0 0 0),19)) λG=>bnd (Qbu N u B) λJ=>bif (!J)then G ()else bnd (Qbu N u D) λL=>bif (!L)then G ()else bnd (QdI N u) λM=>bnd (Qel N M.1 B) λk=>bif (k.2.2 != 0)then some (zHp,[],[],(WQ.mk 0 0 0 0 0 0),k.2.2)else bnd (QfH N k.1) λg=>bif (g.2 != 0)then some (zHp,[],[],(WQ.mk 0 0 0 0 0 0),g.2)else bnd (Qbf N D k g N 0 g.1.r.f []) λl=>bnd (QfI N (WE.mk g.1.h g.1.o g.1.t g.1.q g.1.d (WQ.mk g.1.r.j g.1.r.K g.1.r.F g.1.r.E l.1 g.1.r.y))) λv=>bnd (QeZ N v) λe=>jn (λ(z:Int)=>some ((Wm.mk e.h.c e.h.w e.h.p (wI (1-e.h.s)) z),k.2.1,l.2,e.r,0)) λH=>bif (decide ((e.t.length:Int)>0))then(bnd (Xb e.t (wI ((e.t.length:Int)-1))) λA=>H A)else H (-1)
def Qbv(N:Nat)(e:WJ):Nat->Int->(List Int)->Option (List Int)
 |0,_,_=>none
 |n+1,f,g=>
  bif (decide (f<(e.P.length:Int)))then(bnd (Xb e.P f) λh=>
   grd ((g.length+1)*8<=140737488355328) <|
   Qbv N e n (wI (f+1)) (g++[h.a]))
  else some g
def Qet(N:Nat)(e:WJ):Option (List Int):=grd (e.R.length*8<=140737488355328) <| bnd (Qdg N e.l) λf=>grd ((e.R.length+f.length)*8<=140737488355328) <| bnd (QbD N e.g) λh=>grd (((e.R.length+f.length)+h.length)*8<=140737488355328) <| bnd (Qbv N e N 0 ((e.R++f)++h)) λj=>some j
def Qbo(N:Nat)(j:Wo)(g:List Int):Nat->Int->Int->(List UE)->Option (Ex (Wo×Int) (List UE))
 |0,_,_,_=>none
 |n+1,h,f,e=>
  grd (e.length<=140737488355328) <|
  bif (decide (f<(e.length:Int)))then(bnd (Xb e f) λl=>
   bif (!l.V)then Qbo N j g n h (wI (f+1)) e
   else bnd (Xb g h) λo=>
   bif (o==0)then some (.ret ((Wo.mk [] [] []),1))
   else bnd (Xb g h) λp=>
   bnd (Xb e f) λk=>
   Qbo N j g n (wI (h+1)) (wI (f+1)) (e.set f.toNat (UE.mk k.J p k.V)))
  else some (.nxt e)
def Qen(N:Nat)(f:Wo)(h:List Int):Option (Wo×Int):=bnd (Qct N f) λj=>bif (!j)then some ((Wo.mk [] [] []),1)else bnd (Qdg N f) λk=>bif ((h.length:Int) != (k.length:Int))then some ((Wo.mk [] [] []),1)else grd (f.S.length*24<=140737488355328) <| bnd (Qbo N f h N 0 0 f.S) λe=>exK e (λr=>some r) λg=>some ((Wo.mk g f.x f.i),0)
def Qbp(N:Nat)(g:List Int):Nat->Int->Int->(List WT)->Option (List WT)
 |0,_,_,_=>none
 |n+1,h,f,e=>
  grd (e.length<=140737488355328) <|
  bif (decide (f<(e.length:Int)))then(bnd (Xb e f) λk=>
   bif k.V then(bnd (Xb g h) λl=>
    bnd (Xb e f) λj=>
    Qbp N g n (wI (h+1)) (wI (f+1)) (e.set f.toNat (WT.mk j.G l j.V)))
   else Qbp N g n h (wI (f+1)) e)
  else some e
def QcC(N:Nat)(f:Ws)(g:List Int):Option (Ws×Int):=bnd (Qcu N f) λj=>bif (!j)then some ((Ws.mk []),1)else bnd (QbD N f) λh=>grd (h.length<=140737488355328) <| bif ((g.length:Int) != (h.length:Int))then some ((Ws.mk []),1)else grd (f.e.length*24<=140737488355328) <| bnd (Qbp N g N 0 0 f.e) λk=>some ((Ws.mk k),0)
def Qa3(N:Nat)(g:WJ)(k:Wm×List Int×List Int×WQ×Int)(l o:List Int)(p:Wo×Int)(q r:Ws×Int):Nat->Int->(List Ux)->Option (List Ux)
 |0,_,_=>none
 |n+1,e,f=>
  bif (decide (e<(g.P.length:Int)))then(bnd (Xb k.2.1 (wI ((wI ((wI ((g.R.length:Int)+(l.length:Int)))+(o.length:Int)))+e))) λh=>
   bnd (Xb g.P e) λj=>
   grd ((f.length+1)*16<=140737488355328) <|
   Qa3 N g k l o p q r n (wI (e+1)) (f++[(Ux.mk h j.M)]))
  else some f
def Qbq(N:Nat)(e:WJ):Option (WJ×WQ×Int):=bnd (QbP N e) λs=>bif (!s)then some ((WJ.mk zHp (Wo.mk [] [] []) (Ws.mk []) (Ws.mk []) [] []),(WQ.mk 0 0 0 0 0 0),19)else bnd (Qet N e) λu=>bnd (QbD N e.v) λw=>bnd (Qdi N e.h u w) λf=>bif (f.2.2.2.2 != 0)then some ((WJ.mk zHp (Wo.mk [] [] []) (Ws.mk []) (Ws.mk []) [] []),(WQ.mk 0 0 0 0 0 0),f.2.2.2.2)else bnd (Qdg N e.l) λj=>bnd (QbD N e.g) λk=>grd (k.length<=140737488355328) <| grd (0<=0/\0<=(e.R.length:Int)/\(e.R.length:Int)<=(f.2.1.length:Int)) <| grd ((min ((e.R.length:Int).toNat) f.2.1.length)*8<=140737488355328) <| grd (0<=(e.R.length:Int)/\(e.R.length:Int)<=(wI ((e.R.length:Int)+(j.length:Int)))/\(wI ((e.R.length:Int)+(j.length:Int)))<=(f.2.1.length:Int)) <| bnd (Qen N e.l ((f.2.1.drop (e.R.length:Int).toNat).take ((wI ((e.R.length:Int)+(j.length:Int))).toNat-(e.R.length:Int).toNat))) λp=>grd (0<=(wI ((e.R.length:Int)+(j.length:Int)))/\(wI ((e.R.length:Int)+(j.length:Int)))<=(wI ((wI ((e.R.length:Int)+(j.length:Int)))+(k.length:Int)))/\(wI ((wI ((e.R.length:Int)+(j.length:Int)))+(k.length:Int)))<=(f.2.1.length:Int)) <| bnd (QcC N e.g ((f.2.1.drop (wI ((e.R.length:Int)+(j.length:Int))).toNat).take ((wI ((wI ((e.R.length:Int)+(j.length:Int)))+(k.length:Int))).toNat-(wI ((e.R.length:Int)+(j.length:Int))).toNat))) λq=>bnd (QcC N e.v f.2.2.1) λr=>bnd (Qa3 N e f j k p q r N 0 []) λo=>some ((WJ.mk f.1 p.1 q.1 r.1 o (f.2.1.take (e.R.length:Int).toNat)),f.2.2.2.1,0)
def QgM(N:Nat)(e:WW):Option Int:=bnd (QaX N e) λf=>bif (!f)then some 0 else some (wI (e.p.tdiv 4))
def QbO(N:Nat)(e:List Wv):Nat->Int->Int->Option Int
 |0,_,_=>none
 |n+1,g,f=>
  bif (decide (f<(e.length:Int)))then(bnd (Xb e f) λh=>
   bif (h.k != 0)then QbO N e n (wI (g+1)) (wI (f+1))
   else QbO N e n g (wI (f+1)))
  else some g
def Qc7(N:Nat)(e:List Wv):Option Int:=bnd (QbO N e N 0 0) λf=>some f
def Qe5(N:Nat)(e:Wm)(o:Int):Option (Wm×Int×Bool):=grd (e.p.length*32<=140737488355328) <| bnd (QgM N e.c) λz=>bnd (Qc7 N e.p) λA=>jn (λ(_:Unit)=>bnd (Qby N e.p 1) λf=>bif (decide (f<0))then some (zHp,0,false)else bif (decide (A>=z))then some (zHp,0,false)else bnd (QbR N e.p f e.s) λj=>bnd (Xb j.1 f) λq=>bnd (Xb j.1 f) λr=>bnd (Xb j.1 f) λg=>some ((Wm.mk e.c e.w (j.1.set f.toNat (Wv.mk g.k g.s (wI (r.u+o)) g.P)) e.s f),(wU (wI ((wI (4096+(wI (f*e.c.W))))+q.u))),true)) λl=>bif (decide (e.b<0))then l ()else bnd (Xb e.p e.b) λB=>bif (B.s != e.s)then l ()else bnd (Xb e.p e.b) λD=>bif (decide ((wI (D.u+o))>e.c.W))then l ()else bif (decide (A>z))then l ()else bnd (Xb e.p e.b) λv=>bnd (Xb e.p e.b) λy=>bnd (Xb e.p e.b) λh=>some ((Wm.mk e.c e.w (e.p.set e.b.toNat (Wv.mk h.k h.s (wI (y.u+o)) h.P)) e.s e.b),(wU (wI ((wI (4096+(wI (e.b*e.c.W))))+v.u))),true)
def Qeo(N:Nat)(j:WW)(k:List Wv)(l e f:Int):Option (List Wv×Int):=bnd (QfG N j f) λg=>bif (decide (g<1))then some ([],1)else bif (decide (e<0))then some ([],1)else bif (decide (e>1))then some ([],1)else bnd (QdP N k l g (Wv.mk 2 e f 0) (Wv.mk 3 e 0 0)) λh=>some (h.1,h.2)
def Qe6(N:Nat)(e:Wm)(h g:Int):Option (Wm×Int×Bool):=bnd (Qby N e.p g) λf=>bif (decide (f<0))then some (zHp,0,false)else bnd (Qc7 N e.p) λj=>bnd (QgM N e.c) λk=>bif (decide ((wI (j+g))>k))then some (zHp,0,false)else bnd (Qeo N e.c e.p f e.s h) λl=>some ((Wm.mk e.c e.w l.1 e.s e.b),(wU (wI (4096+(wI (f*e.c.W))))),true)
def Qbw(N:Nat)(e:Wm)(j:Int)(f:WC):Option (Wm×Int):=bnd (Qc1 N f) λh=>bnd (Qac N e) λk=>bif (!k)then some (zHp,1)else bif (h.2 != 0)then some (zHp,1)else grd (0<=f.n/\f.n.toNat*8<=140737488355328) <| grd ((1+f.n.toNat)*8<=140737488355328) <| bnd (Qcv N e.w j ([h.1]++(List.replicate f.n.toNat (0:Int)))) λg=>bif (g.2 != 0)then some (zHp,g.2)else some ((Wm.mk e.c g.1 e.p e.s e.b),0)
def Qch(N:Nat)(g:Wm)(h:WC):Option (Wm×Int×Int):=bnd (Qac N g) λA=>bif (!A)then some (zHp,0,1)else bnd (QcA N g.c h) λB=>bif (!B)then some (zHp,0,1)else bnd (Qde N h) λj=>bnd (QfG N g.c j) λv=>bnd (Qe5 N g j) λe=>jn (λ(y:Int) (D:Bool) (E k:Int) (l:List Int) (o:List Wv) (q r:Int)=>bif (!D)then some (zHp,0,3)else bnd (Qbw N (Wm.mk (WW.mk E k) l o q r) y h) λu=>some (u.1,y,0)) λz=>bif (decide (v>0))then(bnd (Qe6 N g j v) λf=>z f.2.1 f.2.2 f.1.c.W f.1.c.p f.1.w f.1.p f.1.s f.1.b)else z e.2.1 e.2.2 e.1.c.W e.1.c.p e.1.w e.1.p e.1.s e.1.b
def Qca(N:Nat)(f:WJ)(K:WC):Option (WJ×Int×Int):=bnd (QbP N f) λO=>bif (!O)then some ((WJ.mk zHp (Wo.mk [] [] []) (Ws.mk []) (Ws.mk []) [] []),0,19)else bnd (Qch N f.h K) λk=>jn (λ(T L Z x8:Int) (x9:List Int) (U:List Wv) (V Y:Int) (q:List UE) (r:List UJ) (u:List Int) (y z:List WT) (A:List Ux) (B:List Int) (D E:Int) (G:List Int) (H:List Wv) (I J:Int)=>bif (L != 0)then some ((WJ.mk zHp (Wo.mk [] [] []) (Ws.mk []) (Ws.mk []) [] []),0,L)else some ((WJ.mk (Wm.mk (WW.mk D E) G H I J) (Wo.mk q r u) (Ws.mk y) (Ws.mk z) A B),T,0)) λM=>bif (k.2.2==3)then(bnd (Qbq N f) λj=>bif (j.2.2 != 0)then some ((WJ.mk zHp (Wo.mk [] [] []) (Ws.mk []) (Ws.mk []) [] []),0,j.2.2)else bnd (Qch N j.1.h K) λo=>M o.2.1 o.2.2 j.1.h.c.W j.1.h.c.p j.1.h.w j.1.h.p j.1.h.s j.1.h.b j.1.l.S j.1.l.x j.1.l.i j.1.g.e j.1.v.e j.1.P j.1.R o.1.c.W o.1.c.p o.1.w o.1.p o.1.s o.1.b)else M k.2.1 k.2.2 f.h.c.W f.h.c.p f.h.w f.h.p f.h.s f.h.b f.l.S f.l.x f.l.i f.g.e f.v.e f.P f.R k.1.c.W k.1.c.p k.1.w k.1.p k.1.s k.1.b
def Qhx(N:Nat)(e:UR):Option Bool:=bif (decide (e.Tag>=1))then(bif (decide (e.Tag<=3))then(bif (decide (e.Index>=0))then(bif (decide (e.Index<=65535))then(bif (decide (e.J>=1))then some (decide (e.J<=4294967295))else some false)else some false)else some false)else some false)else some false
def Qbg(N:Nat)(e:UR):Option (Int×Int):=bnd (Qhx N e) λf=>bif (!f)then some (0,1)else some ((wU ((wU ((wU e.Tag)+(ZN .u64 (wU e.Index) 2)))+(ZN .u64 (wU e.J) 18))),0)
def Qa7(N:Nat)(e:WJ)(k:Int):Option (WJ×Int×Int):=bif (k==0)then some (e,0,0)else bnd (Qes N e.l k) λf=>bif (f.2.2.2 != 0)then(bnd (Qae N f.2.2.2) λj=>some (j.1,j.2.1,j.2.2))else bnd (Qbg N (UR.mk 1 f.2.1 f.2.2.1)) λo=>some ((WJ.mk e.h f.1 e.g e.v e.P e.R),o.1,0)
def Qcm(N:Nat)(e:WJ)(u v w:Int):Option (WJ×Int×Int):=bif (decide ((e.P.length:Int)>0))then(bnd (Qae N 15) λg=>some (g.1,g.2.1,g.2.2))else bnd (QbQ N u v w) λj=>jn (λ(_:Unit)=>bnd (Qae N 1) λk=>some (k.1,k.2.1,k.2.2)) λr=>bif (!j.2)then r ()else bnd (QcA N e.h.c j.1) λy=>bif (!y)then r ()else bnd (Qes N e.l 1) λs=>bif (s.2.2.2 != 0)then(bnd (Qae N s.2.2.2) λo=>some (o.1,o.2.1,o.2.2))else bnd (Qca N e j.1) λf=>bif (f.2.2 != 0)then(bnd (Qae N f.2.2) λp=>some (p.1,p.2.1,p.2.2))else bnd (Qa7 N f.1 f.2.1) λq=>some (q.1,q.2.1,q.2.2)
def Qc8(N:Nat)(e:Int):Option (UR×Int):=bif (e==0)then some ((UR.mk 0 0 0),5)else bnd (Qbg N (UR.mk (wI (Y4 .u64 e 3)) (wI (Y4 .u64 (YD .u64 e 2) 65535)) (wI (YD .u64 e 18)))) λf=>bif (f.2 != 0)then some ((UR.mk 0 0 0),6)else bif (f.1 != e)then some ((UR.mk 0 0 0),6)else some ((UR.mk (wI (Y4 .u64 e 3)) (wI (Y4 .u64 (YD .u64 e 2) 65535)) (wI (YD .u64 e 18))),0)
def Qe7(N:Nat)(e:Wo)(f g:Int):Option (Int×Int):=bnd (Qct N e) λh=>bif (!h)then some (0,1)else bif (decide (g<1))then some (0,6)else bif (decide (g>(e.i.length:Int)))then some (0,6)else bnd (Xb e.i (wI (g-1))) λj=>bif (j != f)then some (0,6)else bif (decide (f>=(e.S.length:Int)))then some (0,7)else bnd (Xb e.S f) λk=>bif (k.J != g)then some (0,7)else bnd (Xb e.S f) λl=>bif (!l.V)then some (0,8)else bnd (Xb e.S f) λo=>some (o.a,0)
def Qeu(N:Nat)(f:Ws)(g h:Int):Option (Int×Int):=bnd (Qcu N f) λj=>bif (!j)then some (0,1)else bif (decide (g<0))then some (0,6)else bif (decide (g>=(f.e.length:Int)))then some (0,6)else bif (decide (h<1))then some (0,6)else bnd (Xb f.e g) λk=>bif (decide (h>k.G))then some (0,6)else bnd (Xb f.e g) λl=>bif (decide (h<l.G))then some (0,8)else bnd (Xb f.e g) λo=>bif (!o.V)then some (0,8)else bnd (Xb f.e g) λp=>some (p.a,0)
def QaB(N:Nat)(f:WJ)(h:Int):Option (Int×Int):=bnd (QbP N f) λp=>bif (!p)then some (0,19)else bif (h==0)then some (0,0)else bnd (Qc8 N h) λe=>bif (e.2 != 0)then some (0,e.2)else bif (e.1.Tag==1)then(bnd (Qe7 N f.l e.1.Index e.1.J) λj=>some (j.1,j.2))else bif (e.1.Tag==2)then(bnd (Qeu N f.g e.1.Index e.1.J) λk=>some (k.1,k.2))else bnd (Qeu N f.v e.1.Index e.1.J) λo=>some (o.1,o.2)
def QaN(N:Nat)(f:WJ)(g:Int):Option (Int×Int):=bnd (QaB N f g) λe=>bif (e.2==0)then(bif (e.1==0)then some (0,5)else some (e.1,e.2))else some (e.1,e.2)
def Qcw(N:Nat)(g:WJ)(k f:Int)(l:Bool):Option (Int×Int×Int):=bnd (QaN N g k) λe=>bif (e.2 != 0)then some (0,0,e.2)else bnd (QbU N g.h e.1) λj=>bif (decide (f>=(wU j.1.n)))then some (0,0,2)else bnd (Qcs N j.1 (wI f)) λo=>bif (!(o==l))then some (0,0,4)else some (e.1,(wI f),0)
def Qbz(N:Nat)(g:Wm)(h e:Int):Option (Int×Int):=bnd (QbU N g h) λf=>bif (f.2 != 0)then some (0,f.2)else bif (decide (e<0))then some (0,2)else bif (decide (e>=f.1.n))then some (0,2)else bnd (Qbs N g.w (wU ((wU (h+1))+(wU e)))) λj=>some (j.1,j.2)
def Qbr(N:Nat)(e:Wm)(f g j:Int):Option (Wm×Int):=bnd (Qbz N e f g) λh=>bif (h.2 != 0)then some (zHp,h.2)else bnd (Qc4 N e.w (wU ((wU (f+1))+(wU g))) j) λk=>some ((Wm.mk e.c k.1 e.p e.s e.b),0)
def Qcx(N:Nat)(e:WJ)(j w y z:Int):Option (WJ×Int×Int):=jn (λ(A B D:Int)=>bif (D != 0)then(bnd (Qae N D) λk=>some (k.1,k.2.1,k.2.2))else bnd (Qbz N e.h A B) λE=>bif (j==6)then some (e,E.1,0)else bif (j==8)then(bnd (Qa7 N e E.1) λo=>some (o.1,o.2.1,o.2.2))else jn (λ(p:Int)=>bnd (Qbr N e.h A B p) λq=>some ((WJ.mk q.1 e.l e.g e.v e.P e.R),0,0)) λG=>bif (j==9)then(bnd (QaB N e z) λr=>bif (r.2 != 0)then(bnd (Qae N r.2) λf=>some (f.1,f.2.1,f.2.2))else G r.1)else G z) λH=>bif (j==8)then(bnd (Qcw N e w y true) λs=>H s.1 s.2.1 s.2.2)else bnd (Qcw N e w y (j==9)) λu=>H u.1 u.2.1 u.2.2
def Qcy(N:Nat)(e:WJ)(j l z:Int):Option (WJ×Int×Int):=jn (λ(A:Bool)=>bif A then(bnd (QaN N e l) λo=>bif (o.2 != 0)then(bnd (Qae N o.2) λp=>some (p.1,p.2.1,p.2.2))else bnd (QbU N e.h o.1) λw=>bif (j==4)then some (e,(wU w.1.n),0)else some (e,(wU w.1.k),0))else bif (j==10)then(bnd (QaB N e l) λq=>bif (q.2 != 0)then(bnd (Qae N q.2) λr=>some (r.1,r.2.1,r.2.2))else bnd (QaB N e z) λs=>bif (s.2 != 0)then(bnd (Qae N s.2) λu=>some (u.1,u.2.1,u.2.2))else bif (q.1==s.1)then some (e,1,0)else some (e,0,0))else bnd (QaB N e l) λv=>bif (v.2 != 0)then(bnd (Qae N v.2) λf=>some (f.1,f.2.1,f.2.2))else bnd (Qa7 N e v.1) λg=>some (g.1,g.2.1,g.2.2)) λy=>bif (j==4)then y true else y (j==5)
def Qb2(N:Nat)(g:Ws)(h:Int):Nat->Int->Option (Ex (Ws×Int×Int×Int) Unit)
 |0,_=>none
 |n+1,f=>
  grd (g.e.length<=140737488355328) <|
  bif (decide (f<(g.e.length:Int)))then(bnd (Xb g.e f) λk=>
   bif (!k.V)then(bnd (Xb g.e f) λl=>
    bif (decide (l.G<4294967295))then(bnd (Xb g.e f) λj=>
     bnd (Xb g.e f) λp=>
     bnd (Xb (g.e.set f.toNat (WT.mk (wI (j.G+1)) h true)) f) λo=>
     some (.ret ((Ws.mk (g.e.set f.toNat (WT.mk (wI (j.G+1)) h true))),f,o.G,0)))
    else Qb2 N g h n (wI (f+1)))
   else Qb2 N g h n (wI (f+1)))
  else some (.nxt ())
def QcV(N:Nat)(f:Ws)(g:Int):Option (Ws×Int×Int×Int):=bnd (Qcu N f) λh=>bif (!h)then some ((Ws.mk []),0,0,1)else grd (f.e.length*24<=140737488355328) <| bnd (Qb2 N f g N 0) λe=>exK e (λr=>some r) λj=>grd (f.e.length<=140737488355328) <| bif ((f.e.length:Int)==64)then some ((Ws.mk []),0,0,18)else grd ((f.e.length+1)*24<=140737488355328) <| grd (f.e.length<=140737488355328) <| some ((Ws.mk (f.e++[(WT.mk 1 g true)])),(f.e.length:Int),1,0)
def Qcz(N:Nat)(f:WJ)(q u:Int):Option (WJ×Int×Int):=bnd (QaN N f u) λk=>bif (k.2 != 0)then(bnd (Qae N k.2) λo=>some (o.1,o.2.1,o.2.2))else jn (λ(w:Int) (y:List WT)=>bnd (QcV N (Ws.mk y) k.1) λj=>bif (j.2.2.2 != 0)then(bnd (Qae N j.2.2.2) λp=>some (p.1,p.2.1,p.2.2))else jn (λ(z A:List WT)=>bnd (Qbg N (UR.mk w j.2.1 j.2.2.1)) λB=>some ((WJ.mk f.h f.l (Ws.mk z) (Ws.mk A) f.P f.R),B.1,0)) λr=>bif (q==15)then r f.g.e j.1.e else r j.1.e f.v.e) λs=>bif (q==15)then s 3 f.v.e else s 2 f.g.e
def Qev(N:Nat)(e:Wo)(f g:Int):Option (Wo×Int):=bnd (Qe7 N e f g) λh=>bif (h.2 != 0)then some ((Wo.mk [] [] []),h.2)else grd (e.S.length*24<=140737488355328) <| bnd (Xb e.S f) λj=>some ((Wo.mk (e.S.set f.toNat (UE.mk g 0 false)) e.x e.i),0)
def QhM(N:Nat)(f:Ws)(g:Int)(h:WT):Option Ws:=grd (f.e.length*24<=140737488355328) <| bnd (Xb f.e g) λj=>some (Ws.mk (f.e.set g.toNat h))
def Qc9(N:Nat)(e:Ws)(f g:Int):Option (Ws×Int):=bnd (Qeu N e f g) λh=>bif (h.2 != 0)then some ((Ws.mk []),h.2)else bnd (QhM N e f (WT.mk g 0 false)) λj=>some (j,0)
def Qcn(N:Nat)(e:WJ)(j p:Int):Option (WJ×Int×Int):=bif (p==0)then(bnd (Qae N 5) λq=>some (q.1,q.2.1,q.2.2))else bnd (QaB N e p) λu=>bif (u.2 != 0)then(bnd (Qae N u.2) λr=>some (r.1,r.2.1,r.2.2))else bnd (Qc8 N p) λf=>jn (λ(_:Unit)=>bif (j==12)then(bnd (Qev N e.l f.1.Index f.1.J) λw=>some ((WJ.mk e.h w.1 e.g e.v e.P e.R),0,0))else bif (j==14)then(bnd (Qc9 N e.g f.1.Index f.1.J) λy=>some ((WJ.mk e.h e.l y.1 e.v e.P e.R),0,0))else bnd (Qc9 N e.v f.1.Index f.1.J) λz=>some ((WJ.mk e.h e.l e.g z.1 e.P e.R),0,0)) λk=>jn (λ(_:Unit)=>bnd (Qae N 4) λs=>some (s.1,s.2.1,s.2.2)) λo=>bif (j==12)then(bif (f.1.Tag != 1)then o ()else bif (j==14)then(bif (f.1.Tag != 2)then o ()else bif (j==16)then(bif (f.1.Tag != 3)then o ()else k ())else k ())else bif (j==16)then(bif (f.1.Tag != 3)then o ()else k ())else k ())else bif (j==14)then(bif (f.1.Tag != 2)then o ()else bif (j==16)then(bif (f.1.Tag != 3)then o ()else k ())else k ())else bif (j==16)then(bif (f.1.Tag != 3)then o ()else k ())else k ()
def Qhh(N:Nat)(e:Wo)(f:Int)(g:Bool):Option (Wo×Int):=bnd (Qct N e) λj=>bif (!j)then some ((Wo.mk [] [] []),1)else bif (decide (f<0))then some ((Wo.mk [] [] []),1)else bif (decide (f>64))then some ((Wo.mk [] [] []),1)else jn (λ(_:Unit)=>bif ((e.x.length:Int)==64)then some ((Wo.mk [] [] []),17)else grd (e.x.length*24<=140737488355328) <| grd ((e.x.length+1)*24<=140737488355328) <| some ((Wo.mk e.S (e.x++[(UJ.mk (e.S.length:Int) f g)]) e.i),0)) λh=>bif (!g)then(bif ((e.x.length:Int)==0)then some ((Wo.mk [] [] []),9)else h ())else h ()
def Qe0(N:Nat)(f:Wo)(g:Int):Option (Wo×Int):=bnd (Qhh N f g false) λe=>some (e.1,e.2)
def QhN(N:Nat)(e:Wo)(f:Int):Option Wo:=bnd (Xb e.x f) λg=>grd (0<=0/\0<=g.O/\g.O<=(e.S.length:Int)) <| grd ((min g.O.toNat e.S.length)*24<=140737488355328) <| grd (0<=0/\0<=f/\f<=(e.x.length:Int)) <| grd ((min f.toNat e.x.length)*24<=140737488355328) <| some (Wo.mk (e.S.take g.O.toNat) (e.x.take f.toNat) e.i)
def QfJ(N:Nat)(e:Wo):Option (Wo×Int):=bnd (Qct N e) λf=>bif (!f)then some ((Wo.mk [] [] []),1)else bif ((e.x.length:Int)==0)then some ((Wo.mk [] [] []),9)else bnd (Xb e.x (wI ((e.x.length:Int)-1))) λg=>bif g.B0 then some ((Wo.mk [] [] []),9)else bnd (QhN N e (wI ((e.x.length:Int)-1))) λh=>some (h,0)
def Qda(N:Nat)(e:WJ)(w f:Int):Option (WJ×Int×Int):=bif (w==17)then(bif (decide (f>64))then(bnd (Qae N 1) λj=>some (j.1,j.2.1,j.2.2))else bnd (Qe0 N e.l (wI f)) λk=>bif (k.2 != 0)then(bnd (Qae N k.2) λo=>some (o.1,o.2.1,o.2.2))else some ((WJ.mk e.h k.1 e.g e.v e.P e.R),0,0))else bnd (QaB N e f) λp=>bif (p.2 != 0)then(bnd (Qae N p.2) λq=>some (q.1,q.2.1,q.2.2))else bnd (QfJ N e.l) λr=>bif (r.2 != 0)then(bnd (Qae N r.2) λs=>some (s.1,s.2.1,s.2.2))else bnd (Qa7 N (WJ.mk e.h r.1 e.g e.v e.P e.R) p.1) λu=>some (u.1,u.2.1,u.2.2)
def Qcb(N:Nat)(e:Wm)(h j:Int):Option Wm:=grd (e.p.length*32<=140737488355328) <| bnd (Qgp N e h) λf=>bnd (Xb e.p f) λl=>bnd (Xb e.p f) λg=>some (Wm.mk e.c e.w (e.p.set f.toNat (Wv.mk g.k g.s g.u (wI (l.P+j)))) e.s e.b)
def QbL(N:Nat)(k:Wm)(f:List Ux)(j:Int):Option (Wm×List Ux×Int):=bnd (Qbk N k f) λl=>bif (!l)then some (zHp,[],19)else bif (j==0)then some (zHp,[],5)else bnd (QhJ N f j) λe=>bif (decide (e<0))then some (zHp,[],12)else grd (f.length*16<=140737488355328) <| bnd (Xb f e) λg=>bnd (Xb f e) λh=>bnd (Xb (f.set e.toNat (Ux.mk h.a (wI (g.M-1)))) e) λo=>bif (o.M==0)then(grd (0<=0/\0<=e/\e<=(f.length:Int)) <| grd (0<=(wI (e+1))/\(wI (e+1))<=(f.length:Int)/\(f.length:Int)<=(f.length:Int)) <| grd (e.toNat≠f.length/\(e.toNat+(f.length-(wI (e+1)).toNat))<=f.length) <| bnd (Qcb N k j (-1)) λp=>some (p,(((((f.set e.toNat (Ux.mk h.a (wI (g.M-1)))).take e.toNat)++(((f.set e.toNat (Ux.mk h.a (wI (g.M-1)))).drop (wI (e+1)).toNat).take (f.length-(wI (e+1)).toNat)))++((f.set e.toNat (Ux.mk h.a (wI (g.M-1)))).drop (e.toNat+(f.length-(wI (e+1)).toNat)))).take (e.toNat+(f.length-(wI (e+1)).toNat))),0))else bnd (Qcb N k j (-1)) λq=>some (q,(f.set e.toNat (Ux.mk h.a (wI (g.M-1)))),0)
def Qeb(N:Nat)(e:Wm)(f:Int):Option Bool:=bnd (QaK N e) λg=>bnd (Qdy N g.1 f) λh=>some h
def QbX(N:Nat)(e:Wm)(h:Int):Nat->Int->Int->Option Int
 |0,_,_=>none
 |n+1,g,f=>
  bif (decide (f<(e.p.length:Int)))then(bnd (Xb e.p f) λj=>
   bif (j.k==1)then(bnd (Xb e.p f) λl=>
    bif (decide (l.P>0))then QbX N e h n (wI (g+1)) (wI (f+1))
    else QbX N e h n g (wI (f+1)))
   else QbX N e h n g (wI (f+1)))
  else some g
def Qdj(N:Nat)(e:Wm)(f:Int):Option Bool:=bnd (Qbt N e) λh=>bif (!h)then some false else bnd (Qeb N e f) λj=>bif (!j)then some false else bnd (QbX N e f N 0 0) λl=>bnd (Qgp N e f) λo=>bnd (Xb e.p o) λg=>bif (g.k==1)then(bif (g.P==0)then some (decide (l>=(wI (e.c.p.tdiv 4))))else some false)else some false
def QdE(N:Nat)(h:Wm)(e:List Ux)(f:Int):Option (Wm×List Ux×Int×Int):=bnd (Qbk N h e) λq=>bif (!q)then some (zHp,[],0,19)else bif (f==0)then some (zHp,[],0,5)else bnd (Qeb N h f) λr=>bif (!r)then some (zHp,[],0,1)else bnd (QhJ N e f) λg=>jn (λ(_:Unit)=>grd (e.length*16<=140737488355328) <| jn (λ(k:List Ux)=>bnd (Qcb N h f 1) λl=>some (l,k,(wU (f+1)),0)) λp=>bif (decide (g>=0))then(bnd (Xb e g) λs=>bnd (Xb e g) λo=>p (e.set g.toNat (Ux.mk o.a (wI (s.M+1)))))else grd ((e.length+1)*16<=140737488355328) <| p (e++[(Ux.mk f 1)])) λj=>bif (decide (g>=0))then(bnd (Xb e g) λu=>bif (u.M==1000)then some (zHp,[],0,18)else bif (decide (g<0))then(bif ((e.length:Int)==64)then some (zHp,[],0,18)else bnd (Qdj N h f) λv=>bif v then some (zHp,[],0,18)else j ())else bnd (Qdj N h f) λw=>bif w then some (zHp,[],0,18)else j ())else bif (decide (g<0))then(bif ((e.length:Int)==64)then some (zHp,[],0,18)else bnd (Qdj N h f) λy=>bif y then some (zHp,[],0,18)else j ())else bnd (Qdj N h f) λz=>bif z then some (zHp,[],0,18)else j ()
def Qe1(N:Nat)(e:WJ)(r s:Int):Option (WJ×Int×Int):=bnd (QaN N e s) λj=>bif (j.2 != 0)then(bnd (Qae N j.2) λo=>some (o.1,o.2.1,o.2.2))else bif (r==20)then(bnd (QbL N e.h e.P j.1) λk=>bif (k.2.2 != 0)then(bnd (Qae N k.2.2) λp=>some (p.1,p.2.1,p.2.2))else some ((WJ.mk k.1 e.l e.g e.v k.2.1 e.R),0,0))else bnd (QdE N e.h e.P j.1) λf=>bif (f.2.2.2 != 0)then(bnd (Qae N f.2.2.2) λq=>some (q.1,q.2.1,q.2.2))else some ((WJ.mk f.1 e.l e.g e.v f.2.1 e.R),f.2.2.1,0)
def Qaf(N:Nat)(f:WJ)(e g v W:Int):Option (WJ×Int×Int):=bnd (QbP N f) λY=>bif (!Y)then(bnd (Qae N 19) λw=>some (w.1,w.2.1,w.2.2))else jn (λ(Z:Bool)=>bif Z then(bnd (Qcm N f e g v) λy=>some (y.1,y.2.1,y.2.2))else jn (λ(x8:Bool)=>bif x8 then(bnd (Qcx N f e g v W) λz=>some (z.1,z.2.1,z.2.2))else jn (λ(A:Bool)=>bif A then(bnd (Qcy N f e g v) λh=>some (h.1,h.2.1,h.2.2))else jn (λ(B:Bool)=>bif B then(bnd (Qcz N f e g) λj=>some (j.1,j.2.1,j.2.2))else jn (λ(D:Bool)=>bif D then(bnd (Qcn N f e g) λk=>some (k.1,k.2.1,k.2.2))else jn (λ(E:Bool)=>bif E then(bnd (Qda N f e g) λl=>some (l.1,l.2.1,l.2.2))else jn (λ(G:Bool)=>bif G then(bnd (Qe1 N f e g) λo=>some (o.1,o.2.1,o.2.2))else bnd (Qae N 1) λp=>some (p.1,p.2.1,p.2.2)) λq=>bif (e==19)then q true else q (e==20)) λr=>bif (e==17)then r true else r (e==18)) λs=>bif (e==12)then s true else jn (λ(H:Bool)=>s H) λu=>bif (e==14)then u true else u (e==16)) λK=>bif (e==13)then K true else K (e==15)) λL=>bif (e==4)then L true else jn (λ(I:Bool)=>L I) λM=>bif (e==5)then M true else jn (λ(J:Bool)=>M J) λO=>bif (e==10)then O true else O (e==11)) λR=>bif (e==6)then R true else jn (λ(x7:Bool)=>R x7) λS=>bif (e==7)then S true else jn (λ(x6:Bool)=>S x6) λT=>bif (e==8)then T true else T (e==9)) λU=>bif (e==1)then U true else jn (λ(x3:Bool)=>U x3) λV=>bif (e==2)then V true else V (e==3)
def QdQ(N:Nat)(g:WX)(e:List Int):Nat->Int->Option (Ex Bool Unit)
 |0,_=>none
 |n+1,f=>
  bif (decide (f<(e.length:Int)))then(bnd (Xb e f) λh=>
   bif (decide (h>(wU (g.T.length:Int))))then some (.ret false)
   else QdQ N g e n (wI (f+1)))
  else some (.nxt ())
def QdR(N:Nat)(f:WX)(g:List Int):Option Bool:=bnd (QdQ N f g N 0) λe=>exK e (λr=>some r) λh=>some true
def QeG(N:Nat)(e:In):Nat->Int->(List Int)->Option (List Int)
 |0,_,_=>none
 |n+1,f,g=>
  bif (decide (f<(e.D.length:Int)))then(bnd (Qcs N e.H f) λh=>
   bif h then(bnd (Xb e.D f) λj=>
    grd ((g.length+1)*8<=140737488355328) <|
    QeG N e n (wI (f+1)) (g++[j]))
   else QeG N e n (wI (f+1)) g)
  else some g
def Qhi(N:Nat)(e:In):Option (List Int):=bnd (QeG N e N 0 []) λf=>some f
def Qfv(N:Nat)(f:WX)(g:Int):Nat->Int->Option (Ex Int Unit)
 |0,_=>none
 |n+1,e=>
  bif (decide (e<(f.m.length:Int)))then(bnd (Xb f.m e) λh=>
   bif (h.I==g)then some (.ret e)
   else Qfv N f g n (wI (e+1)))
  else some (.nxt ())
def Qgs(N:Nat)(f:WX)(g:Int):Option Int:=bnd (Qfv N f g N 0) λe=>exK e (λr=>some r) λh=>some (-1)
def Qec(N:Nat)(f:WX):Nat->Int->Option (Ex Bool Unit)
 |0,_=>none
 |n+1,g=>
  bif (decide (g<(f.T.length:Int)))then(bnd (Xb f.T g) λe=>
   bnd (QdH N e.H) λh=>
   bif (!h)then some (.ret false)
   else bif (e.H.k==0)then some (.ret false)
   else bif ((e.D.length:Int) != e.H.n)then some (.ret false)
   else bnd (Qhi N e) λj=>
   bnd (QdR N f j) λl=>
   bif (!l)then some (.ret false)
   else Qec N f n (wI (g+1)))
  else some (.nxt ())
def Qed(N:Nat)(h:WX)(e:List Int):Nat->Int->Option (Ex Bool Unit)
 |0,_=>none
 |n+1,f=>
  grd (e.length<=140737488355328) <|
  bif (decide (f<(e.length:Int)))then(bnd (Xb e f) λg=>
   bif (g==0)then some (.ret false)
   else Qed N h e n (wI (f+1)))
  else some (.nxt ())
def Qee(N:Nat)(g:WX)(h:List Int):Nat->Int->Option (Ex Bool Unit)
 |0,_=>none
 |n+1,f=>
  bif (decide (f<(g.m.length:Int)))then(bnd (Xb g.m f) λe=>
   bif (decide (e.I<1))then some (.ret false)
   else bif (decide (e.I>(wU (g.T.length:Int))))then some (.ret false)
   else bnd (Qgs N g e.I) λj=>
   bif (j != f)then some (.ret false)
   else bif (decide (e.M<1))then some (.ret false)
   else bif (decide (e.M>1000))then some (.ret false)
   else Qee N g h n (wI (f+1)))
  else some (.nxt ())
def Qe8(N:Nat)(f:WX):Option Bool:=bnd (QaX N f.c) λu=>bif (!u)then some false else bnd (Qct N f.l) λw=>bif (!w)then some false else bnd (Qcu N f.g) λy=>bif (!y)then some false else bnd (Qcu N f.v) λz=>bif (!z)then some false else bif (decide ((f.m.length:Int)>64))then some false else bnd (Qec N f N 0) λe=>exK e (λr=>some r) λA=>bnd (QbD N f.g) λh=>bnd (Qed N f h N 0) λe=>exK e (λr=>some r) λB=>bnd (Qee N f h N 0) λe=>exK e (λr=>some r) λD=>bnd (QdR N f f.R) λj=>bif j then(bnd (Qdg N f.l) λk=>bnd (QdR N f k) λo=>bif o then(bnd (QdR N f h) λp=>bif p then(bnd (QbD N f.v) λq=>bnd (QdR N f q) λs=>some s)else some false)else some false)else some false
def QfK(N:Nat)(e:WX):Nat->Int->(List Int)->Option (List Int)
 |0,_,_=>none
 |n+1,f,g=>
  bif (decide (f<(e.m.length:Int)))then(bnd (Xb e.m f) λh=>
   grd ((g.length+1)*8<=140737488355328) <|
   QfK N e n (wI (f+1)) (g++[h.I]))
  else some g
def QhX(N:Nat)(e:WX):Option (List Int):=grd (e.R.length*8<=140737488355328) <| bnd (Qdg N e.l) λf=>grd ((e.R.length+f.length)*8<=140737488355328) <| bnd (QbD N e.g) λh=>grd (((e.R.length+f.length)+h.length)*8<=140737488355328) <| bnd (QfK N e N 0 ((e.R++f)++h)) λj=>some j
def Qdm(N:Nat)(j:WX):Nat->Int->(List Bool)->(List Int)->Option (List Bool)
 |0,_,_,_=>none
 |n+1,f,g,e=>
  grd (e.length<=140737488355328) <|
  bif (decide (f<(e.length:Int)))then(bnd (Xb e f) λp=>
   bif (p==0)then Qdm N j n (wI (f+1)) g e
   else bnd (Xb e f) λq=>
   bnd (Xb g (wU (q-1))) λr=>
   bif r then Qdm N j n (wI (f+1)) g e
   else bnd (Xb e f) λo=>
   bnd (Xb g (wU (o-1))) λs=>
   bnd (Xb e f) λk=>
   bnd (Xb j.T (wU (k-1))) λl=>
   bnd (Qhi N l) λh=>
   grd ((e.length+h.length)*8<=140737488355328) <|
   Qdm N j n (wI (f+1)) (g.set (wU (o-1)).toNat true) (e++h))
  else some g
def QgB(N:Nat)(e:WX):Option (List Bool):=bnd (Qe8 N e) λg=>bif (!g)then some []else grd (0<=(e.T.length:Int)/\(e.T.length:Int).toNat<=140737488355328) <| bnd (QhX N e) λh=>bnd (Qdm N e N 0 (List.replicate (e.T.length:Int).toNat false) h) λf=>some f
def Qbh(N:Nat)(h:WX)(g:List Bool):Nat->Int->(List Int)->Option (List Int)
 |0,_,_=>none
 |n+1,f,e=>
  grd (e.length<=140737488355328) <|
  bif (decide (f<(e.length:Int)))then(bnd (Xb e f) λj=>
   bif (j != 0)then(bnd (Xb e f) λk=>
    bnd (Xb g (wU (k-1))) λl=>
    bif (!l)then(bnd (Xb e f) λo=>
     Qbh N h g n (wI (f+1)) (e.set f.toNat 0))
    else Qbh N h g n (wI (f+1)) e)
   else Qbh N h g n (wI (f+1)) e)
  else some e
def Qd1(N:Nat)(e:WX):Option (WX×Int):=bnd (Qe8 N e) λj=>bif (!j)then some (zWd,19)else bnd (QgB N e) λk=>bnd (QbD N e.v) λo=>bnd (Qbh N e k N 0 o) λf=>bnd (QcC N e.v f) λh=>some ((WX.mk e.c e.T e.l e.g h.1 e.m e.R),0)
def Qfw(N:Nat)(o p:WJ)(k q e:Int):Option Ov:=jn (λ(f:Bool)=>jn (λ(g:Bool)=>bif (k==19)then(bif (e==0)then some (Ov.mk f g q)else some (Ov.mk f g 0))else some (Ov.mk f g 0)) λl=>bif (e==0)then l (o.h.s != p.h.s)else l false) λj=>bif (e==3)then j true else bif (e==18)then j (k==19)else j false
def QdJ(N:Nat)(f:Wo)(e:Int):Option Int:=bif (e==0)then some 0 else bnd (Qes N f e) λg=>some g.2.2.2
def QgC(N:Nat)(e:WX)(h j k:Int)(o:Bool):Option Int:=bif (decide ((e.m.length:Int)>0))then some 15 else bnd (QbQ N h j k) λf=>bif (!f.2)then some 1 else bnd (QcA N e.c f.1) λp=>bif (!p)then some 1 else bnd (QdJ N e.l 1) λg=>bif (g != 0)then some g else bif o then some 3 else some 0
def QaS(N:Nat)(f:WX)(h:Int):Option (Int×Int):=bnd (Qe8 N f) λp=>bif (!p)then some (0,19)else bif (h==0)then some (0,0)else bnd (Qc8 N h) λe=>bif (e.2 != 0)then some (0,e.2)else bif (e.1.Tag==1)then(bnd (Qe7 N f.l e.1.Index e.1.J) λj=>some (j.1,j.2))else bif (e.1.Tag==2)then(bnd (Qeu N f.g e.1.Index e.1.J) λk=>some (k.1,k.2))else bnd (Qeu N f.v e.1.Index e.1.J) λo=>some (o.1,o.2)
def Qe9(N:Nat)(f:WX)(g:Int):Option (Int×Int):=bnd (QaS N f g) λe=>bif (e.2==0)then(bif (e.1==0)then some (0,5)else some (e.1,e.2))else some (e.1,e.2)
def Qg1(N:Nat)(e:WX)(f o h p:Int):Option Int:=bnd (Qe9 N e o) λg=>bif (g.2 != 0)then some g.2 else bnd (Xb e.T (wU (g.1-1))) λj=>bif (decide (h>=(wU j.H.n)))then some 2 else jn (λ(q:Bool)=>bnd (Qcs N j.H (wI h)) λr=>bif (!(r==q))then some 4 else bif (f==8)then(bnd (Xb j.D h) λs=>bnd (QdJ N e.l s) λu=>some u)else bif (f==9)then(bnd (QaS N e p) λv=>some v.2)else some g.2) λk=>bif (f==8)then k true else k (f==9)
def QgD(N:Nat)(k:WX)(f e:Int):Option Int:=bif (e==0)then some 5 else bnd (QaS N k e) λg=>bif (g.2 != 0)then some g.2 else bnd (Qc8 N e) λh=>jn (λ(l:Int)=>bif (f==16)then(bif (h.1.Tag != 3)then some 4 else some 0)else bif (h.1.Tag != l)then some 4 else some 0) λj=>bif (f==14)then j 2 else j 1
def Qhy(N:Nat)(f:WX)(k l:Int):Option Int:=bnd (Qe9 N f l) λh=>bif (h.2 != 0)then some h.2 else jn (λ(o:List WT)=>bnd (QcV N (Ws.mk o) h.1) λp=>some p.2.2.2) λj=>bif (k==15)then j f.v.e else j f.g.e
def Qg2(N:Nat)(e:WX)(j f:Int):Option Int:=bif (j==17)then(bif (decide (f>64))then some 1 else bnd (Qe0 N e.l (wI f)) λk=>some k.2)else bnd (QaS N e f) λg=>bif (g.2 != 0)then some g.2 else bnd (QfJ N e.l) λh=>bif (h.2 != 0)then some h.2 else bnd (QdJ N h.1 g.1) λo=>some o
def QhY(N:Nat)(e:WX)(j k:Int)(g:Bool):Option Int:=bnd (Qe9 N e k) λh=>bif (h.2 != 0)then some h.2 else bnd (Qgs N e h.1) λf=>bif (j==20)then(bif (decide (f<0))then some 12 else some 0)else bif (decide (f>=0))then(bnd (Xb e.m f) λl=>bif (l.M==1000)then some 18 else bif (decide (f<0))then(bif ((e.m.length:Int)==64)then some 18 else bif g then some 18 else some 0)else bif g then some 18 else some 0)else bif (decide (f<0))then(bif ((e.m.length:Int)==64)then some 18 else bif g then some 18 else some 0)else bif g then some 18 else some 0
def Qhz(N:Nat)(e:WX)(f h k:Int):Option Int:=jn (λ(_:Unit)=>bnd (Qe9 N e h) λo=>some o.2) λj=>bif (f==4)then j ()else bif (f==5)then j ()else bnd (QaS N e h) λg=>bif (g.2 != 0)then some g.2 else bif (f==10)then(bnd (QaS N e k) λp=>some p.2)else bnd (QdJ N e.l g.1) λq=>some q
def QgE(N:Nat)(f:WX)(e g o S:Int)(E:Bool):Option Int:=bnd (Qe8 N f) λT=>bif (!T)then some 19 else jn (λ(U:Bool)=>bif U then(bnd (QgC N f e g o E) λV=>some V)else jn (λ(W:Bool)=>bif W then(bnd (Qg1 N f e g o S) λY=>some Y)else jn (λ(p:Bool)=>bif p then(bnd (QgD N f e g) λq=>some q)else jn (λ(r:Bool)=>bif r then(bnd (Qhy N f e g) λs=>some s)else jn (λ(u:Bool)=>bif u then(bnd (Qg2 N f e g) λv=>some v)else jn (λ(w:Bool)=>bif w then(bnd (QhY N f e g E) λy=>some y)else jn (λ(z:Bool)=>bif z then(bnd (Qhz N f e g o) λA=>some A)else some 1) λh=>bif (e==4)then h true else jn (λ(B:Bool)=>h B) λj=>bif (e==5)then j true else jn (λ(D:Bool)=>j D) λk=>bif (e==10)then k true else k (e==11)) λl=>bif (e==19)then l true else l (e==20)) λG=>bif (e==17)then G true else G (e==18)) λH=>bif (e==13)then H true else H (e==15)) λI=>bif (e==12)then I true else jn (λ(Z:Bool)=>I Z) λJ=>bif (e==14)then J true else J (e==16)) λK=>bif (e==6)then K true else jn (λ(x6:Bool)=>K x6) λL=>bif (e==7)then L true else jn (λ(x5:Bool)=>L x5) λM=>bif (e==8)then M true else M (e==9)) λO=>bif (e==1)then O true else jn (λ(x2:Bool)=>O x2) λR=>bif (e==2)then R true else R (e==3)
def QdK(N:Nat)(e:WX)(h:Int):Option (WX×Int):=bif (h==0)then some (e,0)else bnd (Qes N e.l h) λf=>bnd (Qbg N (UR.mk 1 f.2.1 f.2.2.1)) λj=>some ((WX.mk e.c e.T f.1 e.g e.v e.m e.R),j.1)
def Qgk(N:Nat)(e:WX)(h j k:Int):Option WX:=grd (e.T.length*48<=140737488355328) <| bnd (Xb e.T (wU (h-1))) λf=>grd (f.D.length*8<=140737488355328) <| bnd (Xb f.D j) λo=>bnd (Xb e.T (wU (h-1))) λp=>some (WX.mk e.c (e.T.set (wU (h-1)).toNat (In.mk f.H (f.D.set j.toNat k))) e.l e.g e.v e.m e.R)
def Qfx(N:Nat)(f:WX)(p k:Int):Option (WX×Int):=jn (λ(q r:List WT) (s u w:Int)=>bnd (Qbg N (UR.mk s u w)) λy=>some ((WX.mk f.c f.T f.l (Ws.mk q) (Ws.mk r) f.m f.R),y.1)) λo=>bif (p==15)then(bnd (QcV N f.v k) λh=>o f.g.e h.1.e 3 h.2.1 h.2.2.1)else bnd (QcV N f.g k) λj=>o j.1.e f.v.e 2 j.2.1 j.2.2.1
def Qgb(N:Nat)(e:WX)(h:Int):Option WX:=bnd (Qc8 N h) λf=>bif (f.1.Tag==1)then(bnd (Qev N e.l f.1.Index f.1.J) λj=>some (WX.mk e.c e.T j.1 e.g e.v e.m e.R))else bif (f.1.Tag==2)then(bnd (Qc9 N e.g f.1.Index f.1.J) λk=>some (WX.mk e.c e.T e.l k.1 e.v e.m e.R))else bnd (Qc9 N e.v f.1.Index f.1.J) λo=>some (WX.mk e.c e.T e.l e.g o.1 e.m e.R)
def QhZ(N:Nat)(e:WX)(f:Int):Option Int:=bnd (Qgs N e f) λg=>some g
def Qgt(N:Nat)(e:WX)(r o p:Int):Option (WX×Int):=bnd (QhZ N e o) λf=>grd (e.m.length*24<=140737488355328) <| bif (r==20)then(bnd (Xb e.m f) λj=>bnd (Xb e.m f) λh=>bnd (Xb (e.m.set f.toNat (IA.mk h.I (wI (j.M-1)) h.B0)) f) λs=>bif (s.M==0)then(grd (0<=0/\0<=f/\f<=(e.m.length:Int)) <| grd (0<=(wI (f+1))/\(wI (f+1))<=(e.m.length:Int)/\(e.m.length:Int)<=(e.m.length:Int)) <| grd (f.toNat≠e.m.length/\(f.toNat+(e.m.length-(wI (f+1)).toNat))<=e.m.length) <| some ((WX.mk e.c e.T e.l e.g e.v (((((e.m.set f.toNat (IA.mk h.I (wI (j.M-1)) h.B0)).take f.toNat)++(((e.m.set f.toNat (IA.mk h.I (wI (j.M-1)) h.B0)).drop (wI (f+1)).toNat).take (e.m.length-(wI (f+1)).toNat)))++((e.m.set f.toNat (IA.mk h.I (wI (j.M-1)) h.B0)).drop (f.toNat+(e.m.length-(wI (f+1)).toNat)))).take (f.toNat+(e.m.length-(wI (f+1)).toNat))) e.R),0))else some ((WX.mk e.c e.T e.l e.g e.v (e.m.set f.toNat (IA.mk h.I (wI (j.M-1)) h.B0)) e.R),0))else bif (decide (f>=0))then(bnd (Xb e.m f) λq=>bnd (Xb e.m f) λk=>bnd (Xb (e.m.set f.toNat (IA.mk k.I (wI (q.M+1)) k.B0)) f) λu=>some ((WX.mk e.c e.T e.l e.g e.v (e.m.set f.toNat (IA.mk k.I (wI (q.M+1)) k.B0)) e.R),u.B0))else grd ((e.m.length+1)*24<=140737488355328) <| some ((WX.mk e.c e.T e.l e.g e.v (e.m++[(IA.mk o 1 p)]) e.R),p)
def Qgu(N:Nat)(f:WX)(h s r G:Int)(I:Ov):Option (WX×Int×Int):=bnd (QgE N f h s r G I.Failed) λy1=>bif (y1 != 0)then some (zWd,0,y1)else jn (λ(j:Int)=>jn (λ(x5:Bool)=>bif x5 then(jn (λ(x7 x8:Int) (u:List In) (J:List UE) (K:List UJ) (L:List Int) (M O:List WT) (U:List IA) (V:List Int)=>bnd (QbQ N h s r) λq=>grd (u.length*48<=140737488355328) <| grd (0<=q.1.n/\q.1.n.toNat*8<=140737488355328) <| grd ((u.length+1)*48<=140737488355328) <| grd ((u.length+1)<=140737488355328) <| bnd (QdK N (WX.mk (WW.mk x7 x8) (u++[(In.mk q.1 (List.replicate q.1.n.toNat (0:Int)))]) (Wo.mk J K L) (Ws.mk M) (Ws.mk O) U V) (wU (((u.length+1):Nat):Int))) λw=>some (w.1,w.2,0)) λj4=>bif I.Collected then(bnd (Qd1 N f) λo=>j4 o.1.c.W o.1.c.p o.1.T o.1.l.S o.1.l.x o.1.l.i o.1.g.e o.1.v.e o.1.m o.1.R)else j4 f.c.W f.c.p f.T f.l.S f.l.x f.l.i f.g.e f.v.e f.m f.R)else bif (h==4)then(bnd (Xb f.T (wU (j-1))) λY=>some (f,(wU Y.H.n),0))else bif (h==5)then(bnd (Xb f.T (wU (j-1))) λZ=>some (f,(wU Z.H.k),0))else bif (h==6)then(bnd (Xb f.T (wU (j-1))) λp21=>bnd (Xb p21.D r) λp22=>some (f,p22,0))else bif (h==7)then(bnd (Qgk N f j (wI r) G) λy23=>some (y23,0,0))else bif (h==8)then(bnd (Xb f.T (wU (j-1))) λp24=>bnd (Xb p24.D r) λp25=>bnd (QdK N f p25) λy=>some (y.1,y.2,0))else bif (h==9)then(bnd (QaS N f G) λy27=>bnd (Qgk N f j (wI r) y27.1) λy28=>some (y28,0,0))else bif (h==10)then(bnd (QaS N f r) λy29=>bif (j==y29.1)then some (f,1,0)else some (f,0,0))else bif (h==11)then(bnd (QdK N f j) λz=>some (z.1,z.2,0))else jn (λ(x31:Bool)=>bif x31 then(bnd (Qfx N f h j) λA=>some (A.1,A.2,0))else jn (λ(x34:Bool)=>bif x34 then(bnd (Qgb N f s) λy35=>some (y35,0,0))else bif (h==17)then(bnd (Qe0 N f.l (wI s)) λy36=>some ((WX.mk f.c f.T y36.1 f.g f.v f.m f.R),0,0))else bif (h==18)then(bnd (QfJ N f.l) λy37=>bnd (QdK N (WX.mk f.c f.T y37.1 f.g f.v f.m f.R) j) λB=>some (B.1,B.2,0))else bnd (Qgt N f h j I.B0) λE=>some (E.1,E.2,0)) λj7=>bif (h==12)then j7 true else jn (λ(x33:Bool)=>j7 x33) λj6=>bif (h==14)then j6 true else j6 (h==16)) λj5=>bif (h==13)then j5 true else j5 (h==15)) λj3=>bif (h==1)then j3 true else jn (λ(x4:Bool)=>j3 x4) λj2=>bif (h==2)then j2 true else j2 (h==3)) λj1=>bif (decide (h>3))then(bif (h != 17)then(bnd (QaS N f s) λy2=>j1 y2.1)else j1 0)else j1 0
def Qco(N:Nat)(f:Iz)(q:IJ):Option (Iz×Int×Int):=bif (q.Op==0)then(bnd (Qbq N f.N) λo=>jn (λ(x3 x4:Int) (x5:List Int) (x6:List Wv) (x7 x8:Int) (x9:List UE) (M:List UJ) (O:List Int) (U V:List WT) (Y:List Ux) (Z:List Int) (x16 x17:Int) (x18:List In) (x19:List UE) (x20:List UJ) (x21:List Int) (x22 x23:List WT) (x24:List IA) (x25:List Int)=>some ((Iz.mk (WJ.mk (Wm.mk (WW.mk x3 x4) x5 x6 x7 x8) (Wo.mk x9 M O) (Ws.mk U) (Ws.mk V) Y Z) (WX.mk (WW.mk x16 x17) x18 (Wo.mk x19 x20 x21) (Ws.mk x22) (Ws.mk x23) x24 x25) f.w),0,0)) λj1=>bif (o.2.2==0)then(bnd (Qd1 N f.z) λr=>j1 o.1.h.c.W o.1.h.c.p o.1.h.w o.1.h.p o.1.h.s o.1.h.b o.1.l.S o.1.l.x o.1.l.i o.1.g.e o.1.v.e o.1.P o.1.R r.1.c.W r.1.c.p r.1.T r.1.l.S r.1.l.x r.1.l.i r.1.g.e r.1.v.e r.1.m r.1.R)else j1 f.N.h.c.W f.N.h.c.p f.N.h.w f.N.h.p f.N.h.s f.N.h.b f.N.l.S f.N.l.x f.N.l.i f.N.g.e f.N.v.e f.N.P f.N.R f.z.c.W f.z.c.p f.z.T f.z.l.S f.z.l.x f.z.l.i f.z.g.e f.z.v.e f.z.m f.z.R)else bnd (Qaf N f.N q.Op q.A q.B q.C) λj=>bnd (Qfw N f.N j.1 q.Op j.2.1 j.2.2) λy27=>bnd (Qgu N f.z q.Op q.A q.B q.C y27) λk=>jn (λ(u y:Int) (D:List In) (E:List UE) (G:List UJ) (H:List Int) (I J:List WT) (K:List IA) (L:List Int)=>bif (j.2.2==0)then(bif (j.2.1 != 0)then(grd (f.w.length*8<=140737488355328) <| grd ((f.w.length+1)*8<=140737488355328) <| some ((Iz.mk j.1 (WX.mk (WW.mk u y) D (Wo.mk E G H) (Ws.mk I) (Ws.mk J) K L) (f.w++[j.2.1])),j.2.1,j.2.2))else some ((Iz.mk j.1 (WX.mk (WW.mk u y) D (Wo.mk E G H) (Ws.mk I) (Ws.mk J) K L) f.w),j.2.1,j.2.2))else some ((Iz.mk f.N (WX.mk (WW.mk u y) D (Wo.mk E G H) (Ws.mk I) (Ws.mk J) K L) f.w),j.2.1,j.2.2)) λj2=>bif (k.2.2==0)then j2 k.1.c.W k.1.c.p k.1.T k.1.l.S k.1.l.x k.1.l.i k.1.g.e k.1.v.e k.1.m k.1.R else j2 f.z.c.W f.z.c.p f.z.T f.z.l.S f.z.l.x f.z.l.i f.z.g.e f.z.v.e f.z.m f.z.R
def Qg3(N:Nat)(a1:Int):Nat->Int->(List Int)->Int->Int->Int->(List Int)->(List Wv)->Int->Int->(List UE)->(List UJ)->(List Int)->(List WT)->(List WT)->(List Ux)->(List Int)->Int->Int->(List In)->(List UE)->(List UJ)->(List Int)->(List WT)->(List WT)->(List IA)->(List Int)->(List Int)->Option (Int×Int×List Int×List Wv×Int×Int×List UE×List UJ×List Int×List WT×List WT×List Ux×List Int×Int×Int×List In×List UE×List UJ×List Int×List WT×List WT×List IA×List Int×List Int)
 |0,_,_,_,_,_,_,_,_,_,_,_,_,_,_,_,_,_,_,_,_,_,_,_,_,_,_,_=>none
 |n+1,v2,v3,v4,Y,Z,v7,v8,v9,j,k,o,q,r,u,y,A,B,D,E,G,H,I,J,K,M,O,U=>
  bif (decide (v2<a1))then(bnd (Qhe N (U0.mk v3 v4)) λy29=>
   bif (!y29)then(bnd (Qdx N (Iz.mk (WJ.mk (Wm.mk (WW.mk Y Z) v7 v8 v9 j) (Wo.mk k o q) (Ws.mk r) (Ws.mk u) y A) (WX.mk (WW.mk B D) E (Wo.mk G H I) (Ws.mk J) (Ws.mk K) M O) U) (U0.mk v3 v4)) λV=>
    bnd (Qco N (Iz.mk (WJ.mk (Wm.mk (WW.mk Y Z) v7 v8 v9 j) (Wo.mk k o q) (Ws.mk r) (Ws.mk u) y A) (WX.mk (WW.mk B D) E (Wo.mk G H I) (Ws.mk J) (Ws.mk K) M O) U) V.1) λf=>
    Qg3 N a1 n (wI (v2+1)) V.2.L V.2.at_ f.1.N.h.c.W f.1.N.h.c.p f.1.N.h.w f.1.N.h.p f.1.N.h.s f.1.N.h.b f.1.N.l.S f.1.N.l.x f.1.N.l.i f.1.N.g.e f.1.N.v.e f.1.N.P f.1.N.R f.1.z.c.W f.1.z.c.p f.1.z.T f.1.z.l.S f.1.z.l.x f.1.z.l.i f.1.z.g.e f.1.z.v.e f.1.z.m f.1.z.R f.1.w)
   else some (Y,Z,v7,v8,v9,j,k,o,q,r,u,y,A,B,D,E,G,H,I,J,K,M,O,U))
  else some (Y,Z,v7,v8,v9,j,k,o,q,r,u,y,A,B,D,E,G,H,I,J,K,M,O,U)
def Qir(N:Nat)(k:List Int)(o:Int):Option Iz:=bnd (Qcl N (U0.mk k 0)) λj=>bnd (Qg3 N o N 0 j.2.L j.2.at_ j.1.N.h.c.W j.1.N.h.c.p j.1.N.h.w j.1.N.h.p j.1.N.h.s j.1.N.h.b j.1.N.l.S j.1.N.l.x j.1.N.l.i j.1.N.g.e j.1.N.v.e j.1.N.P j.1.N.R j.1.z.c.W j.1.z.c.p j.1.z.T j.1.z.l.S j.1.z.l.x j.1.z.l.i j.1.z.g.e j.1.z.v.e j.1.z.m j.1.z.R j.1.w) λf=>some (Iz.mk (WJ.mk (Wm.mk (WW.mk f.1 f.2.1) f.2.2.1 f.2.2.2.1 f.2.2.2.2.1 f.2.2.2.2.2.1) (Wo.mk f.2.2.2.2.2.2.1 f.2.2.2.2.2.2.2.1 f.2.2.2.2.2.2.2.2.1) (Ws.mk f.2.2.2.2.2.2.2.2.2.1) (Ws.mk f.2.2.2.2.2.2.2.2.2.2.1) f.2.2.2.2.2.2.2.2.2.2.2.1 f.2.2.2.2.2.2.2.2.2.2.2.2.1) (WX.mk (WW.mk f.2.2.2.2.2.2.2.2.2.2.2.2.2.1 f.2.2.2.2.2.2.2.2.2.2.2.2.2.2.1) f.2.2.2.2.2.2.2.2.2.2.2.2.2.2.2.1 (Wo.mk f.2.2.2.2.2.2.2.2.2.2.2.2.2.2.2.2.1 f.2.2.2.2.2.2.2.2.2.2.2.2.2.2.2.2.2.1 f.2.2.2.2.2.2.2.2.2.2.2.2.2.2.2.2.2.2.1) (Ws.mk f.2.2.2.2.2.2.2.2.2.2.2.2.2.2.2.2.2.2.2.1) (Ws.mk f.2.2.2.2.2.2.2.2.2.2.2.2.2.2.2.2.2.2.2.2.1) f.2.2.2.2.2.2.2.2.2.2.2.2.2.2.2.2.2.2.2.2.2.1 f.2.2.2.2.2.2.2.2.2.2.2.2.2.2.2.2.2.2.2.2.2.2.1) f.2.2.2.2.2.2.2.2.2.2.2.2.2.2.2.2.2.2.2.2.2.2.2)
def QcZ(N:Nat)(j:Ik)(l:Int×U0):Nat->Int->(List Wv)->Option (List Wv)
 |0,_,_=>none
 |n+1,f,e=>
  grd (e.length<=140737488355328) <|
  bif (decide (f<(e.length:Int)))then(bnd (Xb e f) λh=>
   bif (h.k==1)then(bnd (Xb e f) λg=>
    QcZ N j l n (wI (f+1)) (e.set f.toNat (Wv.mk g.k g.s g.u 1)))
   else QcZ N j l n (wI (f+1)) e)
  else some e
def QbY(N:Nat)(e:Ik)(K:U0):Option (Ik×U0):=grd (e.h.w.length*8<=140737488355328) <| grd (e.h.p.length*32<=140737488355328) <| grd (e.h.w.length<=140737488355328) <| bnd (Qaa N K (e.h.w.length:Int)) λr=>grd (e.h.p.length<=140737488355328) <| bnd (Qaa N r.2 (e.h.p.length:Int)) λg=>bnd (Qaa N g.2 12) λf=>jn (λ(L:Bool)=>bif L then(bnd (Qaa N f.2 10) λI=>bnd (Xb [0,1,5,21,4096,4097,4112,16386,1099511627776,61] I.1) λM=>bnd (Xb e.h.w r.1) λS=>some ((Ik.mk (Wm.mk e.h.c (e.h.w.set r.1.toNat M) e.h.p e.h.s e.h.b) e.Strong e.Weak),I.2))else bif (f.1==2)then(bnd (Xb e.h.w r.1) λO=>bnd (Qaa N f.2 64) λE=>grd (0<=(wU E.1)) <| bnd (Xb e.h.w r.1) λR=>some ((Ik.mk (Wm.mk e.h.c (e.h.w.set r.1.toNat (Xod .u64 O (ZN .u64 1 (wU E.1)))) e.h.p e.h.s e.h.b) e.Strong e.Weak),E.2))else bif (f.1==3)then(bnd (Qaa N f.2 5) λv=>bnd (Xb e.h.p g.1) λj=>some ((Ik.mk (Wm.mk e.h.c e.h.w (e.h.p.set g.1.toNat (Wv.mk v.1 j.s j.u j.P)) e.h.s e.h.b) e.Strong e.Weak),v.2))else bif (f.1==4)then(bnd (Qaa N f.2 3) λy=>bnd (Xb e.h.p g.1) λl=>some ((Ik.mk (Wm.mk e.h.c e.h.w (e.h.p.set g.1.toNat (Wv.mk l.k y.1 l.u l.P)) e.h.s e.h.b) e.Strong e.Weak),y.2))else bif (f.1==5)then(bnd (Xb e.h.p g.1) λG=>bnd (Qaa N f.2 9) λz=>bnd (Xb e.h.p g.1) λo=>some ((Ik.mk (Wm.mk e.h.c e.h.w (e.h.p.set g.1.toNat (Wv.mk o.k o.s (wI ((wI (G.u+z.1))-4)) o.P)) e.h.s e.h.b) e.Strong e.Weak),z.2))else bif (f.1==6)then(bnd (Qaa N f.2 3) λA=>bnd (Xb e.h.p g.1) λq=>some ((Ik.mk (Wm.mk e.h.c e.h.w (e.h.p.set g.1.toNat (Wv.mk q.k q.s q.u (wI (A.1-1)))) e.h.s e.h.b) e.Strong e.Weak),A.2))else bif (f.1==7)then(bnd (Qaa N f.2 3) λB=>some ((Ik.mk (Wm.mk e.h.c e.h.w e.h.p B.1 e.h.b) e.Strong e.Weak),B.2))else bif (f.1==8)then(grd (e.h.p.length<=140737488355328) <| bnd (Qaa N f.2 (wI ((e.h.p.length:Int)+2))) λD=>some ((Ik.mk (Wm.mk e.h.c e.h.w e.h.p e.h.s (wI (D.1-1))) e.Strong e.Weak),D.2))else bif (f.1==9)then some ((Ik.mk (Wm.mk (WW.mk (wI (e.h.c.W+4)) e.h.c.p) e.h.w e.h.p e.h.s e.h.b) e.Strong e.Weak),f.2)else bif (f.1==10)then(grd (0<=1/\1<=(e.h.p.length:Int)/\(e.h.p.length:Int)<=(e.h.p.length:Int)) <| some ((Ik.mk (Wm.mk e.h.c e.h.w ((e.h.p.drop 1).take (e.h.p.length-1)) e.h.s e.h.b) e.Strong e.Weak),f.2))else bif (f.1==11)then(bnd (QcZ N e f N 0 e.h.p) λH=>some ((Ik.mk (Wm.mk e.h.c e.h.w H e.h.s e.h.b) e.Strong e.Weak),f.2))else some (e,f.2)) λJ=>bif (f.1==0)then J true else J (f.1==1)
def Qg4(N:Nat)(f:WJ)(E:U0):Option (WJ×U0):=bnd (Qaa N E 8) λj=>bif (j.1==0)then(bnd (QbY N (Ik.mk f.h [] []) j.2) λw=>some ((WJ.mk w.1.h f.l f.g f.v f.P f.R),w.2))else bif (j.1==1)then(grd (f.R.length*8<=140737488355328) <| bnd (Qaa N j.2 200) λy=>grd ((f.R.length+1)*8<=140737488355328) <| some ((WJ.mk f.h f.l f.g f.v f.P (f.R++[(wU (wI (4096+y.1)))])),y.2))else bif (j.1==2)then(bif (decide ((f.l.S.length:Int)>0))then(grd (f.l.S.length*24<=140737488355328) <| bnd (Qaa N j.2 (f.l.S.length:Int)) λu=>bnd (Xb f.l.S u.1) λG=>bnd (Qaa N u.2 3) λz=>bnd (Xb f.l.S u.1) λA=>some ((WJ.mk f.h (Wo.mk (f.l.S.set u.1.toNat (UE.mk A.J (wU (G.a+(wU z.1))) A.V)) f.l.x f.l.i) f.g f.v f.P f.R),z.2))else some (f,j.2))else bif (j.1==3)then(grd (f.g.e.length*24<=140737488355328) <| bnd (Qaa N j.2 3) λB=>bnd (Qaa N B.2 2) λD=>grd ((f.g.e.length+1)*24<=140737488355328) <| some ((WJ.mk f.h f.l (Ws.mk (f.g.e++[(WT.mk B.1 0 (D.1==0))])) f.v f.P f.R),D.2))else bif (j.1==4)then(grd (f.v.e.length*24<=140737488355328) <| bnd (Qaa N j.2 3) λk=>bnd (Qaa N k.2 40) λo=>grd ((f.v.e.length+1)*24<=140737488355328) <| some ((WJ.mk f.h f.l f.g (Ws.mk (f.v.e++[(WT.mk k.1 (wU (wI (4096+o.1))) true)])) f.P f.R),o.2))else bif (j.1==5)then(grd (f.P.length*16<=140737488355328) <| bnd (Qaa N j.2 20) λp=>bnd (Qaa N p.2 2) λq=>grd ((f.P.length+1)*16<=140737488355328) <| some ((WJ.mk f.h f.l f.g f.v (f.P++[(Ux.mk (wU (wI (4096+p.1))) q.1)]) f.R),q.2))else bif (j.1==6)then(grd (f.l.x.length*24<=140737488355328) <| bnd (Qaa N j.2 4) λr=>bnd (Qaa N r.2 70) λs=>grd ((f.l.x.length+1)*24<=140737488355328) <| some ((WJ.mk f.h (Wo.mk f.l.S (f.l.x++[(UJ.mk r.1 s.1 false)]) f.l.i) f.g f.v f.P f.R),s.2))else some ((WJ.mk f.h f.l f.g f.v [] f.R),j.2)
def Qjm(N:Nat)(e:Wm):Option Bool:=bif (decide ((e.w.length:Int)<=5000))then some (decide ((e.p.length:Int)<=100))else some false
def QhH(N:Nat)(f:WJ):Option Bool:=bnd (Qjm N f.h) λj=>bif j then(bif (decide ((f.l.S.length:Int)<=200))then(bif (decide ((f.l.x.length:Int)<=100))then(bif (decide ((f.l.i.length:Int)<=5000))then(bif (decide ((f.g.e.length:Int)<=200))then(bif (decide ((f.v.e.length:Int)<=200))then(bif (decide ((f.P.length:Int)<=100))then some (decide ((f.R.length:Int)<=100))else some false)else some false)else some false)else some false)else some false)else some false)else some false
def QcD(N:Nat)(e:WW):Option Bool:=bif (decide (e.W>=16))then(bif (decide (e.W<=64))then(bif ((e.W.tmod 4)==0)then(bif (decide (e.p>=8))then some (decide (e.p<=64))else some false)else some false)else some false)else some false
def QfL(N:Nat)(e:WW):Option Int:=bnd (QcD N e) λf=>bif (!f)then some 0 else some (wI (e.W.tdiv 4))
def QfM(N:Nat)(e:WW)(f:Int):Option Int:=bnd (QcD N e) λg=>bif (!g)then some (-1)else bif (decide (f<1))then some (-1)else bif (decide (f>(wI (4*e.W))))then some (-1)else bnd (QfL N e) λh=>bif (decide (f<=h))then some 0 else grd (e.W≠0) <| some (wI ((wI ((wI (f+e.W))-1)).tdiv e.W))
def QgU(N:Nat)(e:Wv)(f:WW):Option Bool:=some ((e.k==0)&&((e.s==0)&&((e.u==0)&&(e.P==0))))
def Qci(N:Nat)(e:Wv):Option Bool:=bif (e.s==0)then some true else some (e.s==1)
def QdX(N:Nat)(e:Wv):Option Bool:=bif (decide (e.P>=0))then some (decide (e.P<=2147483647))else some false
def Qef(N:Nat)(e:Wv)(f:WW):Option Bool:=bnd (Qci N e) λg=>bif g then(bnd (QdX N e) λh=>bif h then(bif (decide (e.u>=0))then some (decide (e.u<=f.W))else some false)else some false)else some false
def Qeg(N:Nat)(e:Wv)(f:WW):Option Bool:=bnd (Qci N e) λg=>bif g then(bnd (QdX N e) λh=>bif h then(bnd (QfM N f e.u) λj=>some (decide (j>=1)))else some false)else some false
def Qf4(N:Nat)(e f:Wv):Option Bool:=some ((e.k==3)&&((e.s==f.s)&&((e.u==0)&&(e.P==0))))
def Qgc(N:Nat)(g:List Wv)(e:Int)(f:Wv)(k h:Int):Nat->Int->Option (Ex Int Unit)
 |0,_=>none
 |n+1,j=>
  bif (decide (j<(((min ((wI (e+h)).toNat-(wI (e+1)).toNat) (g.length-(wI (e+1)).toNat)):Nat):Int)))then(bnd (Xb ((g.drop (wI (e+1)).toNat).take ((wI (e+h)).toNat-(wI (e+1)).toNat)) j) λl=>
   bnd (Qf4 N l (Wv.mk k f.s f.u f.P)) λo=>
   bif (!o)then some (.ret 0)
   else Qgc N g e f k h n (wI (j+1)))
  else some (.nxt ())
def QhO(N:Nat)(j:WW)(l:List Wv)(g:Int):Option Int:=bnd (Xb l g) λf=>jn (λ(p:Int)=>bif (p != 2)then some 1 else bnd (QfM N j f.u) λh=>bif (decide (h>(wI ((l.length:Int)-g))))then some 0 else grd (0<=(wI (g+1))/\(wI (g+1))<=(wI (g+h))/\(wI (g+h))<=(l.length:Int)) <| bnd (Qgc N l g f p h N 0) λe=>exK e (λr=>some r) λq=>some h) λo=>bif (decide (f.k<0))then some 0 else bif (decide (f.k>=3))then some 0 else bif (f.k==0)then(bnd (QgU N (Wv.mk 0 f.s f.u f.P) j) λv=>bif (!v)then some 0 else o 0)else bif (f.k==1)then(bnd (Qef N (Wv.mk 1 f.s f.u f.P) j) λw=>bif (!w)then some 0 else o 1)else bif (f.k==2)then(bnd (Qeg N (Wv.mk 2 f.s f.u f.P) j) λy=>bif (!y)then some 0 else o 2)else none
def Qag(N:Nat)(e:Wm):Nat->Int->Option (Ex Bool Unit)
 |0,_=>none
 |n+1,f=>
  bif (decide (f<(e.p.length:Int)))then(bnd (QhO N e.c e.p f) λg=>
   bif (g==0)then some (.ret false)
   else Qag N e n (wI (f+g)))
  else some (.nxt ())
def QbS(N:Nat)(f:Wm):Option Bool:=jn (λ(_:Unit)=>jn (λ(_:Unit)=>bnd (Qag N f N 0) λe=>exK e (λr=>some r) λo=>some true) λg=>bif (f.b != (-1))then(bif (decide (f.b<0))then some false else bif (decide (f.b>=(f.p.length:Int)))then some false else bnd (Xb f.p f.b) λj=>bif (j.k != 1)then some false else g ())else g ()) λh=>bnd (QcD N f.c) λl=>bif (!l)then some false else bif ((f.w.length:Int) != (wI (f.c.W*f.c.p)))then some false else bif ((f.p.length:Int) != f.c.p)then some false else bif (f.s != 0)then(bif (f.s != 1)then some false else h ())else h ()
def QdY(N:Nat)(e:List UQ):Nat->Int->(List Int)->Option (List Int)
 |0,_,_=>none
 |n+1,f,g=>
  bif (decide (f<(e.length:Int)))then(bnd (Xb e f) λh=>
   grd ((g.length+1)*8<=140737488355328) <|
   QdY N e n (wI (f+1)) (g++[h.addr]))
  else some g
def QcE(N:Nat)(e:List UQ):Option (List Int):=bnd (QdY N e N 0 []) λf=>some f
def Qgd(N:Nat)(e:Int):Nat->Int->Int->Option Int
 |0,_,_=>none
 |n+1,f,g=>
  bif (decide (g<(if 64<(if e<0 then 0 else e)then 64 else(if e<0 then 0 else e))))then Qgd N e n (bOr .u64 (ZN .u64 f 1) 1) (wI (g+1))
  else some f
def Qa4(N:Nat)(e:Int):Option Int:=bnd (Qgd N e N 0 0) λf=>some f
def QdS(N:Nat)(e:WC):Option Bool:=bif (decide (e.k<0))then some false else bif (decide (e.k>3))then some false else bif (decide (e.n<0))then some false else bif (decide (e.n>255))then some false else bif (e.k==1)then(jn (λ(g:Bool)=>some g) λf=>bif (decide (e.n<=32))then(bnd (Qa4 N e.n) λh=>f (decide ((wU e.Map)<=h)))else f false)else some ((e.k==e.k)&&((e.n==e.n)&&(e.Map==0)))
def QbA(N:Nat)(e:WC):Option Int:=bnd (QdS N e) λf=>bif (!f)then some 0 else some (wI (e.n+1))
def Qcc(N:Nat)(e:WW)(f:Int):Option (Int×Int×Int):=bnd (QcD N e) λg=>bif (!g)then some (0,0,1)else bif (decide (f<4096))then some (0,0,2)else bif (decide ((wU (f-4096))>=(wU (wI (e.W*e.p)))))then some (0,0,2)else grd (e.W≠0) <| grd (e.W≠0) <| some ((wI ((wI (wU (f-4096))).tdiv e.W)),((wI (wU (f-4096))).tmod e.W),0)
def QaD(N:Nat)(j:Int)(e:List Int):Nat->Int->Int->Option (Ex (List Int×Int) Unit)
 |0,_,_=>none
 |n+1,h,f=>
  bif (decide (f<(e.length:Int)))then(bnd (Xb e f) λg=>
   bif (decide (g<1))then some (.ret ([],1))
   else bif (decide (g>h))then some (.ret ([],1))
   else QaD N j e n (wI (h-g)) (wI (f+1)))
  else some (.nxt ())
def QaE(N:Nat)(e:List Int):Nat->Int->Int->(List Int)->Option (Int×List Int)
 |0,_,_,_=>none
 |n+1,f,g,h=>
  bif (decide (g<(e.length:Int)))then(bnd (Xb e g) λj=>
   bnd (Qa4 N j) λk=>
   grd ((h.length+1)*8<=140737488355328) <|
   grd (0<=j) <|
   QaE N e n (YD .u64 f j) (wI (g+1)) (h++[(Y4 .u64 f k)]))
  else some (f,h)
def QdL(N:Nat)(g:Int)(h:List Int):Option (List Int×Int):=bnd (QaD N g h N 64 0) λe=>exK e (λr=>some r) λj=>bnd (QaE N h N g 0 []) λf=>bif (f.1 != 0)then some ([],2)else some (f.2,0)
def QeH(N:Nat)(j:Int):Option (WC×Bool):=bnd (QdL N j [2,2,12,32]) λe=>bif (e.2 != 0)then some ((WC.mk 0 0 0),false)else bnd (Xb e.1 0) λk=>bif (k != 1)then some ((WC.mk 0 0 0),false)else bnd (Xb e.1 1) λf=>bnd (Xb e.1 2) λg=>bnd (Xb e.1 3) λh=>bnd (QdS N (WC.mk (wI f) (wI g) (wW h))) λl=>bif (!l)then some ((WC.mk 0 0 0),false)else some ((WC.mk (wI f) (wI g) (wW h)),true)
def QfW(N:Nat)(f:List Int)(e g:Int):Option (Int×Bool):=bif (decide (e<4096))then some (0,false)else bif (decide ((wU (e-4096))>(wU (f.length:Int))))then some (0,false)else some ((wI (wU (e-4096))),(decide (g<=(wI ((f.length:Int)-(wI (wU (e-4096))))))))
def Qip(N:Nat)(f:List Int)(g:Int):Option (Int×Int):=bnd (QfW N f g 1) λe=>bif (!e.2)then some (0,2)else some (e.1,0)
def Qgv(N:Nat)(f:List Int)(g:Int):Option (Int×Int):=bnd (Qip N f g) λe=>bif (e.2 != 0)then some (0,e.2)else bnd (Xb f e.1) λh=>some (h,0)
def QhI(N:Nat)(e:Wm)(f:Int):Option Int:=bnd (Qgv N e.w f) λg=>some g.1
def Qew(N:Nat)(g:Wm)(o:Int):Option (WC×Int):=bnd (QbS N g) λw=>bif (!w)then some ((WC.mk 0 0 0),1)else bnd (Qcc N g.c o) λe=>bif (e.2.2 != 0)then some ((WC.mk 0 0 0),e.2.2)else bnd (Xb g.p e.1) λf=>bnd (QhI N g o) λy=>bnd (QeH N y) λh=>bnd (QbA N h.1) λq=>jn (λ(j:Bool)=>bif (!j)then some ((WC.mk 0 0 0),19)else some (h.1,0)) λl=>bif (!h.2)then l false else bif (decide (e.2.1>=f.u))then l false else jn (λ(z:Bool)=>l z) λr=>bif (f.k==1)then r (decide (q<=(wI (f.u-e.2.1))))else jn (λ(A:Bool)=>r A) λs=>bif (f.k==2)then(jn (λ(B:Bool)=>s B) λv=>bif (e.2.1==0)then v (q==f.u)else v false)else s false
def QdT(N:Nat)(e:WW)(f g:Int):Option (Int×Int):=bnd (QcD N e) λh=>bif (!h)then some (0,1)else bif (decide (f<0))then some (0,2)else bif (decide (f>=e.p))then some (0,2)else bif (decide (g<0))then some (0,2)else bif (decide (g>=e.W))then some (0,2)else some ((wU (4096+(wU (wI ((wI (f*e.W))+g))))),0)
def Qcd(N:Nat)(e:Wm)(k:Int)(l:Wv):Nat->Int->List UQ->Option (List UQ×Int)
 |0,_,_=>none
 |n+1,f,g=>
  bif (decide (f<l.u))then(bnd (QdT N e.c k f) λh=>
   bif (h.2==0)then(bnd (Qew N e h.1) λj=>
    bif (j.2==0)then(bnd (QbA N j.1) λo=>
     grd ((g.length+1)*32<=140737488355328) <|
     Qcd N e k l n (wI (f+o)) (g++[UQ.mk h.1 j.1]))
    else some ([],19))
   else some ([],19))
  else some (g,0)
def QgN(N:Nat)(f:Wm)(g:Int):Option (List UQ×Int):=bnd (Xb f.p g) λe=>bif (e.k != 1)then(bif (e.k != 2)then some ([],0)else Qcd N f g e N 0 [])else Qcd N f g e N 0 []
def QfN(N:Nat)(e:Wm)(f:Int):Option (List Int×Int):=bnd (QbS N e) λh=>bif (!h)then some ([],1)else bif (decide (f<0))then some ([],2)else bif (decide (f>=(e.p.length:Int)))then some ([],2)else bnd (QgN N e f) λg=>bif (g.2 != 0)then some ([],g.2)else bnd (QcE N g.1) λj=>some (j,0)
def QcF(N:Nat)(e:Wm)(f:Int)(g:List Int):Nat->Int->Option (Ex (Int×Bool) Unit)
 |0,_=>none
 |n+1,h=>
  bif (decide (h<(g.length:Int)))then(bnd (Xb g h) λj=>
   bnd (Qew N e j) λl=>
   bnd (QbA N l.1) λo=>
   bnd (QfL N e.c) λq=>
   bnd (Xb e.p f) λr=>
   bif (r.k==1)then(bif (!(decide (o<=q)))then some (.ret (j,true))
    else bnd (Xb e.p f) λs=>
    bif (s.k==2)then(bif (l.1.k==0)then some (.ret (j,true))
     else QcF N e f g n (wI (h+1)))
    else QcF N e f g n (wI (h+1)))
   else bnd (Xb e.p f) λu=>
   bif (u.k==2)then(bif (l.1.k==0)then some (.ret (j,true))
    else QcF N e f g n (wI (h+1)))
   else QcF N e f g n (wI (h+1)))
  else some (.nxt ())
def QgO(N:Nat)(f:Wm)(g:Int)(h:List Int):Option (Int×Bool):=bnd (QcF N f g h N 0) λe=>exK e (λr=>some r) λj=>some (0,false)
def Qad(N:Nat)(e:List Int):Option (List Int):=some e
def Qh0(N:Nat)(g:List Int)(h f:Int):Option (List Int×Int):=bif (decide (f<0))then some ([],1)else bnd (QfW N g h f) λe=>bif (!e.2)then some ([],2)else grd (0<=e.1/\e.1<=(wI (e.1+f))/\(wI (e.1+f))<=(g.length:Int)) <| bnd (Qad N ((g.drop e.1.toNat).take ((wI (e.1+f)).toNat-e.1.toNat))) λj=>some (j,0)
def Qfy(N:Nat)(f:Wm):Nat->Int->Option Int
 |0,_=>none
 |n+1,e=>
  bif (decide (e>0))then(bnd (Xb f.p e) λg=>
   bif (g.k==3)then Qfy N f n (wI (e-1))
   else some e)
  else some e
def Qh1(N:Nat)(e:Wm)(f:Int):Option Int:=bnd (Qfy N e N f) λg=>some g
def Qh2(N:Nat)(e:Int):Option Bool:=some (e != 0)
def QaG(N:Nat)(f:List Int):Nat->Int->Option (Ex Int Unit)
 |0,_=>none
 |n+1,e=>
  bif (decide (e<(f.length:Int)))then(bnd (Xb f e) λg=>
   bnd (Qh2 N g) λh=>
   bif h then some (.ret e)
   else QaG N f n (wI (e+1)))
  else some (.nxt ())
def Qbx(N:Nat)(f:List Int):Option Int:=bnd (QaG N f N 0) λe=>exK e (λr=>some r) λg=>some (-1)
def QeI(N:Nat)(o:Wm)(e:Int×Int)(j:List Int×Int):Nat->Int->(List Int)->Option (List Int)
 |0,_,_=>none
 |n+1,l,h=>
  bif (decide (l<(j.1.length:Int)))then(bnd (Xb j.1 l) λf=>
   bnd (Qew N o f) λp=>
   jn (λ(g:Int)=>
    grd (h.length<=140737488355328) <|
    grd (h.length<=140737488355328) <|
    grd (0<=(if(h.length:Int)<(if(wI ((wI f)-(wI e.1)))<0 then 0 else(wI ((wI f)-(wI e.1))))then(h.length:Int)else(if(wI ((wI f)-(wI e.1)))<0 then 0 else(wI ((wI f)-(wI e.1)))))/\(if(h.length:Int)<(if(wI ((wI f)-(wI e.1)))<0 then 0 else(wI ((wI f)-(wI e.1))))then(h.length:Int)else(if(wI ((wI f)-(wI e.1)))<0 then 0 else(wI ((wI f)-(wI e.1)))))<=(if(h.length:Int)<(if(wI ((wI ((wI f)-(wI e.1)))+g))<0 then 0 else(wI ((wI ((wI f)-(wI e.1)))+g)))then(h.length:Int)else(if(wI ((wI ((wI f)-(wI e.1)))+g))<0 then 0 else(wI ((wI ((wI f)-(wI e.1)))+g))))/\(if(h.length:Int)<(if(wI ((wI ((wI f)-(wI e.1)))+g))<0 then 0 else(wI ((wI ((wI f)-(wI e.1)))+g)))then(h.length:Int)else(if(wI ((wI ((wI f)-(wI e.1)))+g))<0 then 0 else(wI ((wI ((wI f)-(wI e.1)))+g))))<=(h.length:Int)) <|
    QeI N o e j n (wI (l+1)) (((h.take (if(h.length:Int)<(if(wI ((wI f)-(wI e.1)))<0 then 0 else(wI ((wI f)-(wI e.1))))then(h.length:Int)else(if(wI ((wI f)-(wI e.1)))<0 then 0 else(wI ((wI f)-(wI e.1))))).toNat)++(List.replicate ((if(h.length:Int)<(if(wI ((wI ((wI f)-(wI e.1)))+g))<0 then 0 else(wI ((wI ((wI f)-(wI e.1)))+g)))then(h.length:Int)else(if(wI ((wI ((wI f)-(wI e.1)))+g))<0 then 0 else(wI ((wI ((wI f)-(wI e.1)))+g)))).toNat-(if(h.length:Int)<(if(wI ((wI f)-(wI e.1)))<0 then 0 else(wI ((wI f)-(wI e.1))))then(h.length:Int)else(if(wI ((wI f)-(wI e.1)))<0 then 0 else(wI ((wI f)-(wI e.1))))).toNat) (0:Int)))++(h.drop ((if(h.length:Int)<(if(wI ((wI f)-(wI e.1)))<0 then 0 else(wI ((wI f)-(wI e.1))))then(h.length:Int)else(if(wI ((wI f)-(wI e.1)))<0 then 0 else(wI ((wI f)-(wI e.1))))).toNat+((if(h.length:Int)<(if(wI ((wI ((wI f)-(wI e.1)))+g))<0 then 0 else(wI ((wI ((wI f)-(wI e.1)))+g)))then(h.length:Int)else(if(wI ((wI ((wI f)-(wI e.1)))+g))<0 then 0 else(wI ((wI ((wI f)-(wI e.1)))+g)))).toNat-(if(h.length:Int)<(if(wI ((wI f)-(wI e.1)))<0 then 0 else(wI ((wI f)-(wI e.1))))then(h.length:Int)else(if(wI ((wI f)-(wI e.1)))<0 then 0 else(wI ((wI f)-(wI e.1))))).toNat))))) λq=>
   bif (p.1.k != 0)then(bnd (QbA N p.1) λr=>
    q r)
   else q 1)
  else some h
def Qhj(N:Nat)(f:Wm)(j:Int):Option (Int×Bool):=bnd (QdT N f.c j 0) λg=>bnd (Qh0 N f.w g.1 f.c.W) λk=>bnd (Qh1 N f j) λl=>bnd (QfN N f l) λo=>bnd (QeI N f g o N 0 k.1) λh=>bnd (Qbx N h) λe=>some ((wU (g.1+(wU (if e<0 then 0 else e)))),(decide (e>=0)))
def Qba(N:Nat)(f:Wm):Nat->Int->Option (Ex Uh Unit)
 |0,_=>none
 |n+1,e=>
  bif (decide (e<(f.p.length:Int)))then(bnd (Xb f.p e) λg=>
   jn (λ(_:Unit)=>
    bnd (QfN N f e) λh=>
    bif (h.2 != 0)then some (.ret (Uh.mk 3 e 0))
    else bnd (QgO N f e h.1) λj=>
    bif j.2 then some (.ret (Uh.mk 5 e j.1))
    else bnd (Qhj N f e) λl=>
    bif l.2 then some (.ret (Uh.mk 4 e l.1))
    else Qba N f n (wI (e+1))) λo=>
   bif (g.k != 0)then(bif (g.s != f.s)then some (.ret (Uh.mk 2 e 0))
    else o ())
   else o ())
  else some (.nxt ())
def QhA(N:Nat)(f:Wm):Option Uh:=bnd (Qba N f N 0) λe=>exK e (λr=>some r) λg=>some (Uh.mk 0 0 0)
def QgP(N:Nat)(f:Wm):Nat->Int->(List UQ)->Option (Ex (List UQ×Int) (List UQ))
 |0,_,_=>none
 |n+1,g,h=>
  bif (decide (g<(f.p.length:Int)))then(bnd (QgN N f g) λe=>
   bif (e.2 != 0)then some (.ret ([],e.2))
   else grd ((h.length+e.1.length)*32<=140737488355328) <|
   QgP N f n (wI (g+1)) (h++e.1))
  else some (.nxt h)
def QiJ(N:Nat)(f:Wm):Option (List UQ×Int):=bnd (QbS N f) λg=>bif (!g)then some ([],1)else bnd (QgP N f N 0 []) λe=>exK e (λr=>some r) λh=>some (h,0)
def Qfe(N:Nat)(e:UQ):Option Bool:=some (e.hd.k==0)
def Qaj(N:Nat)(f:List UQ):Nat->Int->Option (Ex Int Unit)
 |0,_=>none
 |n+1,e=>
  bif (decide (e<(f.length:Int)))then(bnd (Xb f e) λg=>
   bnd (Qfe N g) λh=>
   bif h then some (.ret e)
   else Qaj N f n (wI (e+1)))
  else some (.nxt ())
def QaC(N:Nat)(f:List UQ):Option Int:=bnd (Qaj N f N 0) λe=>exK e (λr=>some r) λg=>some (-1)
def QcW(N:Nat):Nat->Int->Int->(List UQ)->Option (Int×List UQ)
 |0,_,_,_=>none
 |n+1,f,g,e=>
  grd (e.length<=140737488355328) <|
  bif (decide (g<(e.length:Int)))then(bnd (Xb e g) λh=>
   bnd (Qfe N h) λj=>
   bif (!j)then(bnd (Xb e f) λk=>
    QcW N n (wI (f+1)) (wI (g+1)) (e.set f.toNat h))
   else QcW N n f (wI (g+1)) e)
  else some (f,e)
def QdU(N:Nat)(k:Wm):Option (List Int×Int):=bnd (QiJ N k) λf=>bif (f.2 != 0)then some ([],f.2)else bnd (QaC N f.1) λg=>bif (g==(-1))then(bnd (QcE N f.1) λh=>some (h,0))else bnd (QcW N N g (wI (g+1)) f.1) λe=>grd (0<=e.1/\e.1<=(e.2.length:Int)/\(e.2.length:Int)<=(e.2.length:Int)) <| grd (0<=e.1/\e.1<=(((((min e.1.toNat e.2.length)+(e.2.length-e.1.toNat))+(e.2.length-(e.1.toNat+(e.2.length-e.1.toNat)))):Nat):Int)) <| bnd (QcE N ((((e.2.take e.1.toNat)++(List.replicate (e.2.length-e.1.toNat) (UQ.mk 0 (WC.mk 0 0 0))))++(e.2.drop (e.1.toNat+(e.2.length-e.1.toNat)))).take e.1.toNat)) λj=>some (j,0)
def Qfk(N:Nat)(e:Int):Option Bool:=some (e != e)
def QgV(N:Nat)(e f:Int):Option Bool:=bnd (Qfk N e) λg=>bif g then(bnd (Qfk N f) λh=>bif (!h)then some true else some (decide (e<f)))else some (decide (e<f))
def Qd5(N:Nat)(e:Int):Option Bool:=some (e != e)
def Qay(N:Nat)(g:List Int)(h:Int):Nat->Int->Int->Option Int
 |0,_,_=>none
 |n+1,e,f=>
  bif (decide (e<f))then(bnd (Xb g (wI (YD .u64 (wU (wI (e+f))) 1))) λj=>
   bnd (QgV N j h) λk=>
   bif k then Qay N g h n (wI ((wI (YD .u64 (wU (wI (e+f))) 1))+1)) f
   else Qay N g h n e (wI (YD .u64 (wU (wI (e+f))) 1)))
  else some e
def Qau(N:Nat)(f:List Int)(g:Int):Option (Int×Bool):=bnd (Qay N f g N 0 (f.length:Int)) λe=>bif (decide (e<(f.length:Int)))then(bnd (Xb f e) λh=>bif (h==g)then some (e,true)else bnd (Xb f e) λj=>bnd (Qd5 N j) λk=>bif k then(bnd (Qd5 N g) λl=>some (e,l))else some (e,false))else some (e,false)
def QcG(N:Nat)(e:WC)(f:Int):Option Bool:=bnd (QdS N e) λg=>bif (!g)then some false else bif (decide (f<0))then some false else bif (decide (f>=e.n))then some false else bif (e.k==2)then some true else bif (e.k==1)then(grd (0<=f) <| some ((Y4 .u32 (YD .u32 e.Map f) 1)==1))else some false
def Qcp(N:Nat)(g:WC)(h:Int):Nat->Int->(List Int)->Option (List Int)
 |0,_,_=>none
 |n+1,e,f=>
  bif (decide (e<h))then(bnd (QcG N g e) λj=>
   bif j then(grd ((f.length+1)*8<=140737488355328) <|
    Qcp N g h n (wI (e+1)) (f++[e]))
   else Qcp N g h n (wI (e+1)) f)
  else some f
def Qez(N:Nat)(e:WC):Option (List Int):=bnd (QbA N e) λf=>bnd (Qcp N e f N 0 []) λg=>some g
def QaT(N:Nat)(h:Wm)(j:List Int×Int)(k e:Int)(f:List Int):Nat->Int->Option (Ex Int Unit)
 |0,_=>none
 |n+1,g=>
  bif (decide (g<(f.length:Int)))then(bnd (Xb f g) λl=>
   bnd (Qgv N h.w (wU ((wU (e+1))+(wU l)))) λo=>
   bnd (Qau N j.1 o.1) λp=>
   bif (o.1 != 0)then(bif (!p.2)then some (.ret (wU ((wU (e+1))+(wU l))))
    else QaT N h j k e f n (wI (g+1)))
   else QaT N h j k e f n (wI (g+1)))
  else some (.nxt ())
def QcI(N:Nat)(h:Wm)(f:List Int×Int):Nat->Int->Option Int
 |0,_=>none
 |n+1,g=>
  bif (decide (g<(f.1.length:Int)))then(bnd (Xb f.1 g) λk=>
   bnd (Qew N h k) λl=>
   bnd (Qez N l.1) λo=>
   bnd (QaT N h f g k o N 0) λe=>exK e (λj=>some j) λp=>
   QcI N h f n (wI (g+1)))
  else some 0
def Qge(N:Nat)(f:Wm):Option Uh:=bnd (QdU N f) λh=>bnd (QcI N f h N 0) λe=>bif (e==0)then some (Uh.mk 0 0 0)else bnd (Qcc N f.c e) λg=>some (Uh.mk 6 g.1 e)
def QcH(N:Nat)(e:Wm):Nat->Int->Int->Option Int
 |0,_,_=>none
 |n+1,g,f=>
  bif (decide (f<(e.p.length:Int)))then(bnd (Xb e.p f) λh=>
   bif (h.k==1)then(bif (decide (h.P>0))then QcH N e n (wI (g+1)) (wI (f+1))
    else QcH N e n g (wI (f+1)))
   else QcH N e n g (wI (f+1)))
  else some g
def Qiq(N:Nat)(e:Wm):Option Uh:=bnd (QbS N e) λh=>bif (!h)then some (Uh.mk 1 0 0)else bnd (QhA N e) λf=>bif (!((f.Fault==0)&&((f.Page==0)&&(f.Addr==0))))then some f else bnd (Qge N e) λg=>bif (!((g.Fault==0)&&((g.Page==0)&&(g.Addr==0))))then some g else bnd (QcH N e N 0 0) λj=>bif (decide (j>(wI (e.c.p.tdiv 4))))then some (Uh.mk 7 0 0)else some (Uh.mk 0 0 0)
def QfO(N:Nat)(f:Wm):Option Bool:=bnd (Qiq N f) λe=>some ((e.Fault==0)&&((e.Page==0)&&(e.Addr==0)))
def Qf5(N:Nat)(e:Ux)(f:Int):Option Bool:=some (e.a==f)
def Qax(N:Nat)(f:List Ux)(g:Int):Nat->Int->Option (Ex Int Unit)
 |0,_=>none
 |n+1,e=>
  bif (decide (e<(f.length:Int)))then(bnd (Xb f e) λh=>
   bnd (Qf5 N h g) λj=>
   bif j then some (.ret e)
   else Qax N f g n (wI (e+1)))
  else some (.nxt ())
def Qbd(N:Nat)(f:List Ux)(g:Int):Option Int:=bnd (Qax N f g N 0) λe=>exK e (λr=>some r) λh=>some (-1)
def QeJ(N:Nat)(e:List Ux)(f:Int):Option Int:=bnd (Qbd N e f) λg=>some g
def Qcq(N:Nat)(f:List Ux)(k:Wm)(l:List Int×Int):Nat->Int->(List Int)->Option (Ex (List Int×Bool) (List Int))
 |0,_,_=>none
 |n+1,g,h=>
  bif (decide (g<(f.length:Int)))then(bnd (Xb f g) λe=>
   bnd (Qau N l.1 e.a) λo=>
   bif (!o.2)then some (.ret ([],false))
   else bif (decide (e.M<1))then some (.ret ([],false))
   else bif (decide (e.M>1000))then some (.ret ([],false))
   else bnd (QeJ N f e.a) λp=>
   bif (p != g)then some (.ret ([],false))
   else bnd (Qcc N k.c e.a) λj=>
   bnd (Xb h j.1) λq=>
   bnd (Xb h j.1) λr=>
   Qcq N f k l n (wI (g+1)) (h.set j.1.toNat (wI (q+e.M))))
  else some (.nxt h)
def QgW(N:Nat)(h:List Ux)(f:Wm):Option (List Int×Bool):=bnd (QdU N f) λj=>grd (0<=(f.p.length:Int)/\(f.p.length:Int).toNat*8<=140737488355328) <| bnd (Qcq N h f j N 0 (List.replicate (f.p.length:Int).toNat (0:Int))) λe=>exK e (λr=>some r) λg=>some (g,true)
def Qfl(N:Nat)(f:Wm)(g:List Int×Bool):Nat->Int->Option (Ex Bool Unit)
 |0,_=>none
 |n+1,e=>
  bif (decide (e<(f.p.length:Int)))then(bnd (Xb f.p e) λh=>
   bnd (Xb g.1 e) λj=>
   bif (h.P != j)then some (.ret false)
   else Qfl N f g n (wI (e+1)))
  else some (.nxt ())
def Qg5(N:Nat)(f:Wm)(g:List Ux):Option Bool:=bnd (QfO N f) λj=>bif (!j)then some false else bif (decide ((g.length:Int)>64))then some false else bnd (QgW N g f) λh=>bif (!h.2)then some false else bnd (Qfl N f h N 0) λe=>exK e (λr=>some r) λk=>some true
def Qa8(N:Nat)(f:Oc):Nat->Int->Int->Option (Ex Bool Unit)
 |0,_,_=>none
 |n+1,h,g=>
  bif (decide (g<(f.l.x.length:Int)))then(bnd (Xb f.l.x g) λe=>
   bif (g==0)then(bif (e.O != 0)then some (.ret false)
    else bif (!e.B0)then some (.ret false)
    else bif (decide (e.O<h))then some (.ret false)
    else bif (decide (e.O>(f.l.S.length:Int)))then some (.ret false)
    else bif (decide (e.C0<0))then some (.ret false)
    else bif (decide (e.C0>64))then some (.ret false)
    else Qa8 N f n e.O (wI (g+1)))
   else bif (decide (e.O<h))then some (.ret false)
   else bif (decide (e.O>(f.l.S.length:Int)))then some (.ret false)
   else bif (decide (e.C0<0))then some (.ret false)
   else bif (decide (e.C0>64))then some (.ret false)
   else Qa8 N f n e.O (wI (g+1)))
  else some (.nxt ())
def Qd6(N:Nat)(f:Oc):Option Bool:=jn (λ(_:Unit)=>bnd (Qa8 N f N 0 0) λe=>exK e (λr=>some r) λh=>some true) λg=>bif (decide ((f.l.x.length:Int)>64))then some false else bif ((f.l.x.length:Int)==0)then(bif (decide ((f.l.S.length:Int)>0))then some false else g ())else g ()
def Qbl(N:Nat)(f:Oc):Nat->Int->Int->Option (Ex Bool Unit)
 |0,_,_=>none
 |n+1,h,g=>
  bif (decide (g<(f.l.S.length:Int)))then(bnd (Xb f.l.S g) λe=>
   bif (decide (e.J<=h))then some (.ret false)
   else bif (decide (e.J>(f.l.i.length:Int)))then some (.ret false)
   else bnd (Xb f.l.i (wI (e.J-1))) λj=>
   bif (j != g)then some (.ret false)
   else bif (e.V==(e.a==0))then some (.ret false)
   else Qbl N f n e.J (wI (g+1)))
  else some (.nxt ())
def QdV(N:Nat)(f:Oc):Option Bool:=bnd (Qbl N f N 0 0) λe=>exK e (λr=>some r) λg=>some true
def Qex(N:Nat)(e:Oc)(f:Int):Option (List UE):=bif (decide ((wI (f+1))<(e.l.x.length:Int)))then(bnd (Xb e.l.x f) λg=>bnd (Xb e.l.x (wI (f+1))) λh=>grd (0<=g.O/\g.O<=h.O/\h.O<=(e.l.S.length:Int)) <| some ((e.l.S.drop g.O.toNat).take (h.O.toNat-g.O.toNat)))else bnd (Xb e.l.x f) λj=>grd (0<=j.O/\j.O<=(e.l.S.length:Int)/\(e.l.S.length:Int)<=(e.l.S.length:Int)) <| some (e.l.S.drop j.O.toNat)
def QbZ(N:Nat)(e:List UE):Nat->Int->Int->Option Int
 |0,_,_=>none
 |n+1,g,f=>
  bif (decide (f<(e.length:Int)))then(bnd (Xb e f) λh=>
   bif h.V then QbZ N e n (wI (g+1)) (wI (f+1))
   else QbZ N e n g (wI (f+1)))
  else some g
def QdZ(N:Nat)(e:Oc)(f:Int):Option Int:=bnd (Qex N e f) λg=>bnd (QbZ N g N 0 0) λh=>some h
def QgF(N:Nat)(e:Int):Option Bool:=bif (decide (e<0))then some true else some (decide (e>=4096))
def QaP(N:Nat)(f:List Int):Nat->Int->Option (Ex Int Unit)
 |0,_=>none
 |n+1,e=>
  bif (decide (e<(f.length:Int)))then(bnd (Xb f e) λg=>
   bnd (QgF N g) λh=>
   bif h then some (.ret e)
   else QaP N f n (wI (e+1)))
  else some (.nxt ())
def Qb4(N:Nat)(f:List Int):Option Int:=bnd (QaP N f N 0) λe=>exK e (λr=>some r) λg=>some (-1)
def QbE(N:Nat)(e:List Int):Option Bool:=bnd (Qb4 N e) λf=>some (decide (f>=0))
def Qeh(N:Nat)(e:Wo):Nat->Int->Option (Ex Bool Unit)
 |0,_=>none
 |n+1,f=>
  bif (decide (f<(e.x.length:Int)))then(bnd (Xb e.x f) λg=>
   bnd (QdZ N (Oc.mk e) f) λh=>
   bif (decide (h>g.C0))then some (.ret false)
   else Qeh N e n (wI (f+1)))
  else some (.nxt ())
def Qdb(N:Nat)(f:Wo):Option Bool:=bif (decide ((f.i.length:Int)>4096))then some false else bnd (QbE N f.i) λg=>bif g then some false else bnd (Qd6 N (Oc.mk f)) λh=>bif (!h)then some false else bnd (QdV N (Oc.mk f)) λj=>bif (!j)then some false else bnd (Qeh N f N 0) λe=>exK e (λr=>some r) λk=>some true
def QgG(N:Nat)(e:WT):Option Bool:=bif (decide (e.G<1))then some true else bif (decide (e.G>4294967295))then some true else bif (!e.V)then some (e.a != 0)else some false
def Qal(N:Nat)(f:List WT):Nat->Int->Option (Ex Int Unit)
 |0,_=>none
 |n+1,e=>
  bif (decide (e<(f.length:Int)))then(bnd (Xb f e) λg=>
   bnd (QgG N g) λh=>
   bif h then some (.ret e)
   else Qal N f n (wI (e+1)))
  else some (.nxt ())
def QaW(N:Nat)(f:List WT):Option Int:=bnd (Qal N f N 0) λe=>exK e (λr=>some r) λg=>some (-1)
def QaQ(N:Nat)(e:List WT):Option Bool:=bnd (QaW N e) λf=>some (decide (f>=0))
def QdM(N:Nat)(f:Ws):Option Bool:=bif (decide ((f.e.length:Int)<=64))then(bnd (QaQ N f.e) λg=>some (!g))else some false
def QaI(N:Nat)(f:List Int)(g:Int):Nat->Int->Option (Ex Int Unit)
 |0,_=>none
 |n+1,e=>
  bif (decide (e<(f.length:Int)))then(bnd (Xb f e) λh=>
   bif (g==h)then some (.ret e)
   else QaI N f g n (wI (e+1)))
  else some (.nxt ())
def Qb3(N:Nat)(f:List Int)(g:Int):Option Int:=bnd (QaI N f g N 0) λe=>exK e (λr=>some r) λh=>some (-1)
def Qai(N:Nat)(e:List Int)(f:Int):Option Bool:=bnd (Qb3 N e f) λg=>some (decide (g>=0))
def QeK(N:Nat)(f:Ws):Nat->Int->(List Int)->Option (List Int)
 |0,_,_=>none
 |n+1,g,h=>
  bif (decide (g<(f.e.length:Int)))then(bnd (Xb f.e g) λj=>
   bif j.V then(grd ((h.length+1)*8<=140737488355328) <|
    QeK N f n (wI (g+1)) (h++[j.a]))
   else QeK N f n (wI (g+1)) h)
  else some h
def Qep(N:Nat)(e:Ws):Option (List Int):=bnd (QdM N e) λf=>bif (!f)then some []else bnd (QeK N e N 0 []) λg=>some g
def Qfm(N:Nat)(e:Int)(f:List Int):Option Bool:=bnd (Qau N f e) λg=>bif (e != 0)then some (!g.2)else some false
def Qaz(N:Nat)(f g:List Int):Nat->Int->Option (Ex Int Unit)
 |0,_=>none
 |n+1,e=>
  bif (decide (e<(f.length:Int)))then(bnd (Xb f e) λh=>
   bnd (Qfm N h g) λj=>
   bif j then some (.ret e)
   else Qaz N f g n (wI (e+1)))
  else some (.nxt ())
def Qbj(N:Nat)(f g:List Int):Option Int:=bnd (Qaz N f g N 0) λe=>exK e (λr=>some r) λh=>some (-1)
def Qa5(N:Nat)(e f:List Int):Option Bool:=bnd (Qbj N e f) λg=>some (decide (g>=0))
def Qey(N:Nat)(e:Wm)(f:List Int):Option Bool:=bnd (QfO N e) λg=>bif (!g)then some false else bnd (QdU N e) λh=>bnd (Qa5 N f h.1) λj=>some (!j)
def QbC(N:Nat)(e:Int):Option (List Int):=bif (decide (e<0))then none else bif (decide ((wI (e-(wI 0)))>0))then(grd (0=0/\0=0) <| grd (0<=(wI (e-(wI 0)))/\(wI (e-(wI 0))).toNat*8<=140737488355328) <| grd ((wI (e-(wI 0))).toNat*8<=140737488355328) <| grd (0<=0/\0<=0/\0<=(((wI (e-(wI 0))).toNat:Nat):Int)) <| some ((List.replicate (wI (e-(wI 0))).toNat (0:Int)).take 0))else some []
def QaZ(N:Nat)(e:List (List Int)):Nat->Int->Int->Option Int
 |0,_,_=>none
 |n+1,f,g=>
  bif (decide (g<(e.length:Int)))then(bnd (Xb e g) λh=>
   bif (decide ((wI (f+(h.length:Int)))<0))then none
   else QaZ N e n (wI (f+(h.length:Int))) (wI (g+1)))
  else some f
def Qa0(N:Nat)(e:List (List Int)):Nat->Int->(List Int)->Option (List Int)
 |0,_,_=>none
 |n+1,f,g=>
  bif (decide (f<(e.length:Int)))then(bnd (Xb e f) λh=>
   grd ((g.length+h.length)*8<=140737488355328) <|
   Qa0 N e n (wI (f+1)) (g++h))
  else some g
def QaV(N:Nat)(e:List (List Int)):Option (List Int):=bnd (QaZ N e N 0 0) λf=>bnd (QbC N f) λg=>bnd (Qa0 N e N 0 g) λh=>some h
def Qhk(N:Nat)(e:List (List Int)):Option (List Int):=bnd (QaV N e) λf=>some f
def QeL(N:Nat)(e:Wo):Nat->Int->(List Int)->Option (List Int)
 |0,_,_=>none
 |n+1,f,g=>
  bif (decide (f<(e.S.length:Int)))then(bnd (Xb e.S f) λh=>
   bif h.V then(grd ((g.length+1)*8<=140737488355328) <|
    QeL N e n (wI (f+1)) (g++[h.a]))
   else QeL N e n (wI (f+1)) g)
  else some g
def Qgw(N:Nat)(e:Wo):Option (List Int):=bnd (Qdb N e) λf=>bif (!f)then some []else bnd (QeL N e N 0 []) λg=>some g
def Qfz(N:Nat)(e:WJ):Nat->Int->(List Int)->Option (List Int)
 |0,_,_=>none
 |n+1,f,g=>
  bif (decide (f<(e.P.length:Int)))then(bnd (Xb e.P f) λh=>
   grd ((g.length+1)*8<=140737488355328) <|
   Qfz N e n (wI (f+1)) (g++[h.a]))
  else some g
def QiB(N:Nat)(e:WJ):Option (List Int):=bnd (Qfz N e N 0 []) λf=>some f
def Qhl(N:Nat)(e:WJ):Option (List Int):=bnd (Qgw N e.l) λf=>bnd (Qep N e.g) λh=>bnd (QiB N e) λj=>bnd (Qhk N [e.R,f,h,j]) λk=>some k
def QaJ(N:Nat)(e:WJ):Option Bool:=bnd (Qg5 N e.h e.P) λj=>bif (!j)then some false else bnd (Qdb N e.l) λk=>bif (!k)then some false else bnd (QdM N e.g) λo=>bif (!o)then some false else bnd (QdM N e.v) λp=>bif (!p)then some false else bnd (Qep N e.g) λq=>bnd (Qai N q 0) λr=>bif r then some false else bnd (Qhl N e) λs=>bnd (Qep N e.v) λu=>bnd (Qhk N [s,u]) λw=>bnd (Qey N e.h w) λf=>some f
def Qab(N:Nat)(e:List Wv):Option (List Wv):=some e
def QgQ(N:Nat)(e:Wm):Option Wm:=bnd (Qad N e.w) λf=>bnd (Qab N e.p) λg=>some (Wm.mk e.c f g e.s e.b)
def Qas(N:Nat)(e:List UE):Option (List UE):=some e
def Qao(N:Nat)(e:List UJ):Option (List UJ):=some e
def QaF(N:Nat)(e:List Int):Option (List Int):=some e
def QfA(N:Nat)(e:Wo):Option Wo:=bnd (Qas N e.S) λf=>bnd (Qao N e.x) λg=>bnd (QaF N e.i) λh=>some (Wo.mk f g h)
def Qap(N:Nat)(e:List WT):Option (List WT):=some e
def Qfn(N:Nat)(f:Ws):Option Ws:=bnd (Qap N f.e) λg=>some (Ws.mk g)
def Qar(N:Nat)(e:List Ux):Option (List Ux):=some e
def Qat(N:Nat)(e:WJ):Option WJ:=bnd (QgQ N e.h) λf=>bnd (QfA N e.l) λj=>bnd (Qfn N e.g) λk=>bnd (Qfn N e.v) λo=>bnd (Qar N e.P) λp=>bnd (Qad N e.R) λq=>some (WJ.mk f j k o p q)
def Qfo(N:Nat)(e:WJ)(f h j k:Int):Option (WJ×Int×Int):=bnd (QaJ N e) λg=>bif (!g)then some ((WJ.mk zHp (Wo.mk [] [] []) (Ws.mk []) (Ws.mk []) [] []),0,19)else bif (decide (f<1))then some ((WJ.mk zHp (Wo.mk [] [] []) (Ws.mk []) (Ws.mk []) [] []),0,1)else bif (decide (f>20))then some ((WJ.mk zHp (Wo.mk [] [] []) (Ws.mk []) (Ws.mk []) [] []),0,1)else bnd (Qat N e) λl=>none
def QdN(N:Nat)(e:Wo):Option Wo:=bnd (Qas N e.S) λf=>bnd (Qao N e.x) λg=>bnd (QaF N e.i) λh=>some (Wo.mk f g h)
def QcX(N:Nat)(f:Wo)(g:Int):Option (Wo×Int×Int×Int):=bnd (Qdb N f) λh=>bif (!h)then some ((Wo.mk [] [] []),0,0,1)else bif (g==0)then some ((Wo.mk [] [] []),0,0,1)else bif (decide ((wI ((f.x.length:Int)-1))<0))then some ((Wo.mk [] [] []),0,0,9)else bnd (QdZ N (Oc.mk f) (wI ((f.x.length:Int)-1))) λj=>bnd (Xb f.x (wI ((f.x.length:Int)-1))) λk=>bif (decide (j>=k.C0))then some ((Wo.mk [] [] []),0,0,10)else bif (decide ((f.i.length:Int)>=4096))then some ((Wo.mk [] [] []),0,0,18)else bnd (QdN N f) λe=>grd (e.S.length<=140737488355328) <| grd (e.i.length<=140737488355328) <| grd ((e.S.length+1)*24<=140737488355328) <| grd ((e.i.length+1)*8<=140737488355328) <| some ((Wo.mk (e.S++[(UE.mk (wI ((e.i.length:Int)+1)) g true)]) e.x (e.i++[(e.S.length:Int)])),(e.S.length:Int),(wI ((e.i.length:Int)+1)),0)
def Qe2(N:Nat)(f:WW)(e:WC):Option Bool:=bnd (QdS N e) λg=>bif g then(bif (e.k != 0)then(bnd (QbA N e) λh=>bnd (QfM N f h) λj=>some (decide (j>=0)))else some false)else some false
def Qd2(N:Nat)(e:List Wv):Nat->Int->Int->Option Int
 |0,_,_=>none
 |n+1,g,f=>
  bif (decide (f<(e.length:Int)))then(bnd (Xb e f) λh=>
   bif (h.k != 0)then Qd2 N e n (wI (g+1)) (wI (f+1))
   else Qd2 N e n g (wI (f+1)))
  else some g
def Qhm(N:Nat)(e:List Wv):Option Int:=bnd (Qd2 N e N 0 0) λf=>some f
def QhP(N:Nat)(h:List Wv)(e:Int)(f:List Wv):Option (List Wv×Int):=bif (decide (e<0))then some ([],2)else bif (decide (e>(wI ((h.length:Int)-(f.length:Int)))))then some ([],2)else grd (0<=e/\e<=(wI (e+(f.length:Int)))/\(wI (e+(f.length:Int)))<=(h.length:Int)) <| bnd (Qhm N ((h.drop e.toNat).take ((wI (e+(f.length:Int))).toNat-e.toNat))) λj=>bif (decide (j>0))then some ([],20)else bnd (Qab N h) λg=>grd (0<=e/\e<=(g.length:Int)/\(g.length:Int)<=(g.length:Int)) <| grd (f.length<=(g.length-e.toNat)) <| some ((((g.take e.toNat)++f)++(g.drop (e.toNat+f.length))),0)
def Qeq(N:Nat)(g:List Wv)(h e:Int):Option (List Wv×Int):=bnd (Qci N (Wv.mk 1 e 0 0)) λj=>bif (!j)then some ([],1)else bnd (QhP N g h [(Wv.mk 1 e 0 0)]) λf=>some (f.1,f.2)
def QfB(N:Nat)(h:List Wv)(j f g:Int):Nat->(List Wv)->Option (List Wv)
 |0,_=>none
 |n+1,e=>
  grd (e.length<=140737488355328) <|
  bif (decide ((e.length:Int)<g))then(grd ((e.length+1)*32<=140737488355328) <|
   QfB N h j f g n (e++[(Wv.mk 3 f 0 0)]))
  else some e
def Qh3(N:Nat)(l:WW)(g:List Wv)(h e f:Int):Option (List Wv×Int):=bnd (QfM N l f) λj=>bif (decide (j<1))then some ([],1)else bnd (Qci N (Wv.mk 2 e f 0)) λo=>bif (!o)then some ([],1)else bnd (QfB N g h e j N [(Wv.mk 2 e f 0)]) λp=>bnd (QhP N g h p) λk=>some (k.1,k.2)
def QiC(N:Nat)(e:WW):Option Int:=bnd (QcD N e) λf=>bif (!f)then some 0 else some (wI (e.p.tdiv 4))
def Qdc(N:Nat)(g:List Wv):Nat->Int->(List Oq)->Option (List Oq)
 |0,_,_=>none
 |n+1,f,e=>
  bif (decide (f<(g.length:Int)))then(bnd (Xb g f) λj=>
   grd (e.length<=140737488355328) <|
   bif (j.k != 0)then Qdc N g n (wI (f+1)) e
   else jn (λ(_:Unit)=>
    grd ((e.length+1)*16<=140737488355328) <|
    Qdc N g n (wI (f+1)) (e++[(Oq.mk f 1)])) λh=>
   bif (decide ((wI ((e.length:Int)-1))>=0))then(bnd (Xb e (wI ((e.length:Int)-1))) λl=>
    bnd (Xb e (wI ((e.length:Int)-1))) λo=>
    bif ((wI (l.O+o.Len))==f)then(bnd (Xb e (wI ((e.length:Int)-1))) λp=>
     bnd (Xb e (wI ((e.length:Int)-1))) λq=>
     Qdc N g n (wI (f+1)) (e.set (wI ((e.length:Int)-1)).toNat (Oq.mk q.O (wI (p.Len+1)))))
    else h ())
   else h ())
  else some e
def Qis(N:Nat)(e:List Wv):Option (List Oq):=bnd (Qdc N e N 0 []) λf=>some f
def QeM(N:Nat)(g:Int)(e:List Oq):Nat->Int->Option (Ex Int Unit)
 |0,_=>none
 |n+1,f=>
  bif (decide (f<(e.length:Int)))then(bnd (Xb e f) λh=>
   bif (decide (h.Len>=g))then some (.ret h.O)
   else QeM N g e n (wI (f+1)))
  else some (.nxt ())
def Qer(N:Nat)(g:List Wv)(f:Int):Option Int:=bif (decide (f<1))then some (-1)else bnd (Qis N g) λh=>bnd (QeM N f h N 0) λe=>exK e (λr=>some r) λj=>some (-1)
def Qff(N:Nat)(e:Wm)(l:Int):Option (Wm×I5×Int):=bnd (Qhm N e.p) λo=>bnd (QiC N e.c) λq=>bnd (QfM N e.c l) λr=>bif (decide (r>0))then(bnd (Qer N e.p r) λv=>jn (λ(_:Unit)=>some (zHp,(I5.mk 0 0),3)) λB=>bif (decide (v>=0))then(bif (decide (o<=(wI (q-r))))then(bnd (Qh3 N e.c e.p v e.s l) λD=>some ((Wm.mk e.c e.w D.1 e.s e.b),(I5.mk v 0),D.2))else B ())else B ())else jn (λ(_:Unit)=>bnd (Qer N e.p 1) λj=>jn (λ(_:Unit)=>some (zHp,(I5.mk 0 0),3)) λE=>bif (decide (j>=0))then(bif (decide (o<q))then(bnd (Qeq N e.p j e.s) λf=>bif (f.2 != 0)then some (zHp,(I5.mk 0 0),f.2)else bnd (Xb f.1 j) λg=>some ((Wm.mk e.c e.w (f.1.set j.toNat (Wv.mk g.k g.s l g.P)) e.s j),(I5.mk j 0),0))else E ())else E ()) λy=>bif (decide (e.b>=0))then(bif (decide (o<=q))then(bnd (Xb e.p e.b) λz=>jn (λ(_:Unit)=>y ()) λG=>bif (z.s==e.s)then(bif (decide (l<=(wI (e.c.W-z.u))))then(bnd (Qab N e.p) λA=>bnd (Xb A e.b) λH=>bnd (Xb A e.b) λh=>some ((Wm.mk e.c e.w (A.set e.b.toNat (Wv.mk h.k h.s (wI (H.u+l)) h.P)) e.s e.b),(I5.mk e.b z.u),0))else G ())else G ())else y ())else y ()
def Qfg(N:Nat)(e:Wm)(g:List Int)(f:Int):Option (Wm×Int):=bif (f != 0)then some (zHp,f)else bnd (Qab N e.p) λh=>some ((Wm.mk e.c g h e.s e.b),0)
def QgR(N:Nat)(h:List Int)(j:Int)(g:List Int):Option (List Int×Int):=bnd (QfW N h j (g.length:Int)) λe=>bif (!e.2)then some ([],2)else bnd (Qad N h) λf=>grd (0<=e.1/\e.1<=(f.length:Int)/\(f.length:Int)<=(f.length:Int)) <| grd (g.length<=(f.length-e.1.toNat)) <| some ((((f.take e.1.toNat)++g)++(f.drop (e.1.toNat+g.length))),0)
def Qcj(N:Nat)(e f:Int):Option Bool:=bnd (Qa4 N f) λg=>some ((XaW .u64 e g)==0)
def Qbi(N:Nat)(e:List UF):Nat->Int->Int->Option (Ex (Int×Int) Unit)
 |0,_,_=>none
 |n+1,h,f=>
  bif (decide (f<(e.length:Int)))then(bnd (Xb e f) λg=>
   bif (decide (g.Width<1))then some (.ret (0,1))
   else bif (decide (g.Width>h))then some (.ret (0,1))
   else Qbi N e n (wI (h-g.Width)) (wI (f+1)))
  else some (.nxt ())
def QaO(N:Nat)(f:List UF):Nat->Int->Int->Int->Option (Ex (Int×Int) Int)
 |0,_,_,_=>none
 |n+1,j,g,h=>
  bif (decide (h<(f.length:Int)))then(bnd (Xb f h) λe=>
   bnd (Qcj N e.Value e.Width) λk=>
   bif (!k)then some (.ret (0,2))
   else grd (0<=g) <|
   QaO N f n (bOr .u64 j (ZN .u64 e.Value g)) (wI (g+e.Width)) (wI (h+1)))
  else some (.nxt j)
def QfP(N:Nat)(g:List UF):Option (Int×Int):=bnd (Qbi N g N 64 0) λe=>exK e (λr=>some r) λh=>bnd (QaO N g N 0 0 0) λe=>exK e (λr=>some r) λf=>some (f,0)
def QgH(N:Nat)(e:WC):Option (Int×Int):=bnd (QdS N e) λg=>bif (!g)then some (0,1)else bnd (QfP N [(UF.mk 2 1),(UF.mk 2 (wU e.k)),(UF.mk 12 (wU e.n)),(UF.mk 32 (wU e.Map))]) λf=>some (f.1,f.2)
def QfX(N:Nat)(f:Wm)(l:Int)(g:WC):Option (Wm×Int):=bnd (QgH N g) λh=>bif (h.2 != 0)then some (zHp,1)else bnd (QbS N f) λo=>bif (!o)then some (zHp,1)else bnd (QbA N g) λe=>grd (0<=e/\e.toNat*8<=140737488355328) <| bnd (Xb (List.replicate e.toNat (0:Int)) 0) λp=>bnd (QgR N f.w l ((List.replicate e.toNat (0:Int)).set 0 h.1)) λj=>bnd (Qfg N f j.1 j.2) λk=>some (k.1,k.2)
def Qfa(N:Nat)(f:Wm)(h:WC):Option (Wm×Int×Int):=bnd (QbS N f) λk=>bif (!k)then some (zHp,0,1)else bnd (Qe2 N f.c h) λl=>bif (!l)then some (zHp,0,1)else bnd (QbA N h) λo=>bnd (Qff N f o) λe=>bif (e.2.2 != 0)then some (zHp,0,e.2.2)else bnd (QdT N f.c e.2.1.page e.2.1.offset) λg=>bif (g.2 != 0)then some (zHp,0,g.2)else bnd (QfX N e.1 g.1 h) λj=>bif (j.2 != 0)then some (zHp,0,j.2)else some (j.1,g.1,0)
def Qck(N:Nat)(g:Wm)(j:List Int×Int)(l:List Int)(h:List Wv):Nat->Int->(List Wv)->Option (List Wv)
 |0,_,_=>none
 |n+1,e,f=>
  bif (decide (e<(h.length:Int)))then(bnd (Xb f e) λp=>
   bif (p.k==1)then(bif (decide (p.P>0))then(bnd (Xb f e) λo=>
       Qck N g j l h n (wI (e+1)) (f.set e.toNat (Wv.mk o.k (wI (1-g.s)) o.u o.P)))
    else Qck N g j l h n (wI (e+1)) f)
   else Qck N g j l h n (wI (e+1)) f)
  else some f
def Qfh(N:Nat)(e:Wm):Option (WE×Int):=bnd (QbS N e) λk=>bif (!k)then some ((WE.mk zHp [] [] [] 0 (WQ.mk 0 0 0 0 0 0)),1)else bnd (QfO N e) λl=>bif (!l)then some ((WE.mk zHp [] [] [] 0 (WQ.mk 0 0 0 0 0 0)),19)else bnd (QdU N e) λf=>bif (f.2 != 0)then some ((WE.mk zHp [] [] [] 0 (WQ.mk 0 0 0 0 0 0)),f.2)else bnd (Qad N e.w) λj=>bnd (Qab N e.p) λg=>grd (g.length<=140737488355328) <| bnd (Qck N e f j g N 0 g) λh=>some ((WE.mk (Wm.mk e.c j h e.s e.b) f.1 [] [] 0 (WQ.mk 0 0 0 0 0 0)),0)
def QfC(N:Nat)(f:Int):Option (Int×Bool):=bnd (QdL N f [2,32]) λe=>bif (e.2 != 0)then some (0,false)else bnd (Xb e.1 0) λg=>bif (g != 2)then some (0,false)else bnd (Xb e.1 1) λh=>some (h,true)
def QbV(N:Nat)(f:List Int)(g:Int):Nat->Int->Option (Ex Int Unit)
 |0,_=>none
 |n+1,e=>
  bif (decide (e<(f.length:Int)))then(bnd (Xb f e) λh=>
   bif (g==h)then some (.ret e)
   else QbV N f g n (wI (e+1)))
  else some (.nxt ())
def Qe3(N:Nat)(f:List Int)(g:Int):Option Int:=bnd (QbV N f g N 0) λe=>exK e (λr=>some r) λh=>some (-1)
def Qbm(N:Nat)(e:List Int)(f:Int):Option Bool:=bnd (Qe3 N e f) λg=>some (decide (g>=0))
def QdF(N:Nat)(e:WE)(f:Int):Option Bool:=jn (λ(o:Bool)=>some o) λg=>bif (decide (f<0))then g false else grd (e.h.p.length<=140737488355328) <| bif (decide (f>=(e.h.p.length:Int)))then g false else bnd (Xb e.h.p f) λl=>jn (λ(q:Bool)=>g q) λj=>bif (l.k==1)then(bif (l.s==(wI (1-e.h.s)))then(bnd (Qbm N e.t f) λr=>j (!r))else j false)else j false
def QcJ(N:Nat)(e:WE)(v:Int):Option (Int×Int×Int×List Wv×List Int):=jn (λ(w y z:Int) (j:List Wv) (k:List Int)=>some (w,y,z,j,k)) λl=>grd (e.t.length<=140737488355328) <| jn (λ(_:Unit)=>bnd (Qer N e.h.p 1) λf=>bif (decide (f<0))then l 0 0 3 e.h.p e.t else bnd (Qeq N e.h.p f (wI (1-e.h.s))) λo=>bif (o.2 != 0)then none else grd ((e.t.length+1)*8<=140737488355328) <| l f 0 0 o.1 (e.t++[f])) λg=>bif (decide ((e.t.length:Int)>0))then(bnd (Xb e.t (wI ((e.t.length:Int)-1))) λA=>bif (decide (A>=0))then(bnd (Xb e.t (wI ((e.t.length:Int)-1))) λB=>grd (e.h.p.length<=140737488355328) <| bif (decide (B<(e.h.p.length:Int)))then(bnd (Xb e.t (wI ((e.t.length:Int)-1))) λq=>bnd (Xb e.h.p q) λr=>bif (decide (v<=(wI (e.h.c.W-r.u))))then l q r.u 0 e.h.p e.t else g ())else g ())else g ())else g ()
def Qce(N:Nat)(e:Int):Option (Int×Int):=bnd (Qa4 N 32) λg=>bif (decide (e>g))then some (0,1)else bnd (QfP N [(UF.mk 2 2),(UF.mk 32 e)]) λf=>some (f.1,f.2)
def QbW(N:Nat)(l:WE)(o:Int):Nat->Int->(List Wv)->Option (List Wv)
 |0,_,_=>none
 |n+1,f,e=>
  grd (e.length<=140737488355328) <|
  bif (decide (f<(e.length:Int)))then(bnd (Xb e f) λj=>
   bif (j.k==3)then(bnd (Xb e f) λg=>
    QbW N l o n (wI (f+1)) (e.set f.toNat (Wv.mk g.k (wI (1-l.h.s)) g.u g.P)))
   else some e)
  else some e
def Qa6(N:Nat)(e:WE)(G:Int):Option (Int×Int×WE):=jn (λ(R S T U:Int) (V:List Int) (Y:List Wv) (Z x47:List Int)=>some (R,S,(WE.mk (Wm.mk e.h.c V Y e.h.s e.h.b) e.o Z x47 e.d (WQ.mk T U e.r.F e.r.E e.r.f e.r.y)))) λD=>bif (G==0)then D G 0 e.r.j e.r.K e.h.w e.h.p e.t e.q else bnd (Qai N e.q G) λy1=>bif y1 then D G 0 e.r.j e.r.K e.h.w e.h.p e.t e.q else bnd (Qai N e.o G) λy2=>bif (!y2)then D 0 19 e.r.j e.r.K e.h.w e.h.p e.t e.q else bnd (Qcc N e.h.c G) λA=>bif (A.2.2 != 0)then D 0 19 e.r.j e.r.K e.h.w e.h.p e.t e.q else grd (e.h.w.length<=140737488355328) <| bif (decide (1>(wI ((e.h.w.length:Int)-(wI ((wI (A.1*e.h.c.W))+A.2.1))))))then D 0 19 e.r.j e.r.K e.h.w e.h.p e.t e.q else grd (0<=(wI ((wI (A.1*e.h.c.W))+A.2.1))/\(wI ((wI (A.1*e.h.c.W))+A.2.1))<=(wI ((wI ((wI (A.1*e.h.c.W))+A.2.1))+1))/\(wI ((wI ((wI (A.1*e.h.c.W))+A.2.1))+1))<=(e.h.w.length:Int)) <| bnd (KM e.h.w ((wI ((wI (A.1*e.h.c.W))+A.2.1)).toNat) ((wI ((wI ((wI (A.1*e.h.c.W))+A.2.1))+1)).toNat-(wI ((wI (A.1*e.h.c.W))+A.2.1)).toNat) 0) λp6=>bnd (QfC N p6) λy7=>bif y7.2 then D y7.1 0 e.r.j e.r.K e.h.w e.h.p e.t e.q else bnd (Qcc N e.h.c G) λL=>grd (e.h.p.length<=140737488355328) <| bif (decide (L.1>=(e.h.p.length:Int)))then D 0 19 e.r.j e.r.K e.h.w e.h.p e.t e.q else bnd (QdF N e L.1) λy9=>bif y9 then(grd ((e.q.length+1)*8<=140737488355328) <| D G 0 e.r.j (wI (e.r.K+1)) e.h.w e.h.p e.t (e.q++[G]))else bnd (Xb e.h.p L.1) λp10=>bif (p10.k==2)then(bnd (Xb e.h.p L.1) λI=>bnd (QbW N e G N (wI (L.1+1)) (e.h.p.set L.1.toNat (Wv.mk I.k (wI (1-e.h.s)) I.u I.P))) λy16=>grd ((e.q.length+1)*8<=140737488355328) <| D G 0 e.r.j (wI (e.r.K+1)) e.h.w y16 e.t (e.q++[G]))else bnd (KM e.h.w ((wI ((wI (A.1*e.h.c.W))+A.2.1)).toNat) ((wI ((wI ((wI (A.1*e.h.c.W))+A.2.1))+1)).toNat-(wI ((wI (A.1*e.h.c.W))+A.2.1)).toNat) 0) λp17=>bnd (QeH N p17) λH=>bnd (QbA N H.1) λv=>bnd (Qcc N e.h.c G) λg=>bif (g.2.2 != 0)then(bif (!H.2)then D 0 19 e.r.j e.r.K e.h.w e.h.p e.t e.q else D 0 19 e.r.j e.r.K e.h.w e.h.p e.t e.q)else grd (e.h.w.length<=140737488355328) <| bif (decide (v>(wI ((e.h.w.length:Int)-(wI ((wI (g.1*e.h.c.W))+g.2.1))))))then(bif (!H.2)then D 0 19 e.r.j e.r.K e.h.w e.h.p e.t e.q else D 0 19 e.r.j e.r.K e.h.w e.h.p e.t e.q)else grd (0<=(wI ((wI (g.1*e.h.c.W))+g.2.1))/\(wI ((wI (g.1*e.h.c.W))+g.2.1))<=(wI ((wI ((wI (g.1*e.h.c.W))+g.2.1))+v))/\(wI ((wI ((wI (g.1*e.h.c.W))+g.2.1))+v))<=(e.h.w.length:Int)) <| bif (!H.2)then D 0 19 e.r.j e.r.K e.h.w e.h.p e.t e.q else grd (((wI ((wI ((wI (g.1*e.h.c.W))+g.2.1))+v)).toNat-(wI ((wI (g.1*e.h.c.W))+g.2.1)).toNat)<=140737488355328) <| bnd (QcJ N e ((((wI ((wI ((wI (g.1*e.h.c.W))+g.2.1))+v)).toNat-(wI ((wI (g.1*e.h.c.W))+g.2.1)).toNat):Nat):Int)) λz=>bif (z.2.2.1 != 0)then D 0 z.2.2.1 e.r.j e.r.K e.h.w z.2.2.2.1 z.2.2.2.2 e.q else jn (λ(x34 x35 x36:Int) (x37:List Int) (x38:List Wv) (x39:List Int)=>D x34 x35 x36 e.r.K x37 x38 z.2.2.2.2 x39) λM=>bnd (QdT N e.h.c z.1 z.2.1) λB=>bif (B.2 != 0)then M 0 B.2 e.r.j e.h.w z.2.2.2.1 e.q else grd (((wI ((wI ((wI (g.1*e.h.c.W))+g.2.1))+v)).toNat-(wI ((wI (g.1*e.h.c.W))+g.2.1)).toNat)<=140737488355328) <| bnd (Qcc N e.h.c B.1) λl=>bif (l.2.2 != 0)then(bnd (Qce N B.1) λy28=>M 0 19 e.r.j e.h.w z.2.2.2.1 e.q)else grd (e.h.w.length<=140737488355328) <| bif (decide (((((wI ((wI ((wI (g.1*e.h.c.W))+g.2.1))+v)).toNat-(wI ((wI (g.1*e.h.c.W))+g.2.1)).toNat):Nat):Int)>(wI ((e.h.w.length:Int)-(wI ((wI (l.1*e.h.c.W))+l.2.1))))))then(bnd (Qce N B.1) λy29=>M 0 19 e.r.j e.h.w z.2.2.2.1 e.q)else grd (0<=(wI ((wI (l.1*e.h.c.W))+l.2.1))/\(wI ((wI (l.1*e.h.c.W))+l.2.1))<=(wI ((wI ((wI (l.1*e.h.c.W))+l.2.1))+((((wI ((wI ((wI (g.1*e.h.c.W))+g.2.1))+v)).toNat-(wI ((wI (g.1*e.h.c.W))+g.2.1)).toNat):Nat):Int)))/\(wI ((wI ((wI (l.1*e.h.c.W))+l.2.1))+((((wI ((wI ((wI (g.1*e.h.c.W))+g.2.1))+v)).toNat-(wI ((wI (g.1*e.h.c.W))+g.2.1)).toNat):Nat):Int)))<=(e.h.w.length:Int)) <| bnd (Qce N B.1) λO=>bif (O.2 != 0)then M 0 19 e.r.j e.h.w z.2.2.2.1 e.q else grd (((wI ((wI ((wI (g.1*e.h.c.W))+g.2.1))+v)).toNat-(wI ((wI (g.1*e.h.c.W))+g.2.1)).toNat)<=((wI ((wI ((wI (l.1*e.h.c.W))+l.2.1))+((((wI ((wI ((wI (g.1*e.h.c.W))+g.2.1))+v)).toNat-(wI ((wI (g.1*e.h.c.W))+g.2.1)).toNat):Nat):Int))).toNat-(wI ((wI (l.1*e.h.c.W))+l.2.1)).toNat)) <| bnd (KM (((e.h.w.take (wI ((wI (l.1*e.h.c.W))+l.2.1)).toNat)++((e.h.w.drop (wI ((wI (g.1*e.h.c.W))+g.2.1)).toNat).take ((wI ((wI ((wI (g.1*e.h.c.W))+g.2.1))+v)).toNat-(wI ((wI (g.1*e.h.c.W))+g.2.1)).toNat)))++(e.h.w.drop ((wI ((wI (l.1*e.h.c.W))+l.2.1)).toNat+((wI ((wI ((wI (g.1*e.h.c.W))+g.2.1))+v)).toNat-(wI ((wI (g.1*e.h.c.W))+g.2.1)).toNat)))) ((wI ((wI (g.1*e.h.c.W))+g.2.1)).toNat) ((wI ((wI ((wI (g.1*e.h.c.W))+g.2.1))+v)).toNat-(wI ((wI (g.1*e.h.c.W))+g.2.1)).toNat) 0) λp31=>bnd (Xb z.2.2.2.1 z.1) λp32=>grd (((wI ((wI ((wI (g.1*e.h.c.W))+g.2.1))+v)).toNat-(wI ((wI (g.1*e.h.c.W))+g.2.1)).toNat)<=140737488355328) <| bnd (Xb z.2.2.2.1 z.1) λJ=>grd ((e.q.length+1)*8<=140737488355328) <| M B.1 0 (wI (e.r.j+1)) ((((e.h.w.take (wI ((wI (l.1*e.h.c.W))+l.2.1)).toNat)++((e.h.w.drop (wI ((wI (g.1*e.h.c.W))+g.2.1)).toNat).take ((wI ((wI ((wI (g.1*e.h.c.W))+g.2.1))+v)).toNat-(wI ((wI (g.1*e.h.c.W))+g.2.1)).toNat)))++(e.h.w.drop ((wI ((wI (l.1*e.h.c.W))+l.2.1)).toNat+((wI ((wI ((wI (g.1*e.h.c.W))+g.2.1))+v)).toNat-(wI ((wI (g.1*e.h.c.W))+g.2.1)).toNat)))).set (wI ((wI (g.1*e.h.c.W))+g.2.1)).toNat O.1) (z.2.2.2.1.set z.1.toNat (Wv.mk J.k J.s (wI (p32.u+((((wI ((wI ((wI (g.1*e.h.c.W))+g.2.1))+v)).toNat-(wI ((wI (g.1*e.h.c.W))+g.2.1)).toNat):Nat):Int))) J.P)) (e.q++[B.1])
def QeN(N:Nat)(M:List Int):Nat->Int->Int->Int->Int->Int->Int->Int->Int->Int->Int->Int->Int->(List Int)->(List Wv)->(List Int)->(List Int)->(List Int)->(List Int)->Option (Ex (WE×List Int×Int) (Int×Int×Int×Int×Int×Int×Int×Int×Int×Int×Int×List Int×List Wv×List Int×List Int×List Int×List Int))
 |0,_,_,_,_,_,_,_,_,_,_,_,_,_,_,_,_,_,_=>none
 |n+1,O,S,T,U,k,l,u,v,z,A,B,D,G,H,I,J,L,g=>
  bif (decide (O<(M.length:Int)))then(bnd (Xb M O) λR=>
   bnd (Qa6 N (WE.mk (Wm.mk (WW.mk S T) G H U k) I J L l (WQ.mk u v z A B D)) R) λe=>
   bif (e.2.1 != 0)then some (.ret ((WE.mk zHp [] [] [] 0 (WQ.mk 0 0 0 0 0 0)),[],e.2.1))
   else grd ((g.length+1)*8<=140737488355328) <|
   QeN N M n (wI (O+1)) e.2.2.h.c.W e.2.2.h.c.p e.2.2.h.s e.2.2.h.b e.2.2.d e.2.2.r.j e.2.2.r.K e.2.2.r.F e.2.2.r.E e.2.2.r.f e.2.2.r.y e.2.2.h.w e.2.2.h.p e.2.2.o e.2.2.t e.2.2.q (g++[e.1]))
  else some (.nxt (S,T,U,k,l,u,v,z,A,B,D,G,H,I,J,L,g))
def Qgx(N:Nat)(k:WE)(l:List Int):Option (WE×List Int×Int):=bnd (Qad N k.h.w) λu=>bnd (Qab N k.h.p) λv=>bnd (Qad N k.o) λz=>bnd (QaF N k.t) λA=>bnd (Qad N k.q) λB=>bnd (QeN N l N 0 k.h.c.W k.h.c.p k.h.s k.h.b k.d k.r.j k.r.K k.r.F k.r.E k.r.f k.r.y u v z A B []) λe=>exK e (λr=>some r) λg=>some ((WE.mk (Wm.mk (WW.mk g.1 g.2.1) g.2.2.2.2.2.2.2.2.2.2.2.1 g.2.2.2.2.2.2.2.2.2.2.2.2.1 g.2.2.1 g.2.2.2.1) g.2.2.2.2.2.2.2.2.2.2.2.2.2.1 g.2.2.2.2.2.2.2.2.2.2.2.2.2.2.1 g.2.2.2.2.2.2.2.2.2.2.2.2.2.2.2.1 g.2.2.2.2.1 (WQ.mk g.2.2.2.2.2.1 g.2.2.2.2.2.2.1 g.2.2.2.2.2.2.2.1 g.2.2.2.2.2.2.2.2.1 g.2.2.2.2.2.2.2.2.2.1 g.2.2.2.2.2.2.2.2.2.2.1)),g.2.2.2.2.2.2.2.2.2.2.2.2.2.2.2.2,0)
def QfY(N:Nat)(k l:Int)(g:Int×Int×Int)(u:List Int):Nat->Int->Int->Int->Int->Int->Int->Int->Int->Int->Int->Int->Int->(List Int)->(List Wv)->(List Int)->(List Int)->(List Int)->Option (Ex (Int×Int×Int×Int×Int×Int×Int×Int×Int×Int×Int×Int×List Int×List Wv×List Int×List Int×List Int) (Int×Int×Int×Int×Int×Int×Int×Int×Int×Int×Int×List Int×List Wv×List Int×List Int×List Int))
 |0,_,_,_,_,_,_,_,_,_,_,_,_,_,_,_,_,_=>none
 |n+1,v,B,D,G,H,I,J,L,M,O,R,S,z,T,U,V,Y=>
  bif (decide (v<(u.length:Int)))then(bnd (Xb u v) λA=>
   bnd (KM z ((wI ((wI (g.1*k))+g.2.1)).toNat) ((wI ((wI ((wI (g.1*k))+g.2.1))+l)).toNat-(wI ((wI (g.1*k))+g.2.1)).toNat) (wI (1+A))) λZ=>
   bnd (Qa6 N (WE.mk (Wm.mk (WW.mk B D) z T G H) U V Y I (WQ.mk J L M O R S)) Z) λe=>
   bif (e.2.1 != 0)then some (.ret (e.2.1,e.2.2.h.c.W,e.2.2.h.c.p,e.2.2.h.s,e.2.2.h.b,e.2.2.d,e.2.2.r.j,e.2.2.r.K,e.2.2.r.F,e.2.2.r.E,e.2.2.r.f,e.2.2.r.y,e.2.2.h.w,e.2.2.h.p,e.2.2.o,e.2.2.t,e.2.2.q))
   else bnd (KM e.2.2.h.w ((wI ((wI (g.1*k))+g.2.1)).toNat) ((wI ((wI ((wI (g.1*k))+g.2.1))+l)).toNat-(wI ((wI (g.1*k))+g.2.1)).toNat) (wI (1+A))) λp53=>
   QfY N k l g u n (wI (v+1)) e.2.2.h.c.W e.2.2.h.c.p e.2.2.h.s e.2.2.h.b e.2.2.d e.2.2.r.j e.2.2.r.K e.2.2.r.F e.2.2.r.E e.2.2.r.f e.2.2.r.y (e.2.2.h.w.set ((wI ((wI (g.1*k))+g.2.1)).toNat+(wI (1+A)).toNat) e.1) e.2.2.h.p e.2.2.o e.2.2.t e.2.2.q)
  else some (.nxt (B,D,G,H,I,J,L,M,O,R,S,z,T,U,V,Y))
def QfZ(N:Nat):Nat->Int->Int->Int->Int->Int->Int->Int->Int->Int->Int->Int->(List Int)->(List Wv)->(List Int)->(List Int)->(List Int)->Option (WE×Int)
 |0,_,_,_,_,_,_,_,_,_,_,_,_,_,_,_,_=>none
 |n+1,o,B,G,H,k,q,r,s,u,v,w,f,y,z,A,l=>
  jn (λ(x56:Bool) (J K L M O R S T U V W Y:Int) (Z:List Int) (x70:List Wv) (x71 x72 x73:List Int)=>
   bif (J != 0)then some ((WE.mk zHp [] [] [] 0 (WQ.mk 0 0 0 0 0 0)),J)
   else bif (!x56)then some ((WE.mk (Wm.mk (WW.mk K L) Z x70 M O) x71 x72 x73 R (WQ.mk S T U V W Y)),0)
   else QfZ N n K L M O R S T U V W Y Z x70 x71 x72 x73) λD=>
  bif (decide (k<0))then D false 0 o B G H k q r s u v w f y z A l
  else grd (l.length<=140737488355328) <|
  bif (decide (k>=(l.length:Int)))then D false 0 o B G H k q r s u v w f y z A l
  else bnd (Xb l k) λp22=>
  bnd (Qcc N (WW.mk o B) p22) λg=>
  bif (g.2.2 != 0)then D false 19 o B G H k q r s u v w f y z A l
  else grd (f.length<=140737488355328) <|
  bif (decide (1>(wI ((f.length:Int)-(wI ((wI (g.1*o))+g.2.1))))))then D false 19 o B G H k q r s u v w f y z A l
  else grd (0<=(wI ((wI (g.1*o))+g.2.1))/\(wI ((wI (g.1*o))+g.2.1))<=(wI ((wI ((wI (g.1*o))+g.2.1))+1))/\(wI ((wI ((wI (g.1*o))+g.2.1))+1))<=(f.length:Int)) <|
  bnd (KM f ((wI ((wI (g.1*o))+g.2.1)).toNat) ((wI ((wI ((wI (g.1*o))+g.2.1))+1)).toNat-(wI ((wI (g.1*o))+g.2.1)).toNat) 0) λp26=>
  bnd (QeH N p26) λE=>
  bnd (QbA N E.1) λI=>
  bnd (Qcc N (WW.mk o B) p22) λp=>
  bif (p.2.2 != 0)then(bif (!E.2)then D false 19 o B G H k q r s u v w f y z A l
   else D false 19 o B G H k q r s u v w f y z A l)
  else grd (f.length<=140737488355328) <|
  bif (decide (I>(wI ((f.length:Int)-(wI ((wI (p.1*o))+p.2.1))))))then(bif (!E.2)then D false 19 o B G H k q r s u v w f y z A l
   else D false 19 o B G H k q r s u v w f y z A l)
  else grd (0<=(wI ((wI (p.1*o))+p.2.1))/\(wI ((wI (p.1*o))+p.2.1))<=(wI ((wI ((wI (p.1*o))+p.2.1))+I))/\(wI ((wI ((wI (p.1*o))+p.2.1))+I))<=(f.length:Int)) <|
  bif (!E.2)then D false 19 o B G H k q r s u v w f y z A l
  else bnd (Qez N E.1) λy32=>
  bnd (QfY N o I p y32 N 0 o B G H k q r s u v w f y z A l) λe=>exK e (λh=>D false h.1 h.2.1 h.2.2.1 h.2.2.2.1 h.2.2.2.2.1 h.2.2.2.2.2.1 h.2.2.2.2.2.2.1 h.2.2.2.2.2.2.2.1 h.2.2.2.2.2.2.2.2.1 h.2.2.2.2.2.2.2.2.2.1 h.2.2.2.2.2.2.2.2.2.2.1 h.2.2.2.2.2.2.2.2.2.2.2.1 h.2.2.2.2.2.2.2.2.2.2.2.2.1 h.2.2.2.2.2.2.2.2.2.2.2.2.2.1 h.2.2.2.2.2.2.2.2.2.2.2.2.2.2.1 h.2.2.2.2.2.2.2.2.2.2.2.2.2.2.2.1 h.2.2.2.2.2.2.2.2.2.2.2.2.2.2.2.2) λj=>
  D true 0 j.1 j.2.1 j.2.2.1 j.2.2.2.1 (wI (j.2.2.2.2.1+1)) j.2.2.2.2.2.1 j.2.2.2.2.2.2.1 j.2.2.2.2.2.2.2.1 j.2.2.2.2.2.2.2.2.1 j.2.2.2.2.2.2.2.2.2.1 (wI (j.2.2.2.2.2.2.2.2.2.2.1+(wI (1+(y32.length:Int))))) j.2.2.2.2.2.2.2.2.2.2.2.1 j.2.2.2.2.2.2.2.2.2.2.2.2.1 j.2.2.2.2.2.2.2.2.2.2.2.2.2.1 j.2.2.2.2.2.2.2.2.2.2.2.2.2.2.1 j.2.2.2.2.2.2.2.2.2.2.2.2.2.2.2
def Qg6(N:Nat)(e:WE):Option (WE×Int):=bnd (Qad N e.h.w) λg=>bnd (Qab N e.h.p) λk=>bnd (Qad N e.o) λl=>bnd (QaF N e.t) λu=>bnd (Qad N e.q) λv=>bnd (QfZ N N e.h.c.W e.h.c.p e.h.s e.h.b e.d e.r.j e.r.K e.r.F e.r.E e.r.f e.r.y g k l u v) λr=>some r
def Qak(N:Nat)(e:Int):Option Unit:=bif (e != 0)then none else some ()
def QgI(N:Nat)(e:WE)(f:Int):Option Int:=bnd (Qai N e.q f) λj=>bif j then some f else bnd (Qcc N e.h.c f) λg=>bnd (Qak N g.2.2) λo=>bnd (Xb e.h.w (wI ((wI (g.1*e.h.c.W))+g.2.1))) λk=>bnd (QfC N k) λl=>some l.1
def Qc0(N:Nat)(e:WE)(g:List Int):Nat->Int->Int->(List Int)->Option (List Int×Int)
 |0,_,_,_=>none
 |n+1,k,f,l=>
  bif (decide (k<(g.length:Int)))then(bnd (Xb g k) λp=>
   jn (λ(w z:Int)=>
    grd ((l.length+1)*8<=140737488355328) <|
    Qc0 N e g n (wI (k+1)) z (l++[w])) λs=>
   bif (p != 0)then(bnd (QgI N (WE.mk e.h e.o e.t e.q e.d (WQ.mk e.r.j e.r.K e.r.F e.r.E f e.r.y)) p) λu=>
    jn (λ(A:Int)=>
     s u A) λv=>
    bif (u==0)then v (wI (f+1))
    else v f)
   else s 0 f)
  else some (l,f)
def Qei(N:Nat)(e:WE)(k:List Int):Option (List Int×WE):=bnd (Qc0 N e k N 0 e.r.f []) λg=>some (g.1,(WE.mk e.h e.o e.t e.q e.d (WQ.mk e.r.j e.r.K e.r.F e.r.E g.2 e.r.y)))
def QeY(N:Nat)(e:WE)(f:Int):Option Bool:=jn (λ(o:Bool)=>some o) λg=>bif (decide (f<0))then g false else bif (decide (f>=(e.h.p.length:Int)))then g false else bnd (Xb e.h.p f) λl=>jn (λ(q:Bool)=>g q) λj=>bif (l.k==1)then(bif (l.s==(wI (1-e.h.s)))then(bnd (Qbm N e.t f) λr=>j (!r))else j false)else j false
def Qi5(N:Nat)(g:Wm)(h e:Int):Option (Wm×Int):=bif (decide (e<1))then some (zHp,1)else bif (decide (e>256))then some (zHp,1)else bnd (QfX N g h (WC.mk 0 (wI (e-1)) 0)) λf=>some (f.1,f.2)
def QcY(N:Nat)(A:WE)(f:List Int×Int)(B:Int):Nat->Int->Int->Int->(List Int)->(List Wv)->Int->Int->Int->Option (Int×Int×List Int×List Wv×Int×Int×Int)
 |0,_,_,_,_,_,_,_,_=>none
 |n+1,g,h,j,l,o,r,u,v=>
  bif (decide (g<(f.1.length:Int)))then(bnd (Xb f.1 g) λy=>
   bnd (Qew N (Wm.mk (WW.mk h j) l o r u) y) λz=>
   bnd (Qak N z.2) λG=>
   bif (z.1.k==0)then QcY N A f B n (wI (g+1)) h j l o r u v
   else bnd (Qai N A.q y) λD=>
   bif D then QcY N A f B n (wI (g+1)) h j l o r u v
   else bnd (QbA N z.1) λE=>
   bnd (Qi5 N (Wm.mk (WW.mk h j) l o r u) y E) λe=>
   bnd (Qak N e.2) λH=>
   QcY N A f B n (wI (g+1)) e.1.c.W e.1.c.p e.1.w e.1.p e.1.s e.1.b (wI (v+1)))
  else some (h,j,l,o,r,u,v)
def QdW(N:Nat)(g:WE):Nat->Int->Int->Int->(List Int)->(List Wv)->Int->Int->Int->Option (Int×Int×List Int×List Wv×Int×Int×Int)
 |0,_,_,_,_,_,_,_,_=>none
 |n+1,k,l,s,u,v,w,z,B=>
  bif (decide (k<(g.h.p.length:Int)))then(bnd (QeY N (WE.mk (Wm.mk (WW.mk l s) u v w z) g.o g.t g.q g.d (WQ.mk g.r.j g.r.K B g.r.E g.r.f g.r.y)) k) λD=>
   bif (!D)then QdW N g n (wI (k+1)) l s u v w z B
   else bnd (QfN N (Wm.mk (WW.mk l s) u v w z) k) λA=>
   bnd (Qak N A.2) λG=>
   bnd (QcY N g A k N 0 l s u v w z B) λe=>
   QdW N g n (wI (k+1)) e.1 e.2.1 e.2.2.1 e.2.2.2.1 e.2.2.2.2.1 e.2.2.2.2.2.1 e.2.2.2.2.2.2)
  else some (l,s,u,v,w,z,B)
def Qfp(N:Nat)(e:WE):Option WE:=bnd (QdW N e N 0 e.h.c.W e.h.c.p e.h.w e.h.p e.h.s e.h.b e.r.F) λg=>some (WE.mk (Wm.mk (WW.mk g.1 g.2.1) g.2.2.1 g.2.2.2.1 g.2.2.2.2.1 g.2.2.2.2.2.1) e.o e.t e.q e.d (WQ.mk e.r.j e.r.K g.2.2.2.2.2.2 e.r.E e.r.f e.r.y))
def Qfq(N:Nat)(g:Wv):Nat->Int->(List Wv)->Option (List Wv)
 |0,_,_=>none
 |n+1,f,e=>
  bif (g.k==2)then(grd (e.length<=140737488355328) <|
   bif (decide (f<(e.length:Int)))then(bnd (Xb e f) λh=>
    bif (h.k==3)then(bnd (Xb e f) λj=>
     Qfq N g n (wI (f+1)) (e.set f.toNat (Wv.mk 0 0 0 0)))
    else some e)
   else some e)
  else some e
def Qi6(N:Nat)(f:List Wv)(e:Int):Option (List Wv×Int):=bif (decide (e<0))then some ([],2)else bif (decide (e>=(f.length:Int)))then some ([],2)else bnd (Xb f e) λg=>jn (λ(_:Unit)=>bnd (Qab N f) λh=>bnd (Xb h e) λo=>bnd (Qfq N g N (wI (e+1)) (h.set e.toNat (Wv.mk 0 0 0 0))) λl=>some (l,0)) λj=>bif (g.k != 1)then(bif (g.k != 2)then some ([],20)else j ())else j ()
def QbT(N:Nat)(e:WE):Nat->Int->(List Wv)->Int->(List Int)->Option (List Int×List Wv×Int)
 |0,_,_,_,_=>none
 |n+1,f,j,l,g=>
  bif (decide (f<(e.h.p.length:Int)))then(bnd (Xb e.h.p f) λo=>
   bif (o.k==0)then QbT N e n (wI (f+1)) j l g
   else bif (o.s != e.h.s)then QbT N e n (wI (f+1)) j l g
   else grd (0<=(wI (f*e.h.c.W))/\(wI (f*e.h.c.W))<=(wI ((wI (f+1))*e.h.c.W))/\(wI ((wI (f+1))*e.h.c.W))<=(g.length:Int)) <|
   bif (o.k != 3)then(bnd (Qi6 N j f) λq=>
    bnd (Qak N q.2) λr=>
    QbT N e n (wI (f+1)) q.1 (wI (l+1)) (((g.take (wI (f*e.h.c.W)).toNat)++(List.replicate ((wI ((wI (f+1))*e.h.c.W)).toNat-(wI (f*e.h.c.W)).toNat) (0:Int)))++(g.drop ((wI (f*e.h.c.W)).toNat+((wI ((wI (f+1))*e.h.c.W)).toNat-(wI (f*e.h.c.W)).toNat)))))
   else QbT N e n (wI (f+1)) j (wI (l+1)) (((g.take (wI (f*e.h.c.W)).toNat)++(List.replicate ((wI ((wI (f+1))*e.h.c.W)).toNat-(wI (f*e.h.c.W)).toNat) (0:Int)))++(g.drop ((wI (f*e.h.c.W)).toNat+((wI ((wI (f+1))*e.h.c.W)).toNat-(wI (f*e.h.c.W)).toNat)))))
  else some (g,j,l)
def Qfr(N:Nat)(e:WE):Option WE:=bnd (Qad N e.h.w) λk=>bnd (QbT N e N 0 e.h.p e.r.E k) λg=>some (WE.mk (Wm.mk e.h.c g.1 g.2.1 e.h.s e.h.b) e.o e.t e.q e.d (WQ.mk e.r.j e.r.K e.r.F g.2.2 e.r.f e.r.y))
def QeA(N:Nat)(k:Wm)(l o:List Int):Option (Wm×List Int×List Int×WQ×Int):=bnd (Qfh N k) λq=>bif (q.2==0)then(bnd (QaV N [l,o]) λy=>bnd (Qey N k y) λz=>bif z then(bnd (Qgx N q.1 l) λf=>bif (f.2.2==0)then(bnd (Qg6 N f.1) λg=>bif (g.2==0)then(bnd (Qei N g.1 o) λu=>bnd (Qfp N u.2) λA=>bnd (Qfr N A) λe=>grd (e.t.length<=140737488355328) <| jn (λ(B:Int)=>some ((Wm.mk e.h.c e.h.w e.h.p (wI (1-e.h.s)) B),f.2.1,u.1,e.r,0)) λv=>bif (decide ((e.t.length:Int)>0))then(bnd (Xb e.t (wI ((e.t.length:Int)-1))) λj=>v j)else v (-1))else some (zHp,[],[],(WQ.mk 0 0 0 0 0 0),g.2))else some (zHp,[],[],(WQ.mk 0 0 0 0 0 0),f.2.2))else none)else none
def QeO(N:Nat)(j:Wo):Nat->(List Int)->Int->(List UE)->Option (List UE)
 |0,_,_,_=>none
 |n+1,e,f,g=>
  bif (decide (f<(j.S.length:Int)))then(bnd (Xb g f) λk=>
   bif k.V then(bnd (Xb e 0) λl=>
    grd (0<=1/\1<=(e.length:Int)/\(e.length:Int)<=(e.length:Int)) <|
    bnd (Xb g f) λh=>
    QeO N j n (e.drop 1) (wI (f+1)) (g.set f.toNat (UE.mk h.J l h.V)))
   else QeO N j n e (wI (f+1)) g)
  else some g
def Qh4(N:Nat)(f:Wo)(g:List Int):Option (Wo×Int):=bnd (Qdb N f) λj=>bif (!j)then some ((Wo.mk [] [] []),1)else bnd (Qgw N f) λk=>bif ((k.length:Int) != (g.length:Int))then some ((Wo.mk [] [] []),1)else bnd (Qai N g 0) λl=>bif l then some ((Wo.mk [] [] []),1)else bnd (QdN N f) λe=>grd (e.S.length<=140737488355328) <| bnd (QeO N e N g 0 e.S) λh=>some ((Wo.mk h e.x e.i),0)
def Qfb(N:Nat)(f:Ws):Option Ws:=bnd (Qap N f.e) λg=>some (Ws.mk g)
def QeP(N:Nat)(j:Ws):Nat->(List Int)->Int->(List WT)->Option (List WT)
 |0,_,_,_=>none
 |n+1,f,g,h=>
  bif (decide (g<(j.e.length:Int)))then(bnd (Xb h g) λl=>
   bif l.V then(bnd (Xb f 0) λo=>
    grd (0<=1/\1<=(f.length:Int)/\(f.length:Int)<=(f.length:Int)) <|
    bnd (Xb h g) λk=>
    QeP N j n (f.drop 1) (wI (g+1)) (h.set g.toNat (WT.mk k.G o k.V)))
   else QeP N j n f (wI (g+1)) h)
  else some h
def Qhn(N:Nat)(f:Ws)(j:List Int):Option (Ws×Int):=bnd (QdM N f) λk=>bif (!k)then some ((Ws.mk []),1)else bnd (Qep N f) λl=>bif ((l.length:Int) != (j.length:Int))then some ((Ws.mk []),1)else bnd (Qfb N f) λg=>grd (g.e.length<=140737488355328) <| bnd (QeP N g N j 0 g.e) λh=>some ((Ws.mk h),0)
def QeB(N:Nat)(e:Int)(f:List Int):Option (List Int×List Int):=grd (0<=0/\0<=e/\e<=(f.length:Int)) <| grd (0<=e/\e<=(f.length:Int)/\(f.length:Int)<=(f.length:Int)) <| some ((f.take e.toNat),(f.drop e.toNat))
def Qfi(N:Nat)(o:Wm×List Int×List Int×WQ×Int)(p:WJ)(q:List Int×List Int)(r:Wo×Int)(f:List Int×List Int)(h j:Ws×Int):Nat->Int->(List Ux)->Option (List Ux)
 |0,_,_=>none
 |n+1,e,g=>
  bif (decide (e<(f.2.length:Int)))then(bnd (Xb f.2 e) λk=>
   bnd (Xb g e) λl=>
   Qfi N o p q r f h j n (wI (e+1)) (g.set e.toNat (Ux.mk k l.M)))
  else some g
def QhB(N:Nat)(e:WJ):Option (WJ×WQ×Int):=bnd (QaJ N e) λy=>bif (!y)then some ((WJ.mk zHp (Wo.mk [] [] []) (Ws.mk []) (Ws.mk []) [] []),(WQ.mk 0 0 0 0 0 0),19)else bnd (Qhl N e) λz=>bnd (Qep N e.v) λA=>bnd (QeA N e.h z A) λf=>bif (f.2.2.2.2 != 0)then some ((WJ.mk zHp (Wo.mk [] [] []) (Ws.mk []) (Ws.mk []) [] []),(WQ.mk 0 0 0 0 0 0),f.2.2.2.2)else bnd (Qat N e) λo=>bnd (QeB N (e.R.length:Int) f.2.1) λp=>grd (p.1.length<=o.R.length) <| bnd (Qgw N e.l) λB=>bnd (QeB N (B.length:Int) p.2) λw=>bnd (Qh4 N e.l w.1) λr=>bnd (Qep N e.g) λs=>bnd (QeB N (s.length:Int) w.2) λq=>bnd (Qhn N e.g q.1) λj=>bnd (Qhn N e.v f.2.2.1) λk=>bnd (Qfi N f o p r q j k N 0 o.P) λu=>bif (!((r.2==0)&&((j.2==0)&&(k.2==0))))then some ((WJ.mk zHp (Wo.mk [] [] []) (Ws.mk []) (Ws.mk []) [] []),(WQ.mk 0 0 0 0 0 0),19)else some ((WJ.mk f.1 r.1 j.1 k.1 u (((o.R.take 0)++p.1)++(o.R.drop p.1.length))),f.2.2.2.1,0)
def Qg7(N:Nat)(f:WJ)(p:WC):Option (WJ×Int×Int):=bnd (QaJ N f) λq=>bif (!q)then some ((WJ.mk zHp (Wo.mk [] [] []) (Ws.mk []) (Ws.mk []) [] []),0,19)else bnd (Qe2 N f.h.c p) λr=>bif (!r)then some ((WJ.mk zHp (Wo.mk [] [] []) (Ws.mk []) (Ws.mk []) [] []),0,1)else bnd (Qat N f) λj=>bnd (Qfa N f.h p) λk=>bif (k.2.2==3)then(bnd (QhB N f) λe=>bif (e.2.2 != 0)then some ((WJ.mk zHp (Wo.mk [] [] []) (Ws.mk []) (Ws.mk []) [] []),0,e.2.2)else bnd (Qfa N e.1.h p) λo=>bif (o.2.2 != 0)then some ((WJ.mk zHp (Wo.mk [] [] []) (Ws.mk []) (Ws.mk []) [] []),0,o.2.2)else some ((WJ.mk o.1 e.1.l e.1.g e.1.v e.1.P e.1.R),o.2.1,0))else bif (k.2.2 != 0)then some ((WJ.mk zHp (Wo.mk [] [] []) (Ws.mk []) (Ws.mk []) [] []),0,k.2.2)else some ((WJ.mk k.1 j.l j.g j.v j.P j.R),k.2.1,0)
def Qfs(N:Nat)(e:UR):Option Bool:=bif (decide (e.Tag<1))then some false else bif (decide (e.Tag>3))then some false else bif (decide (e.Index<0))then some false else bif (decide (e.J<1))then some false else bnd (Qa4 N 16) λf=>bif (decide ((wU e.Index)<=f))then(bnd (Qa4 N 32) λg=>some (decide ((wU e.J)<=g)))else some false
def Qbe(N:Nat)(e:UR):Option (Int×Int):=bnd (Qfs N e) λg=>bif (!g)then some (0,1)else bnd (QfP N [(UF.mk 2 (wU e.Tag)),(UF.mk 16 (wU e.Index)),(UF.mk 32 (wU e.J))]) λf=>some (f.1,f.2)
def Qdn(N:Nat)(y:WJ)(k o H:Int):Option (WJ×Int×Int):=bnd (QaJ N y) λB=>bif (!B)then some ((WJ.mk zHp (Wo.mk [] [] []) (Ws.mk []) (Ws.mk []) [] []),0,19)else bnd (Qat N y) λf=>jn (λ(D:Bool)=>bnd (QcX N f.l 4096) λq=>grd (f.P.length<=140737488355328) <| bif (decide ((f.P.length:Int)>0))then some ((WJ.mk zHp (Wo.mk [] [] []) (Ws.mk []) (Ws.mk []) [] []),0,15)else bif (!D)then some ((WJ.mk zHp (Wo.mk [] [] []) (Ws.mk []) (Ws.mk []) [] []),0,1)else bnd (Qe2 N f.h.c (WC.mk 1 (wI (if 2147483647<k then 2147483647 else k)) (wW (if 4294967295<o then 4294967295 else o)))) λE=>bif (!E)then some ((WJ.mk zHp (Wo.mk [] [] []) (Ws.mk []) (Ws.mk []) [] []),0,1)else bif (q.2.2.2 != 0)then(bif (q.2.2.2 != 0)then some ((WJ.mk zHp (Wo.mk [] [] []) (Ws.mk []) (Ws.mk []) [] []),0,q.2.2.2)else some (f,0,0))else bnd (Qg7 N f (WC.mk 1 (wI (if 2147483647<k then 2147483647 else k)) (wW (if 4294967295<o then 4294967295 else o)))) λe=>bif (e.2.2 != 0)then(bif (e.2.2 != 0)then some ((WJ.mk zHp (Wo.mk [] [] []) (Ws.mk []) (Ws.mk []) [] []),0,e.2.2)else some (f,0,0))else jn (λ(G p:Int) (r:List UE) (s:List UJ) (u:List Int)=>bif (p != 0)then some ((WJ.mk zHp (Wo.mk [] [] []) (Ws.mk []) (Ws.mk []) [] []),0,p)else some ((WJ.mk e.1.h (Wo.mk r s u) e.1.g e.1.v e.1.P e.1.R),G,0)) λw=>bif (e.2.1==0)then w 0 0 e.1.l.S e.1.l.x e.1.l.i else bnd (QcX N e.1.l e.2.1) λj=>bif (j.2.2.2 != 0)then w 0 j.2.2.2 e.1.l.S e.1.l.x e.1.l.i else bnd (Qbe N (UR.mk 1 j.2.1 j.2.2.1)) λz=>w z.1 z.2 j.1.S j.1.x j.1.i) λA=>bif (decide (k<=2147483647))then A (decide (o<=4294967295))else A false
def Qdo(N:Nat)(u:WJ)(k D E:Int):Option (WJ×Int×Int):=bnd (QaJ N u) λz=>bif (!z)then some ((WJ.mk zHp (Wo.mk [] [] []) (Ws.mk []) (Ws.mk []) [] []),0,19)else bnd (Qat N u) λf=>bnd (QcX N f.l 4096) λo=>grd (f.P.length<=140737488355328) <| bif (decide ((f.P.length:Int)>0))then some ((WJ.mk zHp (Wo.mk [] [] []) (Ws.mk []) (Ws.mk []) [] []),0,15)else bif (!(decide (k<=2147483647)))then some ((WJ.mk zHp (Wo.mk [] [] []) (Ws.mk []) (Ws.mk []) [] []),0,1)else bnd (Qe2 N f.h.c (WC.mk 2 (wI (if 2147483647<k then 2147483647 else k)) 0)) λA=>bif (!A)then some ((WJ.mk zHp (Wo.mk [] [] []) (Ws.mk []) (Ws.mk []) [] []),0,1)else bif (o.2.2.2 != 0)then(bif (o.2.2.2 != 0)then some ((WJ.mk zHp (Wo.mk [] [] []) (Ws.mk []) (Ws.mk []) [] []),0,o.2.2.2)else some (f,0,0))else bnd (Qg7 N f (WC.mk 2 (wI (if 2147483647<k then 2147483647 else k)) 0)) λe=>bif (e.2.2 != 0)then(bif (e.2.2 != 0)then some ((WJ.mk zHp (Wo.mk [] [] []) (Ws.mk []) (Ws.mk []) [] []),0,e.2.2)else some (f,0,0))else jn (λ(B w:Int) (p:List UE) (q:List UJ) (r:List Int)=>bif (w != 0)then some ((WJ.mk zHp (Wo.mk [] [] []) (Ws.mk []) (Ws.mk []) [] []),0,w)else some ((WJ.mk e.1.h (Wo.mk p q r) e.1.g e.1.v e.1.P e.1.R),B,0)) λs=>bif (e.2.1==0)then s 0 0 e.1.l.S e.1.l.x e.1.l.i else bnd (QcX N e.1.l e.2.1) λj=>bif (j.2.2.2 != 0)then s 0 j.2.2.2 e.1.l.S e.1.l.x e.1.l.i else bnd (Qbe N (UR.mk 1 j.2.1 j.2.2.1)) λy=>s y.1 y.2 j.1.S j.1.x j.1.i
def Qdp(N:Nat)(u:WJ)(k D E:Int):Option (WJ×Int×Int):=bnd (QaJ N u) λz=>bif (!z)then some ((WJ.mk zHp (Wo.mk [] [] []) (Ws.mk []) (Ws.mk []) [] []),0,19)else bnd (Qat N u) λf=>bnd (QcX N f.l 4096) λo=>grd (f.P.length<=140737488355328) <| bif (decide ((f.P.length:Int)>0))then some ((WJ.mk zHp (Wo.mk [] [] []) (Ws.mk []) (Ws.mk []) [] []),0,15)else bif (!(decide (k<=2147483647)))then some ((WJ.mk zHp (Wo.mk [] [] []) (Ws.mk []) (Ws.mk []) [] []),0,1)else bnd (Qe2 N f.h.c (WC.mk 3 (wI (if 2147483647<k then 2147483647 else k)) 0)) λA=>bif (!A)then some ((WJ.mk zHp (Wo.mk [] [] []) (Ws.mk []) (Ws.mk []) [] []),0,1)else bif (o.2.2.2 != 0)then(bif (o.2.2.2 != 0)then some ((WJ.mk zHp (Wo.mk [] [] []) (Ws.mk []) (Ws.mk []) [] []),0,o.2.2.2)else some (f,0,0))else bnd (Qg7 N f (WC.mk 3 (wI (if 2147483647<k then 2147483647 else k)) 0)) λe=>bif (e.2.2 != 0)then(bif (e.2.2 != 0)then some ((WJ.mk zHp (Wo.mk [] [] []) (Ws.mk []) (Ws.mk []) [] []),0,e.2.2)else some (f,0,0))else jn (λ(B w:Int) (p:List UE) (q:List UJ) (r:List Int)=>bif (w != 0)then some ((WJ.mk zHp (Wo.mk [] [] []) (Ws.mk []) (Ws.mk []) [] []),0,w)else some ((WJ.mk e.1.h (Wo.mk p q r) e.1.g e.1.v e.1.P e.1.R),B,0)) λs=>bif (e.2.1==0)then s 0 0 e.1.l.S e.1.l.x e.1.l.i else bnd (QcX N e.1.l e.2.1) λj=>bif (j.2.2.2 != 0)then s 0 j.2.2.2 e.1.l.S e.1.l.x e.1.l.i else bnd (Qbe N (UR.mk 1 j.2.1 j.2.2.1)) λy=>s y.1 y.2 j.1.S j.1.x j.1.i
def Qd3(N:Nat)(f:Int):Option (UR×Int):=bif (f==0)then some ((UR.mk 0 0 0),5)else bnd (QdL N f [2,16,32]) λe=>bif (e.2 != 0)then some ((UR.mk 0 0 0),6)else bnd (Xb e.1 0) λg=>bnd (Xb e.1 1) λh=>bnd (Xb e.1 2) λj=>bnd (Qfs N (UR.mk (wI g) (wI h) (wI j))) λk=>bif (!k)then some ((UR.mk 0 0 0),6)else some ((UR.mk (wI g) (wI h) (wI j)),0)
def QhQ(N:Nat)(e:Wo)(f g:Int):Option (Int×Int):=bnd (Qdb N e) λh=>bif (!h)then some (0,1)else bif (decide (g<1))then some (0,6)else bif (decide (g>(e.i.length:Int)))then some (0,6)else bnd (Xb e.i (wI (g-1))) λj=>bif (j != f)then some (0,6)else bif (decide (f>=(e.S.length:Int)))then some (0,7)else bnd (Xb e.S f) λk=>bif (k.J != g)then some (0,7)else bnd (Xb e.S f) λl=>bif (!l.V)then some (0,8)else bnd (Xb e.S f) λo=>some (o.a,0)
def Qf0(N:Nat)(f:Ws)(g h:Int):Option Int:=bnd (QdM N f) λj=>bif (!j)then some 1 else bif (decide (g<0))then some 6 else bif (decide (g>=(f.e.length:Int)))then some 6 else bif (decide (h<1))then some 6 else bnd (Xb f.e g) λk=>bif (decide (h>k.G))then some 6 else bnd (Xb f.e g) λl=>bif (decide (h<l.G))then some 8 else bnd (Xb f.e g) λo=>bif (!o.V)then some 8 else some 0
def Qg8(N:Nat)(f:Ws)(g j:Int):Option (Int×Int):=bnd (Qf0 N f g j) λh=>bif (h != 0)then some (0,h)else bnd (Xb f.e g) λk=>some (k.a,0)
def Qav(N:Nat)(f:WJ)(o:Int):Option (Int×Int):=bnd (QaJ N f) λp=>bif (!p)then some (0,19)else bnd (Qd3 N o) λe=>bif (e.2==5)then some (0,0)else bif (e.2 != 0)then some (0,e.2)else bif (e.1.Tag==1)then(bnd (QhQ N f.l e.1.Index e.1.J) λh=>some (h.1,h.2))else bif (e.1.Tag==2)then(bnd (Qg8 N f.g e.1.Index e.1.J) λj=>some (j.1,j.2))else bnd (Qg8 N f.v e.1.Index e.1.J) λk=>some (k.1,k.2)
def Qdk(N:Nat)(f:Wm)(g:Int):Option (WC×Int):=bnd (QbS N f) λh=>bif (!h)then some ((WC.mk 0 0 0),1)else bif (g==0)then some ((WC.mk 0 0 0),5)else bnd (Qew N f g) λe=>bif (e.2 != 0)then some ((WC.mk 0 0 0),e.2)else bif (e.1.k==0)then some ((WC.mk 0 0 0),4)else some (e.1,0)
def Qdq(N:Nat)(o:WJ)(u y z:Int):Option (WJ×Int×Int):=bnd (QaJ N o) λv=>bif (!v)then some ((WJ.mk zHp (Wo.mk [] [] []) (Ws.mk []) (Ws.mk []) [] []),0,19)else bnd (Qat N o) λg=>jn (λ(A p B j w:Int)=>bif (p != 0)then some ((WJ.mk zHp (Wo.mk [] [] []) (Ws.mk []) (Ws.mk []) [] []),0,p)else some (g,(wU j),0)) λq=>jn (λ(r s:Int)=>bif (s != 0)then q 0 s 0 0 0 else bnd (Qdk N g.h r) λe=>q r e.2 e.1.k e.1.n e.1.Map) λl=>bnd (Qav N g u) λf=>bif (f.2 != 0)then l 0 f.2 else bif (f.1==0)then l 0 5 else l f.1 0
def Qdr(N:Nat)(l:WJ)(s z A:Int):Option (WJ×Int×Int):=bnd (QaJ N l) λu=>bif (!u)then some ((WJ.mk zHp (Wo.mk [] [] []) (Ws.mk []) (Ws.mk []) [] []),0,19)else bnd (Qat N l) λg=>jn (λ(B o v w y:Int)=>bif (o != 0)then some ((WJ.mk zHp (Wo.mk [] [] []) (Ws.mk []) (Ws.mk []) [] []),0,o)else some (g,(wU v),0)) λp=>jn (λ(q r:Int)=>bif (r != 0)then p 0 r 0 0 0 else bnd (Qdk N g.h q) λe=>p q e.2 e.1.k e.1.n e.1.Map) λj=>bnd (Qav N g s) λf=>bif (f.2 != 0)then j 0 f.2 else bif (f.1==0)then j 0 5 else j f.1 0
def Qgf(N:Nat)(h:Wm)(g e:Int):Option (Int×Int):=bnd (Qdk N h g) λf=>bif (f.2 != 0)then some (0,f.2)else bif (decide (e<0))then some (0,2)else bif (decide (e>=f.1.n))then some (0,2)else some ((wU ((wU (g+1))+(wU e))),0)
def Qgg(N:Nat)(f:Wm)(h j:Int):Option (Int×Int):=bnd (Qgf N f h j) λe=>bif (e.2 != 0)then some (0,e.2)else bnd (Qgv N f.w e.1) λg=>some (g.1,g.2)
def Qds(N:Nat)(A:WJ)(I r M:Int):Option (WJ×Int×Int):=bnd (QaJ N A) λJ=>bif (!J)then some ((WJ.mk zHp (Wo.mk [] [] []) (Ws.mk []) (Ws.mk []) [] []),0,19)else bnd (Qat N A) λl=>jn (λ(s e:Int)=>bif (e != 0)then some ((WJ.mk zHp (Wo.mk [] [] []) (Ws.mk []) (Ws.mk []) [] []),0,e)else some (l,s,0)) λB=>jn (λ(u v f:Int)=>bif (f != 0)then B 0 f else bnd (Qgg N l.h u v) λg=>B g.1 g.2) λo=>jn (λ(K D L j w:Int)=>bif (D != 0)then o 0 0 D else bif (decide (r>=(wU j)))then o 0 0 2 else bnd (QcG N (WC.mk L j w) (wI r)) λy=>bif (!(y==false))then o 0 0 4 else o K (wI r) 0) λE=>jn (λ(G H:Int)=>bif (H != 0)then E 0 H 0 0 0 else bnd (Qdk N l.h G) λp=>E G p.2 p.1.k p.1.n p.1.Map) λz=>bnd (Qav N l I) λq=>bif (q.2 != 0)then z 0 q.2 else bif (q.1==0)then z 0 5 else z q.1 0
def QhC(N:Nat)(f:List Int)(g h:Int):Option (List Int×Int):=bnd (QgR N f g [h]) λe=>some (e.1,e.2)
def QeC(N:Nat)(e:Wm)(j k l:Int):Option (Wm×Int):=bnd (Qgf N e j k) λf=>bif (f.2 != 0)then some (zHp,f.2)else bnd (QhC N e.w f.1 l) λg=>bnd (Qfg N e g.1 g.2) λh=>some (h.1,h.2)
def Qdt(N:Nat)(Z:WJ)(a2 z a4:Int):Option (WJ×Int×Int):=bnd (QaJ N Z) λy1=>bif (!y1)then some ((WJ.mk zHp (Wo.mk [] [] []) (Ws.mk []) (Ws.mk []) [] []),0,19)else bnd (Qat N Z) λe=>jn (λ(j A B:Int) (D:List Int) (E:List Wv) (G H:Int)=>bif (j != 0)then some ((WJ.mk zHp (Wo.mk [] [] []) (Ws.mk []) (Ws.mk []) [] []),0,j)else some ((WJ.mk (Wm.mk (WW.mk A B) D E G H) e.l e.g e.v e.P e.R),0,0)) λj5=>jn (λ(I J o:Int)=>bif (o != 0)then j5 o e.h.c.W e.h.c.p e.h.w e.h.p e.h.s e.h.b else bnd (QeC N e.h I J a4) λf=>jn (λ(K L:Int) (M:List Int) (O:List Wv) (S T:Int)=>j5 f.2 K L M O S T) λj4=>bif (f.2==0)then j4 f.1.c.W f.1.c.p f.1.w f.1.p f.1.s f.1.b else j4 e.h.c.W e.h.c.p e.h.w e.h.p e.h.s e.h.b) λr=>jn (λ(x7 x8 x9 q U:Int)=>bif (x8 != 0)then r 0 0 x8 else bif (decide (z>=(wU q)))then r 0 0 2 else bnd (QcG N (WC.mk x9 q U) (wI z)) λV=>bif (!(V==false))then r 0 0 4 else r x7 (wI z) 0) λj2=>jn (λ(x4 x5:Int)=>bif (x5 != 0)then j2 0 x5 0 0 0 else bnd (Qdk N e.h x4) λu=>j2 x4 u.2 u.1.k u.1.n u.1.Map) λY=>bnd (Qav N e a2) λy=>bif (y.2 != 0)then Y 0 y.2 else bif (y.1==0)then Y 0 5 else Y y.1 0
def Qdu(N:Nat)(Y:WJ)(a2 A a4:Int):Option (WJ×Int×Int):=bnd (QaJ N Y) λy1=>bif (!y1)then some ((WJ.mk zHp (Wo.mk [] [] []) (Ws.mk []) (Ws.mk []) [] []),0,19)else bnd (Qat N Y) λe=>jn (λ(B j:Int) (D:List UE) (E:List UJ) (G:List Int)=>bif (j != 0)then some ((WJ.mk zHp (Wo.mk [] [] []) (Ws.mk []) (Ws.mk []) [] []),0,j)else some ((WJ.mk e.h (Wo.mk D E G) e.g e.v e.P e.R),B,0)) λZ=>jn (λ(o p:Int)=>bif (p != 0)then Z 0 p e.l.S e.l.x e.l.i else jn (λ(H I:Int) (J:List UE) (K:List UJ) (L:List Int)=>Z H I J K L) λM=>bif (o==0)then M 0 0 e.l.S e.l.x e.l.i else bnd (QcX N e.l o) λf=>bif (f.2.2.2 != 0)then M 0 f.2.2.2 e.l.S e.l.x e.l.i else bnd (Qbe N (UR.mk 1 f.2.1 f.2.2.1)) λq=>M q.1 q.2 f.1.S f.1.x f.1.i) λj4=>jn (λ(O T r:Int)=>bif (r != 0)then j4 0 r else bnd (Qgg N e.h O T) λs=>j4 s.1 s.2) λw=>jn (λ(x7 x8 x9 u U:Int)=>bif (x8 != 0)then w 0 0 x8 else bif (decide (A>=(wU u)))then w 0 0 2 else bnd (QcG N (WC.mk x9 u U) (wI A)) λV=>bif (!(V==true))then w 0 0 4 else w x7 (wI A) 0) λj2=>jn (λ(x4 x5:Int)=>bif (x5 != 0)then j2 0 x5 0 0 0 else bnd (Qdk N e.h x4) λy=>j2 x4 y.2 y.1.k y.1.n y.1.Map) λW=>bnd (Qav N e a2) λz=>bif (z.2 != 0)then W 0 z.2 else bif (z.1==0)then W 0 5 else W z.1 0
def Qdv(N:Nat)(a0:WJ)(a2 A a4:Int):Option (WJ×Int×Int):=bnd (QaJ N a0) λy1=>bif (!y1)then some ((WJ.mk zHp (Wo.mk [] [] []) (Ws.mk []) (Ws.mk []) [] []),0,19)else bnd (Qat N a0) λe=>jn (λ(o B D:Int) (E:List Int) (G:List Wv) (H I:Int)=>bif (o != 0)then some ((WJ.mk zHp (Wo.mk [] [] []) (Ws.mk []) (Ws.mk []) [] []),0,o)else some ((WJ.mk (Wm.mk (WW.mk B D) E G H I) e.l e.g e.v e.P e.R),0,0)) λJ=>jn (λ(K L q:Int)=>bif (q != 0)then J q e.h.c.W e.h.c.p e.h.w e.h.p e.h.s e.h.b else bnd (Qav N e a4) λj=>bif (j.2 != 0)then J j.2 e.h.c.W e.h.c.p e.h.w e.h.p e.h.s e.h.b else bnd (QeC N e.h K L j.1) λf=>jn (λ(M O:Int) (S:List Int) (T:List Wv) (U V:Int)=>J f.2 M O S T U V) λj4=>bif (f.2==0)then j4 f.1.c.W f.1.c.p f.1.w f.1.p f.1.s f.1.b else j4 e.h.c.W e.h.c.p e.h.w e.h.p e.h.s e.h.b) λu=>jn (λ(x7 x8 x9 r Y:Int)=>bif (x8 != 0)then u 0 0 x8 else bif (decide (A>=(wU r)))then u 0 0 2 else bnd (QcG N (WC.mk x9 r Y) (wI A)) λZ=>bif (!(Z==true))then u 0 0 4 else u x7 (wI A) 0) λj2=>jn (λ(x4 x5:Int)=>bif (x5 != 0)then j2 0 x5 0 0 0 else bnd (Qdk N e.h x4) λy=>j2 x4 y.2 y.1.k y.1.n y.1.Map) λj1=>bnd (Qav N e a2) λz=>bif (z.2 != 0)then j1 0 z.2 else bif (z.1==0)then j1 0 5 else j1 z.1 0
def QcK(N:Nat)(j:WJ)(l o r:Int):Option (WJ×Int×Int):=bnd (QaJ N j) λp=>bif (!p)then some ((WJ.mk zHp (Wo.mk [] [] []) (Ws.mk []) (Ws.mk []) [] []),0,19)else bnd (Qat N j) λg=>jn (λ(q k:Int)=>bif (k != 0)then some ((WJ.mk zHp (Wo.mk [] [] []) (Ws.mk []) (Ws.mk []) [] []),0,k)else some (g,q,0)) λe=>bnd (Qav N g l) λh=>bif (h.2 != 0)then e 0 h.2 else bnd (Qav N g o) λf=>bif (f.2 != 0)then e 0 f.2 else bif (h.1 != f.1)then e 0 f.2 else e 1 0
def QcL(N:Nat)(w:WJ)(A I J:Int):Option (WJ×Int×Int):=bnd (QaJ N w) λB=>bif (!B)then some ((WJ.mk zHp (Wo.mk [] [] []) (Ws.mk []) (Ws.mk []) [] []),0,19)else bnd (Qat N w) λe=>jn (λ(o j:Int) (p:List UE) (q:List UJ) (r:List Int)=>bif (j != 0)then some ((WJ.mk zHp (Wo.mk [] [] []) (Ws.mk []) (Ws.mk []) [] []),0,j)else some ((WJ.mk e.h (Wo.mk p q r) e.g e.v e.P e.R),o,0)) λy=>bnd (Qav N e A) λk=>bif (k.2 != 0)then y 0 k.2 e.l.S e.l.x e.l.i else jn (λ(D E:Int) (G:List UE) (H:List UJ) (s:List Int)=>y D E G H s) λu=>bif (k.1==0)then u 0 0 e.l.S e.l.x e.l.i else bnd (QcX N e.l k.1) λf=>bif (f.2.2.2 != 0)then u 0 f.2.2.2 e.l.S e.l.x e.l.i else bnd (Qbe N (UR.mk 1 f.2.1 f.2.2.1)) λz=>u z.1 z.2 f.1.S f.1.x f.1.i
def Qg9(N:Nat)(h:Wo)(e l:Int):Option (Wo×Int):=bnd (QhQ N h e l) λj=>bif (j.2 != 0)then some ((Wo.mk [] [] []),j.2)else bnd (QdN N h) λf=>bnd (Xb f.S e) λg=>bnd (Xb (f.S.set e.toNat (UE.mk g.J 0 g.V)) e) λk=>some ((Wo.mk ((f.S.set e.toNat (UE.mk g.J 0 g.V)).set e.toNat (UE.mk k.J k.a false)) f.x f.i),0)
def QcM(N:Nat)(u:WJ)(p E G:Int):Option (WJ×Int×Int):=bnd (QaJ N u) λA=>bif (!A)then some ((WJ.mk zHp (Wo.mk [] [] []) (Ws.mk []) (Ws.mk []) [] []),0,19)else bnd (Qat N u) λe=>jn (λ(j:Int) (q:List UE) (r:List UJ) (s:List Int)=>bif (j != 0)then some ((WJ.mk zHp (Wo.mk [] [] []) (Ws.mk []) (Ws.mk []) [] []),0,j)else some ((WJ.mk e.h (Wo.mk q r s) e.g e.v e.P e.R),0,0)) λw=>jn (λ(y H B D:Int)=>bif (y != 0)then w y e.l.S e.l.x e.l.i else bnd (Qg9 N e.l B D) λo=>w o.2 o.1.S o.1.x o.1.i) λk=>bif (p==0)then k 5 0 0 0 else bnd (Qav N e p) λz=>bif (z.2 != 0)then k z.2 0 0 0 else bnd (Qd3 N p) λf=>bif (f.2 != 0)then k f.2 0 0 0 else bif (f.1.Tag != 1)then k 4 0 0 0 else k 0 f.1.Tag f.1.Index f.1.J
def QiK(N:Nat)(f:Ws):Option (Int×Bool):=some ((((f.e.findIdx? λe=>!(e.V||(e.G==4294967295))).getD f.e.length:Nat):Int),((f.e.findIdx? λe=>!(e.V||(e.G==4294967295))).isSome))
def Qha(N:Nat)(h:Ws)(k:Int):Option (Ws×Int×Int×Int):=bnd (QdM N h) λq=>bif (!q)then some ((Ws.mk []),0,0,1)else bnd (QiK N h) λf=>jn (λ(_:Unit)=>bnd (Qfb N h) λj=>jn (λ(l:List WT)=>bnd (Xb l f.1) λg=>some ((Ws.mk (((l.set f.1.toNat (WT.mk (wI (g.G+1)) g.a g.V)).set f.1.toNat (WT.mk (wI (g.G+1)) k g.V)).set f.1.toNat (WT.mk (wI (g.G+1)) k true))),f.1,(wI (g.G+1)),0)) λo=>bif (!f.2)then(grd ((j.e.length+1)*24<=140737488355328) <| o (j.e++[(WT.mk 0 0 false)]))else o j.e) λp=>bif (!f.2)then(bif (decide ((h.e.length:Int)>=64))then some ((Ws.mk []),0,0,18)else p ())else p ()
def QcN(N:Nat)(r:WJ)(y D E:Int):Option (WJ×Int×Int):=bnd (QaJ N r) λz=>bif (!z)then some ((WJ.mk zHp (Wo.mk [] [] []) (Ws.mk []) (Ws.mk []) [] []),0,19)else bnd (Qat N r) λf=>jn (λ(A s:Int) (o:List WT)=>bif (s != 0)then some ((WJ.mk zHp (Wo.mk [] [] []) (Ws.mk []) (Ws.mk []) [] []),0,s)else some ((WJ.mk f.h f.l (Ws.mk o) f.v f.P f.R),A,0)) λp=>jn (λ(B u:Int)=>bif (u != 0)then p 0 u f.g.e else bnd (Qha N f.g B) λj=>bif (j.2.2.2 != 0)then p 0 j.2.2.2 f.g.e else bnd (Qbe N (UR.mk 2 j.2.1 j.2.2.1)) λw=>p w.1 w.2 j.1.e) λq=>bnd (Qav N f y) λk=>bif (k.2 != 0)then q 0 k.2 else bif (k.1==0)then q 0 5 else q k.1 0
def Qgh(N:Nat)(j:Ws)(f o:Int):Option (Ws×Int):=bnd (Qf0 N j f o) λk=>bif (k != 0)then some ((Ws.mk []),k)else bnd (Qfb N j) λh=>bnd (Xb h.e f) λg=>bnd (Xb (h.e.set f.toNat (WT.mk g.G 0 g.V)) f) λl=>some ((Ws.mk ((h.e.set f.toNat (WT.mk g.G 0 g.V)).set f.toNat (WT.mk l.G l.a false))),0)
def QcO(N:Nat)(r:WJ)(p D E:Int):Option (WJ×Int×Int):=bnd (QaJ N r) λz=>bif (!z)then some ((WJ.mk zHp (Wo.mk [] [] []) (Ws.mk []) (Ws.mk []) [] []),0,19)else bnd (Qat N r) λf=>jn (λ(k:Int) (q:List WT)=>bif (k != 0)then some ((WJ.mk zHp (Wo.mk [] [] []) (Ws.mk []) (Ws.mk []) [] []),0,k)else some ((WJ.mk f.h f.l (Ws.mk q) f.v f.P f.R),0,0)) λs=>jn (λ(u G A B:Int)=>bif (u != 0)then s u f.g.e else bnd (Qgh N f.g A B) λw=>s w.2 w.1.e) λo=>bif (p==0)then o 5 0 0 0 else bnd (Qav N f p) λy=>bif (y.2 != 0)then o y.2 0 0 0 else bnd (Qd3 N p) λj=>bif (j.2 != 0)then o j.2 0 0 0 else bif (j.1.Tag != 2)then o 4 0 0 0 else o 0 j.1.Tag j.1.Index j.1.J
def QcP(N:Nat)(r:WJ)(y D E:Int):Option (WJ×Int×Int):=bnd (QaJ N r) λz=>bif (!z)then some ((WJ.mk zHp (Wo.mk [] [] []) (Ws.mk []) (Ws.mk []) [] []),0,19)else bnd (Qat N r) λf=>jn (λ(A s:Int) (o:List WT)=>bif (s != 0)then some ((WJ.mk zHp (Wo.mk [] [] []) (Ws.mk []) (Ws.mk []) [] []),0,s)else some ((WJ.mk f.h f.l f.g (Ws.mk o) f.P f.R),A,0)) λp=>jn (λ(B u:Int)=>bif (u != 0)then p 0 u f.v.e else bnd (Qha N f.v B) λj=>bif (j.2.2.2 != 0)then p 0 j.2.2.2 f.v.e else bnd (Qbe N (UR.mk 3 j.2.1 j.2.2.1)) λw=>p w.1 w.2 j.1.e) λq=>bnd (Qav N f y) λk=>bif (k.2 != 0)then q 0 k.2 else bif (k.1==0)then q 0 5 else q k.1 0
def QcQ(N:Nat)(r:WJ)(p D E:Int):Option (WJ×Int×Int):=bnd (QaJ N r) λz=>bif (!z)then some ((WJ.mk zHp (Wo.mk [] [] []) (Ws.mk []) (Ws.mk []) [] []),0,19)else bnd (Qat N r) λf=>jn (λ(k:Int) (q:List WT)=>bif (k != 0)then some ((WJ.mk zHp (Wo.mk [] [] []) (Ws.mk []) (Ws.mk []) [] []),0,k)else some ((WJ.mk f.h f.l f.g (Ws.mk q) f.P f.R),0,0)) λs=>jn (λ(u G A B:Int)=>bif (u != 0)then s u f.v.e else bnd (Qgh N f.v A B) λw=>s w.2 w.1.e) λo=>bif (p==0)then o 5 0 0 0 else bnd (Qav N f p) λy=>bif (y.2 != 0)then o y.2 0 0 0 else bnd (Qd3 N p) λj=>bif (j.2 != 0)then o j.2 0 0 0 else bif (j.1.Tag != 3)then o 4 0 0 0 else o 0 j.1.Tag j.1.Index j.1.J
def QiD(N:Nat)(f:Wo)(g:Int)(h:Bool):Option (Wo×Int):=bnd (Qdb N f) λk=>bif (!k)then some ((Wo.mk [] [] []),1)else bif (decide (g<0))then some ((Wo.mk [] [] []),1)else bif (decide (g>64))then some ((Wo.mk [] [] []),1)else jn (λ(_:Unit)=>bif (decide ((f.x.length:Int)>=64))then some ((Wo.mk [] [] []),17)else bnd (QdN N f) λe=>grd (e.S.length<=140737488355328) <| grd ((e.x.length+1)*24<=140737488355328) <| some ((Wo.mk e.S (e.x++[(UJ.mk (e.S.length:Int) g h)]) e.i),0)) λj=>bif (!h)then(bif ((f.x.length:Int)==0)then some ((Wo.mk [] [] []),9)else j ())else j ()
def Qh5(N:Nat)(f:Wo)(g:Int):Option (Wo×Int):=bnd (QiD N f g false) λe=>some (e.1,e.2)
def QcR(N:Nat)(k:WJ)(o B D:Int):Option (WJ×Int×Int):=bnd (QaJ N k) λs=>bif (!s)then some ((WJ.mk zHp (Wo.mk [] [] []) (Ws.mk []) (Ws.mk []) [] []),0,19)else bnd (Qat N k) λe=>jn (λ(p:Int) (u:List UE) (w:List UJ) (j:List Int)=>bif (p != 0)then some ((WJ.mk zHp (Wo.mk [] [] []) (Ws.mk []) (Ws.mk []) [] []),0,p)else some ((WJ.mk e.h (Wo.mk u w j) e.g e.v e.P e.R),0,0)) λq=>bif (decide (o>64))then q 1 e.l.S e.l.x e.l.i else bnd (Qh5 N e.l (wI o)) λf=>jn (λ(y:List UE) (z:List UJ) (A:List Int)=>q f.2 y z A) λr=>bif (f.2==0)then r f.1.S f.1.x f.1.i else r e.l.S e.l.x e.l.i
def Qh6(N:Nat)(h:Wo)(f:Int):Option Wo:=bnd (QdN N h) λe=>bnd (Xb e.x f) λg=>grd (0<=0/\0<=g.O/\g.O<=(e.S.length:Int)) <| grd (0<=0/\0<=f/\f<=(e.x.length:Int)) <| some (Wo.mk (e.S.take g.O.toNat) (e.x.take f.toNat) e.i)
def Qit(N:Nat)(e:Wo):Option (Wo×Int):=bnd (Qdb N e) λf=>bif (!f)then some ((Wo.mk [] [] []),1)else bif (decide ((wI ((e.x.length:Int)-1))<0))then some ((Wo.mk [] [] []),9)else bnd (Xb e.x (wI ((e.x.length:Int)-1))) λg=>bif g.B0 then some ((Wo.mk [] [] []),9)else bnd (Qh6 N e (wI ((e.x.length:Int)-1))) λh=>some (h,0)
def QcS(N:Nat)(A:WJ)(D J K:Int):Option (WJ×Int×Int):=bnd (QaJ N A) λE=>bif (!E)then some ((WJ.mk zHp (Wo.mk [] [] []) (Ws.mk []) (Ws.mk []) [] []),0,19)else bnd (Qat N A) λe=>jn (λ(p k:Int) (q:List UE) (r:List UJ) (s:List Int)=>bif (k != 0)then some ((WJ.mk zHp (Wo.mk [] [] []) (Ws.mk []) (Ws.mk []) [] []),0,k)else some ((WJ.mk e.h (Wo.mk q r s) e.g e.v e.P e.R),p,0)) λu=>bnd (Qav N e D) λo=>bif (o.2 != 0)then u 0 o.2 e.l.S e.l.x e.l.i else bnd (Qit N e.l) λf=>bif (f.2 != 0)then u 0 f.2 e.l.S e.l.x e.l.i else jn (λ(G H:Int) (I:List UE) (w:List UJ) (y:List Int)=>u G H I w y) λz=>bif (o.1==0)then z 0 0 f.1.S f.1.x f.1.i else bnd (QcX N f.1 o.1) λj=>bif (j.2.2.2 != 0)then z 0 j.2.2.2 f.1.S f.1.x f.1.i else bnd (Qbe N (UR.mk 1 j.2.1 j.2.2.1)) λB=>z B.1 B.2 j.1.S j.1.x j.1.i
def QfD(N:Nat)(f:Wm)(g:Int):Option Bool:=bnd (QdU N f) λe=>bif (e.2 != 0)then some false else bnd (Qau N e.1 g) λh=>some h.2
def QdG(N:Nat)(e:Wm):Nat->Int->Int->Option Int
 |0,_,_=>none
 |n+1,g,f=>
  bif (decide (f<(e.p.length:Int)))then(bnd (Xb e.p f) λh=>
   bif (h.k==1)then(bif (decide (h.P>0))then QdG N e n (wI (g+1)) (wI (f+1))
    else QdG N e n g (wI (f+1)))
   else QdG N e n g (wI (f+1)))
  else some g
def Qfc(N:Nat)(e:Wm)(f:Int):Option Bool:=bnd (QfO N e) λh=>bif (!h)then some false else bnd (QfD N e f) λj=>bif (!j)then some false else bnd (Qcc N e.c f) λl=>bnd (Xb e.p l.1) λg=>bif (g.k != 1)then some false else bif (decide (g.P>0))then some false else bnd (QdG N e N 0 0) λo=>some (decide (o>=(wI (e.c.p.tdiv 4))))
def QgJ(N:Nat)(g:Wm)(e:Int):Option (Int×Int×Int):=bnd (Qdk N g e) λf=>bif (f.2 != 0)then some (0,0,f.2)else some ((wU (e+1)),(wU ((wU (e+1))+(wU f.1.n))),0)
def QfQ(N:Nat)(e:Wm)(j l:Int):Option Wm:=bnd (Qcc N e.c j) λf=>bnd (Qad N e.w) λo=>bnd (Qab N e.p) λg=>bnd (Xb g f.1) λq=>bnd (Xb g f.1) λh=>some (Wm.mk e.c o (g.set f.1.toNat (Wv.mk h.k h.s h.u (wI (q.P+l)))) e.s e.b)
def Qjf(N:Nat)(g:Wm)(k:List Ux)(f:Int):Option (Wm×List Ux×Int×Int):=bnd (Qg5 N g k) λv=>bif (!v)then some (zHp,[],0,19)else bnd (QeJ N k f) λl=>bif (f==0)then some (zHp,[],0,5)else bnd (QfD N g f) λw=>bif (!w)then some (zHp,[],0,1)else jn (λ(_:Unit)=>bnd (QgJ N g f) λp=>bif (p.2.2 != 0)then some (zHp,[],0,p.2.2)else bnd (Qar N k) λe=>jn (λ(h:Int) (j:List Ux)=>bnd (Xb j h) λq=>bnd (Xb j h) λr=>bnd (QfQ N g f 1) λs=>some (s,(j.set h.toNat (Ux.mk r.a (wI (q.M+1)))),p.1,0)) λu=>bif (l==(-1))then(grd (e.length<=140737488355328) <| grd ((e.length+1)*16<=140737488355328) <| u (e.length:Int) (e++[(Ux.mk f 0)]))else u l e) λo=>bif (l != (-1))then(bnd (Xb k l) λy=>bif (decide (y.M>=1000))then some (zHp,[],0,18)else bif (l==(-1))then(bif (decide ((k.length:Int)>=64))then some (zHp,[],0,18)else bnd (Qfc N g f) λz=>bif z then some (zHp,[],0,18)else o ())else bnd (Qfc N g f) λA=>bif A then some (zHp,[],0,18)else o ())else bif (l==(-1))then(bif (decide ((k.length:Int)>=64))then some (zHp,[],0,18)else bnd (Qfc N g f) λB=>bif B then some (zHp,[],0,18)else o ())else bnd (Qfc N g f) λD=>bif D then some (zHp,[],0,18)else o ()
def QcT(N:Nat)(p:WJ)(q u w:Int):Option (WJ×Int×Int):=bnd (QaJ N p) λr=>bif (!r)then some ((WJ.mk zHp (Wo.mk [] [] []) (Ws.mk []) (Ws.mk []) [] []),0,19)else bnd (Qat N p) λe=>jn (λ(s k:Int)=>bif (k != 0)then(bif (k != 0)then some ((WJ.mk zHp (Wo.mk [] [] []) (Ws.mk []) (Ws.mk []) [] []),0,k)else some (e,0,0))else bnd (Qjf N e.h e.P s) λf=>bif (f.2.2.2 != 0)then(bif (f.2.2.2 != 0)then some ((WJ.mk zHp (Wo.mk [] [] []) (Ws.mk []) (Ws.mk []) [] []),0,f.2.2.2)else some (e,0,0))else some ((WJ.mk f.1 e.l e.g e.v f.2.1 e.R),f.2.2.1,0)) λo=>bnd (Qav N e q) λj=>bif (j.2 != 0)then o 0 j.2 else bif (j.1==0)then o 0 5 else o j.1 0
def QhD(N:Nat)(k:Wm)(l:List Ux)(j:Int):Option (Wm×List Ux×Int):=bnd (QeJ N l j) λe=>bnd (Qg5 N k l) λq=>bif (!q)then some (zHp,[],19)else bif (j==0)then some (zHp,[],5)else bif (e==(-1))then some (zHp,[],12)else bnd (Qar N l) λf=>bnd (Xb f e) λg=>bnd (Xb f e) λh=>bnd (Xb (f.set e.toNat (Ux.mk h.a (wI (g.M-1)))) e) λr=>bif (r.M==0)then(grd (f.length<=140737488355328) <| grd (0<=e/\e<=(wI (e+1))/\(wI (e+1))<=(f.length:Int)/\(f.length:Int)<=(f.length:Int)) <| bif (e==(wI (e+1)))then(bnd (QfQ N k j (-1)) λs=>some (s,(f.set e.toNat (Ux.mk h.a (wI (g.M-1)))),0))else grd (f.length<=140737488355328) <| grd (0<=e/\e<=(f.length:Int)) <| grd (0<=(wI (e+1))/\(wI (e+1))<=(f.length:Int)/\(f.length:Int)<=(f.length:Int)) <| grd (e.toNat≠f.length/\(e.toNat+(f.length-(wI (e+1)).toNat))<=f.length) <| grd ((e.toNat+(f.length-(wI (e+1)).toNat))<=140737488355328) <| grd ((e.toNat+(f.length-(wI (e+1)).toNat))≠(((min e.toNat f.length)+(f.length-(wI (e+1)).toNat))+(f.length-(e.toNat+(f.length-(wI (e+1)).toNat))))/\0<=(((e.toNat+(f.length-(wI (e+1)).toNat)):Nat):Int)/\(((e.toNat+(f.length-(wI (e+1)).toNat)):Nat):Int)<=(f.length:Int)/\(f.length:Int)<=(((((min e.toNat f.length)+(f.length-(wI (e+1)).toNat))+(f.length-(e.toNat+(f.length-(wI (e+1)).toNat)))):Nat):Int)) <| bnd (QfQ N k j (-1)) λo=>some (o,((((((((f.set e.toNat (Ux.mk h.a (wI (g.M-1)))).take e.toNat)++(((f.set e.toNat (Ux.mk h.a (wI (g.M-1)))).drop (wI (e+1)).toNat).take (f.length-(wI (e+1)).toNat)))++((f.set e.toNat (Ux.mk h.a (wI (g.M-1)))).drop (e.toNat+(f.length-(wI (e+1)).toNat)))).take (((e.toNat+(f.length-(wI (e+1)).toNat)):Nat):Int).toNat)++(List.replicate ((f.length:Int).toNat-(((e.toNat+(f.length-(wI (e+1)).toNat)):Nat):Int).toNat) (Ux.mk 0 0)))++(((((f.set e.toNat (Ux.mk h.a (wI (g.M-1)))).take e.toNat)++(((f.set e.toNat (Ux.mk h.a (wI (g.M-1)))).drop (wI (e+1)).toNat).take (f.length-(wI (e+1)).toNat)))++((f.set e.toNat (Ux.mk h.a (wI (g.M-1)))).drop (e.toNat+(f.length-(wI (e+1)).toNat)))).drop ((((e.toNat+(f.length-(wI (e+1)).toNat)):Nat):Int).toNat+((f.length:Int).toNat-(((e.toNat+(f.length-(wI (e+1)).toNat)):Nat):Int).toNat)))).take (e.toNat+(f.length-(wI (e+1)).toNat))),0))else bnd (QfQ N k j (-1)) λp=>some (p,(f.set e.toNat (Ux.mk h.a (wI (g.M-1)))),0)
def QcU(N:Nat)(p:WJ)(q u w:Int):Option (WJ×Int×Int):=bnd (QaJ N p) λr=>bif (!r)then some ((WJ.mk zHp (Wo.mk [] [] []) (Ws.mk []) (Ws.mk []) [] []),0,19)else bnd (Qat N p) λe=>jn (λ(s k:Int)=>bif (k != 0)then(bif (k != 0)then some ((WJ.mk zHp (Wo.mk [] [] []) (Ws.mk []) (Ws.mk []) [] []),0,k)else some (e,0,0))else bnd (QhD N e.h e.P s) λf=>bif (f.2.2 != 0)then(bif (f.2.2 != 0)then some ((WJ.mk zHp (Wo.mk [] [] []) (Ws.mk []) (Ws.mk []) [] []),0,f.2.2)else some (e,0,0))else some ((WJ.mk f.1 e.l e.g e.v f.2.1 e.R),0,0)) λo=>bnd (Qav N e q) λj=>bif (j.2 != 0)then o 0 j.2 else bif (j.1==0)then o 0 5 else o j.1 0
def Qd4(N:Nat)(e:WJ)(f g h j:Int):Option (WJ×Int×Int):=bif (f==1)then Qdn N e g h j else bif (f==2)then Qdo N e g h j else bif (f==3)then Qdp N e g h j else bif (f==4)then Qdq N e g h j else bif (f==5)then Qdr N e g h j else bif (f==6)then Qds N e g h j else bif (f==7)then Qdt N e g h j else bif (f==8)then Qdu N e g h j else bif (f==9)then Qdv N e g h j else bif (f==10)then QcK N e g h j else bif (f==11)then QcL N e g h j else bif (f==12)then QcM N e g h j else bif (f==13)then QcN N e g h j else bif (f==14)then QcO N e g h j else bif (f==15)then QcP N e g h j else bif (f==16)then QcQ N e g h j else bif (f==17)then QcR N e g h j else bif (f==18)then QcS N e g h j else bif (f==19)then QcT N e g h j else bif (f==20)then QcU N e g h j else Qfo N e f g h j
def Qcr(N:Nat)(h j:List Wv):Nat->Int->Option (Ex Bool Unit)
 |0,_=>none
 |n+1,e=>
  bif (decide (e<(h.length:Int)))then(bnd (Xb h e) λf=>
   bnd (Xb j e) λg=>
   bif (!((f.k==g.k)&&((f.s==g.s)&&((f.u==g.u)&&(f.P==g.P)))))then some (.ret false)
   else Qcr N h j n (wI (e+1)))
  else some (.nxt ())
def QfR(N:Nat)(f g:List Wv):Option Bool:=bif ((f.length:Int) != (g.length:Int))then some false else bnd (Qcr N f g N 0) λe=>exK e (λr=>some r) λh=>some true
def QeQ(N:Nat)(f g:Wm):Nat->Int->Option (Ex Bool Unit)
 |0,_=>none
 |n+1,e=>
  bif (decide (e<(f.w.length:Int)))then(bnd (Xb f.w e) λh=>
   bnd (Xb g.w e) λj=>
   bif (h != j)then some (.ret false)
   else QeQ N f g n (wI (e+1)))
  else some (.nxt ())
def Qh7(N:Nat)(f g:Wm):Option Bool:=bif (!((f.c.W==g.c.W)&&(f.c.p==g.c.p)))then some false else bif (f.s != g.s)then some false else bif (f.b != g.b)then some false else bnd (QfR N f.p g.p) λh=>bif (!h)then some false else bif ((f.w.length:Int) != (g.w.length:Int))then some false else bnd (QeQ N f g N 0) λe=>exK e (λr=>some r) λj=>some true
def QeR(N:Nat)(f j:Wo):Nat->Int->Option (Ex Bool Unit)
 |0,_=>none
 |n+1,e=>
  bif (decide (e<(f.S.length:Int)))then(bnd (Xb f.S e) λg=>
   bnd (Xb j.S e) λh=>
   bif (!((g.J==h.J)&&((g.a==h.a)&&(g.V==h.V))))then some (.ret false)
   else QeR N f j n (wI (e+1)))
  else some (.nxt ())
def QeS(N:Nat)(f j:Wo):Nat->Int->Option (Ex Bool Unit)
 |0,_=>none
 |n+1,e=>
  bif (decide (e<(f.x.length:Int)))then(bnd (Xb f.x e) λg=>
   bnd (Xb j.x e) λh=>
   bif (!((g.O==h.O)&&((g.C0==h.C0)&&(g.B0==h.B0))))then some (.ret false)
   else QeS N f j n (wI (e+1)))
  else some (.nxt ())
def QeT(N:Nat)(f j:Wo):Nat->Int->Option (Ex Bool Unit)
 |0,_=>none
 |n+1,e=>
  bif (decide (e<(f.i.length:Int)))then(bnd (Xb f.i e) λg=>
   bnd (Xb j.i e) λh=>
   bif (g != h)then some (.ret false)
   else QeT N f j n (wI (e+1)))
  else some (.nxt ())
def Qh8(N:Nat)(f g:Wo):Option Bool:=bif ((f.S.length:Int) != (g.S.length:Int))then some false else bif ((f.x.length:Int) != (g.x.length:Int))then some false else bif ((f.i.length:Int) != (g.i.length:Int))then some false else bnd (QeR N f g N 0) λe=>exK e (λr=>some r) λj=>bnd (QeS N f g N 0) λe=>exK e (λr=>some r) λk=>bnd (QeT N f g N 0) λe=>exK e (λr=>some r) λh=>some true
def QeU(N:Nat)(g k:Ws):Nat->Int->Option (Ex Bool Unit)
 |0,_=>none
 |n+1,f=>
  bif (decide (f<(g.e.length:Int)))then(bnd (Xb g.e f) λh=>
   bnd (Xb k.e f) λj=>
   bif (!((h.G==j.G)&&((h.a==j.a)&&(h.V==j.V))))then some (.ret false)
   else QeU N g k n (wI (f+1)))
  else some (.nxt ())
def Qho(N:Nat)(f g:Ws):Option Bool:=bif ((f.e.length:Int) != (g.e.length:Int))then some false else bnd (QeU N f g N 0) λe=>exK e (λr=>some r) λh=>some true
def QeV(N:Nat)(f g:List Ux):Nat->Int->Option (Ex Bool Unit)
 |0,_=>none
 |n+1,e=>
  bif (decide (e<(f.length:Int)))then(bnd (Xb f e) λh=>
   bnd (Xb g e) λj=>
   bif (!((h.a==j.a)&&(h.M==j.M)))then some (.ret false)
   else QeV N f g n (wI (e+1)))
  else some (.nxt ())
def Qh9(N:Nat)(f g:List Ux):Option Bool:=bif ((f.length:Int) != (g.length:Int))then some false else bnd (QeV N f g N 0) λe=>exK e (λr=>some r) λh=>some true
def QeW(N:Nat)(f g:List Int):Nat->Int->Option (Ex Bool Unit)
 |0,_=>none
 |n+1,e=>
  bif (decide (e<(f.length:Int)))then(bnd (Xb f e) λh=>
   bnd (Xb g e) λj=>
   bif (h != j)then some (.ret false)
   else QeW N f g n (wI (e+1)))
  else some (.nxt ())
def Qia(N:Nat)(f g:List Int):Option Bool:=bif ((f.length:Int) != (g.length:Int))then some false else bnd (QeW N f g N 0) λe=>exK e (λr=>some r) λh=>some true
def Qib(N:Nat)(e f:WJ):Option Bool:=bnd (Qh7 N e.h f.h) λj=>bif j then(bnd (Qh8 N e.l f.l) λk=>bif k then(bnd (Qho N e.g f.g) λo=>bif o then(bnd (Qho N e.v f.v) λp=>bif p then(bnd (Qh9 N e.P f.P) λq=>bif q then(bnd (Qia N e.R f.R) λr=>some r)else some false)else some false)else some false)else some false)else some false
def QhE(N:Nat):Option Bool:=bnd (Qir N [] 0) λg=>bnd (Qd4 N g.N 3 3 0 0) λe=>bnd (Qd4 N e.1 4 e.2.1 0 0) λf=>bif (e.2.2==0)then(bif (f.2.2==0)then(bif (e.2.1==262145)then some (f.2.1==3)else some false)else some false)else some false
def QbB(N:Nat)(g:Iz)(j:List WJ):Nat->Int->(List Int)->Int->(List IJ)->Option (List IJ)
 |0,_,_,_,_=>none
 |n+1,h,k,l,e=>
  bif (decide (h<4))then(bnd (Qdx N g (U0.mk k l)) λf=>
   grd ((e.length+1)*32<=140737488355328) <|
   QbB N g j n (wI (h+1)) f.2.L f.2.at_ (e++[f.1]))
  else some e
def Qa9(N:Nat)(p:List WJ)(f:List IJ)(g:WJ)(l:Int):Nat->Int->Option (Ex Bool Unit)
 |0,_=>none
 |n+1,h=>
  bif (decide (h<(f.length:Int)))then(bnd (Xb f h) λe=>
   bnd (Qd4 N g e.Op e.A e.B e.C) λj=>
   bnd (Qaf N g e.Op e.A e.B e.C) λk=>
   bif (j.2.2 != k.2.2)then some (.ret false)
   else bif (j.2.1 != k.2.1)then some (.ret false)
   else bnd (Qib N j.1 k.1) λo=>
   bif (!o)then some (.ret false)
   else Qa9 N p f g l n (wI (h+1)))
  else some (.nxt ())
def QaU(N:Nat)(h:List WJ)(g:List IJ):Nat->Int->Option (Ex Bool Unit)
 |0,_=>none
 |n+1,f=>
  bif (decide (f<(h.length:Int)))then(bnd (Xb h f) λj=>
   grd (g.length<=140737488355328) <|
   bnd (Qa9 N h g j f N 0) λe=>exK e (λr=>some (.ret r)) λk=>
   QaU N h g n (wI (f+1)))
  else some (.nxt ())
def Qd7(N:Nat)(l:WJ)(v w:List Int)(o p q s:Int):Option Bool:=bnd (Qir N v 60) λf=>bnd (Qg4 N f.N (U0.mk w 0)) λg=>bnd (QhH N l) λy=>jn (λ(h:List WJ)=>bnd (QbB N f h N 0 g.2.L g.2.at_ [(IJ.mk o p q s),(IJ.mk (wI ((o.tmod 21)+1)) (p.tmod 1048576) (q.tmod 4) s)]) λj=>grd (h.length<=140737488355328) <| bnd (QaU N h j N 0) λe=>exK e (λr=>some r) λz=>bnd (QhE N) λk=>some k) λu=>bif y then u [f.N,g.1,l]else u [f.N,g.1]
end Go.Sx
