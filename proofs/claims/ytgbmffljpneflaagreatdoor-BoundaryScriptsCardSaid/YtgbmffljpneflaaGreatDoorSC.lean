import Derived.Test.YtgbmffljpneflaaGreatDoorSA
set_option linter.all false
namespace Go.Sx
structure WV where
 W:Int
 p:Int
structure Wv where
 k:Int
 s:Int
 u:Int
 P:Int
structure Wo where
 c:WV
 w:List Int
 p:List Wv
 s:Int
 b:Int
structure UA where
 J:Int
 a:Int
 V:Bool
structure UG where
 O:Int
 C0:Int
 B0:Bool
structure Wm where
 S:List UA
 x:List UG
 i:List Int
structure WQ where
 G:Int
 a:Int
 V:Bool
structure Wr where
 e:List WQ
structure Uz where
 a:Int
 M:Int
structure WI where
 h:Wo
 l:Wm
 g:Wr
 v:Wr
 P:List Uz
 R:List Int
structure WC where
 k:Int
 n:Int
 Map:Int
structure Ii where
 H:WC
 D:List Int
structure Is where
 I:Int
 M:Int
 B0:Int
structure WU where
 c:WV
 T:List Ii
 l:Wm
 g:Wr
 v:Wr
 m:List Is
 R:List Int
structure Ik where
 N:WI
 z:WU
 w:List Int
structure Ig where
 L:List Int
 at_:Int
structure Ol where
 Op:Int
 A:Int
 B:Int
 C:Int
structure OE where
 h:Wo
 Strong:List Int
 Weak:List Int
structure WP where
 j:Int
 K:Int
 F:Int
 E:Int
 f:Int
 y:Int
structure Oo where
 Failed:Bool
 Collected:Bool
 B0:Int
structure UM where
 Tag:Int
 Index:Int
 J:Int
structure I7 where
 l:Wm
structure UB where
 Width:Int
 Value:Int
structure WD where
 h:Wo
 o:List Int
 t:List Int
 q:List Int
 d:Int
 r:WP
structure IW where
 page:Int
 offset:Int
structure Ud where
 Fault:Int
 Page:Int
 Addr:Int
structure UN where
 addr:Int
 hd:WC
structure Oj where
 O:Int
 Len:Int
@[simp] abbrev zWd:WU:=WU.mk (WV.mk 0 0) [] (Wm.mk [] [] []) (Wr.mk []) (Wr.mk []) [] []
@[simp] abbrev zHp:Wo:=Wo.mk (WV.mk 0 0) [] [] 0 0
def Qai(N:Nat)(e:Ig)(f:Int):Option (Int×Ig):=bif (decide (f<1))then some (0,e)else jn (λ(h:Int)=>grd (f≠0) <| grd (f≠0) <| some (((wI ((h.tmod f)+f)).tmod f),(Ig.mk e.L (wI (e.at_+1))))) λg=>bif (decide (e.at_<(e.L.length:Int)))then(bnd (Xb e.L e.at_) λj=>g j)else g (wI ((wI (e.at_*7))+3))
def QbX(N:Nat)(f:Ik)(s:Ig):Option (Int×Ig):=bnd (Qai N s 14) λe=>bif (e.1==0)then(bnd (Qai N e.2 8) λk=>bnd (Xb [0,1,262145,262146,524289,1125899906842624,4097,262149] k.1) λu=>some (u,k.2))else bif (e.1==1)then(bnd (Qai N e.2 (f.w.length:Int)) λl=>bnd (Xb f.w l.1) λv=>bnd (Qai N l.2 3) λo=>some ((wU (v+(wU o.1))),o.2))else jn (λ(y:Bool)=>bif y then(bnd (Qai N e.2 (f.w.length:Int)) λp=>bnd (Xb f.w p.1) λh=>some (h,p.2))else bnd (Qai N e.2 (if 6<(f.w.length:Int)then 6 else(f.w.length:Int))) λg=>bnd (Xb f.w (wI ((wI ((f.w.length:Int)-1))-g.1))) λj=>some (j,g.2)) λq=>bif (e.1==2)then q true else jn (λ(z:Bool)=>q z) λr=>bif (e.1==3)then r true else r (e.1==4)
def Qdk(N:Nat)(u:Ik)(G:Ig):Option (Ol×Ig):=bnd (Qai N G 32) λl=>bnd (Xb [1,1,2,2,3,4,5,6,7,7,8,8,9,9,9,10,11,12,12,13,14,15,16,17,18,19,19,20,20,0,0,21] l.1) λe=>bif (e==1)then(bnd (Qai N l.2 4) λv=>grd (0<=(wU v.1)) <| bnd (Qai N v.2 (ZP .i64 1 (wU v.1))) λz=>some ((Ol.mk e (wU v.1) (wU z.1) 0),z.2))else jn (λ(H:Bool)=>bif H then(bnd (Qai N l.2 4) λA=>bnd (Qai N A.2 9) λw=>bif (w.1==0)then(bnd (Qai N w.2 70) λB=>some ((Ol.mk e (wU B.1) 0 0),B.2))else some ((Ol.mk e (wU A.1) 0 0),w.2))else bif (e==17)then(bnd (Qai N l.2 9) λD=>some ((Ol.mk e (wU D.1) 0 0),D.2))else bnd (QbX N u l.2) λg=>bnd (Qai N g.2 4) λo=>bnd (Qai N o.2 1000) λh=>jn (λ(p:List Int) (q:Int) (r:Int)=>bif (e==10)then(bnd (QbX N u (Ig.mk p q)) λs=>some ((Ol.mk e g.1 s.1 r),s.2))else some ((Ol.mk e g.1 (wU o.1) r),(Ig.mk p q))) λy=>bif (e==9)then(bnd (QbX N u h.2) λj=>y j.2.L j.2.at_ j.1)else bnd (Qai N h.2 9) λf=>bif (f.1==0)then(bnd (QbX N u f.2) λk=>y k.2.L k.2.at_ k.1)else y f.2.L f.2.at_ (wU h.1)) λE=>bif (e==2)then E true else E (e==3)
def Qg7(N:Nat)(g:Ig):Option (WV×Ig):=bnd (Qai N g 4) λe=>bnd (Xb [16,16,20,32] e.1) λh=>bnd (Qai N e.2 5) λf=>bnd (Xb [8,12,16,20,24] f.1) λj=>some ((WV.mk h j),f.2)
def QaW(N:Nat)(e:WV):Option Bool:=bif (decide (e.W>=16))then(bif (decide (e.W<=64))then(bif ((e.W.tmod 4)==0)then(bif (decide (e.p>=8))then some (decide (e.p<=64))else some false)else some false)else some false)else some false
def QhD(N:Nat)(e:WV):Option (Wo×Int):=bnd (QaW N e) λf=>bif (!f)then some (zHp,1)else grd (0<=(wI (e.p*e.W))/\(wI (e.p*e.W)).toNat*8<=140737488355328) <| grd (0<=e.p/\e.p.toNat*32<=140737488355328) <| some ((Wo.mk e (List.replicate (wI (e.p*e.W)).toNat (0:Int)) (List.replicate e.p.toNat (Wv.mk 0 0 0 0)) 0 (-1)),0)
def QgU(N:Nat)(f:WV):Option (WI×Int):=bnd (QhD N f) λe=>some ((WI.mk e.1 (Wm.mk [] [] []) (Wr.mk []) (Wr.mk []) [] []),e.2)
def QgV(N:Nat)(e:WV):Option (WU×Int):=bnd (QaW N e) λf=>bif (!f)then some (zWd,1)else some ((WU.mk e [] (Wm.mk [] [] []) (Wr.mk []) (Wr.mk []) [] []),0)
def Qca(N:Nat)(o:Ig):Option (Ik×Ig):=bnd (Qg7 N o) λj=>bnd (QgU N j.1) λf=>bnd (QgV N j.1) λe=>bnd (Qai N j.2 40) λk=>some ((Ik.mk (WI.mk f.1.h (Wm.mk f.1.l.S [(UG.mk 0 (wI (4+k.1)) true)] f.1.l.i) f.1.g f.1.v f.1.P f.1.R) (WU.mk e.1.c e.1.T (Wm.mk e.1.l.S [(UG.mk 0 (wI (4+k.1)) true)] e.1.l.i) e.1.g e.1.v e.1.m e.1.R) [0]),k.2)
def Qf1(N:Nat)(e:Ig):Option Bool:=some (decide (e.at_>=(e.L.length:Int)))
def Qf2(N:Nat)(e:List Int)(g:Int):Nat->Int->Option (Ex Bool Unit)
 |0,_=>none
 |n+1,f=>
  bif (decide (f<(e.length:Int)))then(bnd (Xb e f) λh=>
   bif (h==g)then some (.ret true)
   else Qf2 N e g n (wI (f+1)))
  else some (.nxt ())
def Qdl(N:Nat)(f:List Int)(g:Int):Option Bool:=bnd (Qf2 N f g N 0) λe=>exK e (λr=>some r) λh=>some false
def QdZ(N:Nat)(e:WV):Option Int:=bnd (QaW N e) λf=>bif (!f)then some 0 else some (wI (e.W.tdiv 4))
def QcY(N:Nat)(f:WV)(g:Int):Nat->Int->Option (Ex Int Unit)
 |0,_=>none
 |n+1,e=>
  bif (decide (e<=4))then(bif (decide ((wI (e*f.W))>=g))then some (.ret e)
   else QcY N f g n (wI (e+1)))
  else some (.nxt ())
def Qfx(N:Nat)(f:WV)(g:Int):Option Int:=bnd (QaW N f) λh=>bif (!h)then some (-1)else bif (decide (g<1))then some (-1)else bnd (QdZ N f) λj=>bif (decide (g<=j))then some 0 else bnd (QcY N f g N 1) λe=>exK e (λr=>some r) λk=>some (-1)
def QhM(N:Nat)(e:Int):Option Bool:=bif (decide (e>=0))then some (decide (e<=2147483647))else some false
def Qd0(N:Nat)(e:List Wv)(h:Int):Nat->Int->Int->Option Int
 |0,_,_=>none
 |n+1,f,g=>
  bif (decide (g<(e.length:Int)))then(bnd (Xb e g) λj=>
   bif (j.k==3)then(bnd (Xb e g) λl=>
    bif (l.s==h)then Qd0 N e h n (wI (f+1)) (wI (g+1))
    else some f)
   else some f)
  else some f
def QfM(N:Nat)(e:List Wv)(f:Int)(g:Int):Option Int:=bnd (Qd0 N e g N 0 (wI (f+1))) λh=>some h
def QaL(N:Nat)(f:Wo):Nat->Int->Int->Option (Ex Bool Unit)
 |0,_,_=>none
 |n+1,h,j=>
  bif (decide (j<(f.p.length:Int)))then(bnd (Xb f.p j) λe=>
   bif (!((e.k==3)==(decide (h>0))))then some (.ret false)
   else bif (decide (e.s<0))then some (.ret false)
   else bif (decide (e.s>1))then some (.ret false)
   else bnd (QhM N e.P) λw=>
   bif (!w)then some (.ret false)
   else jn (λ(g:Int)=>
    QaL N f n (if 0<(wI (g-1))then(wI (g-1))else 0) (wI (j+1))) λq=>
   bif (e.k==0)then(bif (!((e.k==0)&&((e.s==0)&&((e.u==0)&&(e.P==0)))))then some (.ret false)
    else q h)
   else jn (λ(l:Int)=>
    q l) λr=>
   bif (e.k==1)then(bif (decide (e.u<0))then some (.ret false)
    else bif (decide (e.u>f.c.W))then some (.ret false)
    else r h)
   else jn (λ(y:Int)=>
    r y) λv=>
   bif (e.k==2)then(bnd (Qfx N f.c e.u) λo=>
    bif (decide (o<1))then some (.ret false)
    else bnd (QfM N f.p j e.s) λz=>
    bif (decide (z<(wI (o-1))))then some (.ret false)
    else v o)
   else bif (e.k==3)then(bif (e.u != 0)then some (.ret false)
    else bif (e.P != 0)then some (.ret false)
    else v h)
   else some (.ret false))
  else some (.nxt ())
def Qac(N:Nat)(f:Wo):Option Bool:=bnd (QaW N f.c) λh=>bif (!h)then some false else bif ((f.w.length:Int) != (wI (f.c.p*f.c.W)))then some false else bif ((f.p.length:Int) != f.c.p)then some false else bif (decide (f.s<0))then some false else bif (decide (f.s>1))then some false else jn (λ(_:Unit)=>bnd (QaL N f N 0 0) λe=>exK e (λr=>some r) λj=>some true) λg=>bif (f.b != (-1))then(bif (decide (f.b<0))then some false else bif (decide (f.b>=(f.p.length:Int)))then some false else bnd (Xb f.p f.b) λl=>bif (l.k != 1)then some false else g ())else g ()
def Qdu(N:Nat)(e:WC):Option Bool:=bif (decide (e.k<0))then some false else bif (decide (e.k>3))then some false else bif (decide (e.n<0))then some false else bif (decide (e.n>255))then some false else bif (e.k != 1)then some (e.Map==0)else bif (decide (e.n<=32))then(grd (0<=(wU e.n)) <| some (decide ((wU e.Map)<(ZP .u64 1 (wU e.n)))))else some false
def QcZ(N:Nat)(e:WC):Option Int:=bnd (Qdu N e) λf=>bif (!f)then some 0 else some (wI (e.n+1))
def Qea(N:Nat)(f:List Int)(e:Int)(g:Int):Option (Int×Bool):=bif (decide (e<4096))then some (0,false)else bif (decide (e>(wU (4096+(wU (f.length:Int))))))then some (0,false)else some ((wI (wU (e-4096))),(decide (g<=(wI ((f.length:Int)-(wI (wU (e-4096))))))))
def QgG(N:Nat)(f:List Int)(g:Int):Option (Int×Int):=bnd (Qea N f g 1) λe=>bif (!e.2)then some (0,2)else some (e.1,0)
def Qbl(N:Nat)(f:List Int)(g:Int):Option (Int×Int):=bnd (QgG N f g) λe=>bif (e.2 != 0)then some (0,e.2)else bnd (Xb f e.1) λh=>some (h,0)
def Qc8(N:Nat)(e:WV)(f:Int):Option (Int×Int×Int):=bnd (QaW N e) λg=>bif (!g)then some (0,0,1)else bif (decide (f<4096))then some (0,0,2)else bif (decide (f>=(wU (wI (4096+(wI (e.p*e.W)))))))then some (0,0,2)else grd (e.W≠0) <| grd (e.W≠0) <| some ((wI ((wI (wU (f-4096))).tdiv e.W)),((wI (wU (f-4096))).tmod e.W),0)
def QcM(N:Nat)(e:WC):Option (Int×Int):=bnd (Qdu N e) λf=>bif (!f)then some (0,1)else some ((wU ((wU ((wU (1+(wU (4*(wU e.k)))))+(wU (16*(wU e.n)))))+(ZP .u64 (wU e.Map) 16))),0)
def QcN(N:Nat)(e:Int):Option (WC×Bool):=bnd (QcM N (WC.mk (wI (Y2 .u64 (YC .u64 e 2) 3)) (wI (Y2 .u64 (YC .u64 e 4) 4095)) (wW (YC .u64 e 16)))) λf=>bif (f.2 != 0)then some ((WC.mk 0 0 0),false)else bif (f.1 != e)then some ((WC.mk 0 0 0),false)else some ((WC.mk (wI (Y2 .u64 (YC .u64 e 2) 3)) (wI (Y2 .u64 (YC .u64 e 4) 4095)) (wW (YC .u64 e 16))),true)
def Qar(N:Nat)(h:Wo)(l:Int):Option (WC×Int):=bnd (Qac N h) λq=>bif (!q)then some ((WC.mk 0 0 0),1)else bnd (Qc8 N h.c l) λf=>bif (f.2.2 != 0)then some ((WC.mk 0 0 0),2)else bnd (Xb h.p f.1) λe=>bnd (Qbl N h.w l) λr=>bnd (QcN N r.1) λg=>jn (λ(_:Unit)=>bnd (QcZ N g.1) λj=>bif (e.k==1)then(bif (decide ((wI (f.2.1+j))>e.u))then some ((WC.mk 0 0 0),19)else bif (e.k==2)then(bif (f.2.1 != 0)then some ((WC.mk 0 0 0),19)else bif (j != e.u)then some ((WC.mk 0 0 0),19)else some (g.1,0))else some (g.1,0))else bif (e.k==2)then(bif (f.2.1 != 0)then some ((WC.mk 0 0 0),19)else bif (j != e.u)then some ((WC.mk 0 0 0),19)else some (g.1,0))else some (g.1,0)) λo=>bif (e.k != 1)then(bif (e.k != 2)then some ((WC.mk 0 0 0),19)else bif (decide (f.2.1>=e.u))then some ((WC.mk 0 0 0),19)else bif (!g.2)then some ((WC.mk 0 0 0),19)else o ())else bif (decide (f.2.1>=e.u))then some ((WC.mk 0 0 0),19)else bif (!g.2)then some ((WC.mk 0 0 0),19)else o ()
def Qbv(N:Nat)(e:WV)(f:Int)(g:Int):Option (Int×Int):=bnd (QaW N e) λh=>bif (!h)then some (0,1)else bif (decide (f<0))then some (0,2)else bif (decide (f>=e.p))then some (0,2)else bif (decide (g<0))then some (0,2)else bif (decide (g>=e.W))then some (0,2)else some ((wU (wI ((wI (4096+(wI (f*e.W))))+g))),0)
def QaA(N:Nat)(f:Wo)(l:Int)(g:Wv):Nat->Int->(List Int)->Option (Ex (List Int×Int) (List Int))
 |0,_,_=>none
 |n+1,h,e=>
  bif (decide (h<g.u))then(bnd (Qbv N f.c l h) λj=>
   bnd (Qar N f j.1) λo=>
   bif (o.2 != 0)then some (.ret ([],19))
   else grd ((e.length+1)*8<=140737488355328) <|
   bif (g.k==2)then some (.nxt (e++[j.1]))
   else bnd (QcZ N o.1) λp=>
   QaA N f l g n (wI (h+p)) (e++[j.1]))
  else some (.nxt e)
def Qam(N:Nat)(f:Wo)(g:Int):Option (List Int×Int):=bnd (Qac N f) λj=>bif (!j)then some ([],1)else bif (decide (g<0))then some ([],2)else bif (decide (g>=(f.p.length:Int)))then some ([],2)else bnd (Xb f.p g) λh=>bif (h.k==0)then some ([],0)else bif (h.k==3)then some ([],0)else bnd (QaA N f g h N 0 []) λe=>exK e (λr=>some r) λl=>some (l,0)
def QbD(N:Nat)(e:Wo)(h:Int)(f:List Int):Nat->Int->Option (Ex Int Unit)
 |0,_=>none
 |n+1,g=>
  bif (decide (g<(f.length:Int)))then(bnd (Xb f g) λq=>
   bnd (Qar N e q) λj=>
   bnd (QcZ N j.1) λr=>
   bnd (QdZ N e.c) λs=>
   bnd (Xb e.p h) λu=>
   bif (u.k==1)then(bif (!(decide (r<=s)))then(bnd (Xb f g) λv=>
       some (.ret v))
    else bnd (Xb e.p h) λw=>
    bif (w.k==2)then(bif (j.1.k==0)then(bnd (Xb f g) λl=>
        some (.ret l))
     else QbD N e h f n (wI (g+1)))
    else QbD N e h f n (wI (g+1)))
   else bnd (Xb e.p h) λy=>
   bif (y.k==2)then(bif (j.1.k==0)then(bnd (Xb f g) λo=>
       some (.ret o))
    else QbD N e h f n (wI (g+1)))
   else QbD N e h f n (wI (g+1)))
  else some (.nxt ())
def QfN(N:Nat)(f:Wo)(g:Int)(h:List Int):Option Int:=bnd (QbD N f g h N 0) λe=>exK e (λr=>some r) λj=>some 0
def Qev(N:Nat)(f:Wo):Nat->Int->Option Int
 |0,_=>none
 |n+1,e=>
  bnd (Xb f.p e) λg=>
  bif (g.k==3)then Qev N f n (wI (e-1))
  else some e
def Qgg(N:Nat)(e:Wo)(f:Int):Option Int:=bnd (Qev N e N f) λg=>some g
def QbR(N:Nat)(f:Wo)(g:Int)(j:List Int)(k:Int)(l:Int):Nat->Int->(List Bool)->Option (List Bool)
 |0,_,_=>none
 |n+1,e,h=>
  bif (decide (e<l))then(bnd (Xb j k) λo=>
   bif (decide ((wI ((wI ((wI ((wI o)-4096))+e))-(wI (g*f.c.W))))>=0))then(grd (h.length<=140737488355328) <|
    bif (decide ((wI ((wI ((wI ((wI o)-4096))+e))-(wI (g*f.c.W))))<(h.length:Int)))then(bnd (Xb h (wI ((wI ((wI ((wI o)-4096))+e))-(wI (g*f.c.W))))) λp=>
     QbR N f g j k l n (wI (e+1)) (h.set (wI ((wI ((wI ((wI o)-4096))+e))-(wI (g*f.c.W)))).toNat true))
    else QbR N f g j k l n (wI (e+1)) h)
   else QbR N f g j k l n (wI (e+1)) h)
  else some h
def QdQ(N:Nat)(g:Wo)(j:Int)(e:List Int):Nat->Int->(List Bool)->Option (List Bool)
 |0,_,_=>none
 |n+1,f,l=>
  bif (decide (f<(e.length:Int)))then(bnd (Xb e f) λq=>
   bnd (Qar N g q) λo=>
   bnd (QcZ N o.1) λr=>
   jn (λ(s:Int)=>
    bnd (QbR N g j e f s N 0 l) λh=>
    QdQ N g j e n (wI (f+1)) h) λp=>
   bif (o.1.k==0)then p 1
   else p r)
  else some l
def QhN(N:Nat)(e:Wo)(g:Int)(h:List Int):Option (List Bool):=grd (0<=e.c.W/\e.c.W.toNat<=140737488355328) <| bnd (QdQ N e g h N 0 (List.replicate e.c.W.toNat false)) λf=>some f
def QhO(N:Nat)(e:Wo)(f:Int)(g:Int):Option Int:=bnd (Qbv N e.c f g) λh=>bnd (Qbl N e.w h.1) λj=>some j.1
def Qgh(N:Nat)(e:Wo)(f:Int)(g:Int):Option Int:=bnd (QhO N e f g) λh=>some h
def Qgv(N:Nat)(e:Wo)(f:Int)(g:Int):Option Int:=some (wU (wI ((wI (4096+(wI (f*e.c.W))))+g)))
def Qc0(N:Nat)(f:Wo)(g:Int)(h:List Bool):Nat->Int->Option (Ex Int Unit)
 |0,_=>none
 |n+1,e=>
  bif (decide (e<(h.length:Int)))then(bnd (Xb h e) λj=>
   bif (!j)then(bnd (Qgh N f g e) λk=>
    bif (k != 0)then(bnd (Qgv N f g e) λl=>
     some (.ret l))
    else Qc0 N f g h n (wI (e+1)))
   else Qc0 N f g h n (wI (e+1)))
  else some (.nxt ())
def Qgi(N:Nat)(f:Wo)(g:Int):Option Int:=bnd (Qgg N f g) λh=>bnd (Qam N f h) λj=>bnd (QhN N f g j.1) λk=>bnd (Qc0 N f g k N 0) λe=>exK e (λr=>some r) λl=>some 0
def Qgj(N:Nat)(f:Wo)(e:Int):Option Ud:=jn (λ(_:Unit)=>bnd (Qam N f e) λg=>bif (g.2 != 0)then some (Ud.mk 3 e 0)else bnd (QfN N f e g.1) λh=>bif (h != 0)then some (Ud.mk 5 e h)else bnd (Qgi N f e) λj=>bif (j != 0)then some (Ud.mk 4 e j)else some (Ud.mk 0 0 0)) λl=>bnd (Xb f.p e) λo=>bif (o.k != 0)then(bnd (Xb f.p e) λq=>bif (q.s != f.s)then some (Ud.mk 2 e 0)else l ())else l ()
def QcF(N:Nat)(f:Wo)(g:Int):Option (WC×Int):=bnd (Qac N f) λh=>bif (!h)then some ((WC.mk 0 0 0),1)else bif (g==0)then some ((WC.mk 0 0 0),5)else bnd (Qar N f g) λe=>bif (e.2==0)then(bif (e.1.k==0)then some ((WC.mk 0 0 0),4)else some (e.1,e.2))else some (e.1,e.2)
def QaX(N:Nat)(f:Wo):Nat->Int->(List Int)->Option (Ex (List Int×Int) (List Int))
 |0,_,_=>none
 |n+1,g,h=>
  bif (decide (g<(f.p.length:Int)))then(bnd (Qam N f g) λe=>
   bif (e.2 != 0)then some (.ret ([],e.2))
   else grd ((h.length+e.1.length)*8<=140737488355328) <|
   QaX N f n (wI (g+1)) (h++e.1))
  else some (.nxt h)
def QcO(N:Nat)(f:Wo):Option (List Int×Int):=bnd (Qac N f) λg=>bif (!g)then some ([],1)else bnd (QaX N f N 0 []) λe=>exK e (λr=>some r) λh=>some (h,0)
def Qa0(N:Nat)(h:Wo)(e:List Int×Int):Nat->Int->(List Int)->Option (List Int)
 |0,_,_=>none
 |n+1,f,g=>
  bif (decide (f<(e.1.length:Int)))then(bnd (Xb e.1 f) λj=>
   bnd (Qar N h j) λl=>
   bif (l.1.k != 0)then(bnd (Xb e.1 f) λo=>
    grd ((g.length+1)*8<=140737488355328) <|
    Qa0 N h e n (wI (f+1)) (g++[o]))
   else Qa0 N h e n (wI (f+1)) g)
  else some g
def QaK(N:Nat)(e:Wo):Option (List Int×Int):=bnd (QcO N e) λf=>bnd (Qa0 N e f N 0 []) λg=>some (g,f.2)
def Qcf(N:Nat)(e:WC)(f:Int):Option Bool:=bnd (Qdu N e) λg=>bif (!g)then some false else bif (decide (f<0))then some false else bif (decide (f>=e.n))then some false else bif (e.k==2)then some true else bif (e.k==1)then(grd (0<=(wU f)) <| some ((Y2 .u32 (YC .u32 e.Map (wU f)) 1)==1))else some false
def QdC(N:Nat)(g:List Int)(h:Int)(f:Int):Option (List Int×Int):=bif (decide (f<0))then some ([],1)else bnd (Qea N g h f) λe=>bif (!e.2)then some ([],2)else grd (0<=e.1/\e.1<=(wI (e.1+f))/\(wI (e.1+f))<=(g.length:Int)) <| grd ((min ((wI (e.1+f)).toNat-e.1.toNat) (g.length-e.1.toNat))*8<=140737488355328) <| some (((g.drop e.1.toNat).take ((wI (e.1+f)).toNat-e.1.toNat)),0)
def Qf3(N:Nat)(f:Wo)(g:Int):Option (List Int×Int):=bnd (QcF N f g) λe=>bif (e.2 != 0)then some ([],e.2)else bnd (QdC N f.w (wU (g+1)) e.1.n) λh=>some (h.1,h.2)
def QaH(N:Nat)(j:Wo)(g:List Int×Int)(f:List Int×Int)(k:Int)(l:WC×Int):Nat->Int->Option (Ex Ud Unit)
 |0,_=>none
 |n+1,e=>
  bif (decide (e<(f.1.length:Int)))then(bnd (Qcf N l.1 e) λr=>
   bif r then(bnd (Xb f.1 e) λs=>
    bif (s != 0)then(bnd (Xb f.1 e) λo=>
     bnd (Qdl N g.1 o) λp=>
     bif (!p)then(bnd (Xb g.1 k) λh=>
      bnd (Qc8 N j.c (wU ((wU (h+1))+(wU e)))) λq=>
      some (.ret (Ud.mk 6 q.1 (wU ((wU (h+1))+(wU e))))))
     else QaH N j g f k l n (wI (e+1)))
    else QaH N j g f k l n (wI (e+1)))
   else QaH N j g f k l n (wI (e+1)))
  else some (.nxt ())
def Qb5(N:Nat)(h:Wo)(f:List Int×Int):Nat->Int->Option (Ex Ud Unit)
 |0,_=>none
 |n+1,g=>
  bif (decide (g<(f.1.length:Int)))then(bnd (Xb f.1 g) λj=>
   bnd (QcF N h j) λk=>
   bnd (Xb f.1 g) λl=>
   bnd (Qf3 N h l) λo=>
   bnd (QaH N h f o g k N 0) λe=>exK e (λr=>some (.ret r)) λp=>
   Qb5 N h f n (wI (g+1)))
  else some (.nxt ())
def Qe5(N:Nat)(f:Wo):Option Ud:=bnd (QaK N f) λg=>bnd (Qb5 N f g N 0) λe=>exK e (λr=>some r) λh=>some (Ud.mk 0 0 0)
def QbY(N:Nat)(e:Wo):Nat->Int->Option (Ex Ud Unit)
 |0,_=>none
 |n+1,f=>
  bif (decide (f<(e.p.length:Int)))then(bnd (Qgj N e f) λg=>
   bif (g.Fault != 0)then some (.ret g)
   else QbY N e n (wI (f+1)))
  else some (.nxt ())
def QbZ(N:Nat)(e:Wo):Nat->Int->Int->Option Int
 |0,_,_=>none
 |n+1,g,f=>
  bif (decide (f<(e.p.length:Int)))then(bnd (Xb e.p f) λh=>
   bif (h.k==1)then(bnd (Xb e.p f) λj=>
    bif (decide (j.P>0))then QbZ N e n (wI (g+1)) (wI (f+1))
    else QbZ N e n g (wI (f+1)))
   else QbZ N e n g (wI (f+1)))
  else some g
def Qho(N:Nat)(f:Wo):Option Ud:=bnd (Qac N f) λj=>bif (!j)then some (Ud.mk 1 0 0)else bnd (QbY N f N 0) λe=>exK e (λr=>some r) λk=>bnd (Qe5 N f) λh=>bif (h.Fault != 0)then some h else bnd (QbZ N f N 0 0) λg=>bif (decide (g>(wI (f.c.p.tdiv 4))))then some (Ud.mk 7 0 0)else some (Ud.mk 0 0 0)
def QbO(N:Nat)(f:Wo):Option Bool:=bnd (Qho N f) λe=>some ((e.Fault==0)&&((e.Page==0)&&(e.Addr==0)))
def QfO(N:Nat)(f:List Uz)(g:Int):Nat->Int->Option (Ex Int Unit)
 |0,_=>none
 |n+1,e=>
  bif (decide (e<(f.length:Int)))then(bnd (Xb f e) λh=>
   bif (h.a==g)then some (.ret e)
   else QfO N f g n (wI (e+1)))
  else some (.nxt ())
def QhA(N:Nat)(f:List Uz)(g:Int):Option Int:=bnd (QfO N f g N 0) λe=>exK e (λr=>some r) λh=>some (-1)
def Qgk(N:Nat)(e:Wo)(f:Int):Option Int:=bnd (Qc8 N e.c f) λg=>some g.1
def Qb0(N:Nat)(p:Wo)(e:List Uz)(q:List Int×Int):Nat->Int->(List Int)->Option (Ex Bool (List Int))
 |0,_,_=>none
 |n+1,f,h=>
  bif (decide (f<(e.length:Int)))then(bnd (Xb e f) λr=>
   bnd (Qdl N q.1 r.a) λs=>
   bif (!s)then some (.ret false)
   else bnd (Xb e f) λu=>
   bnd (QhA N e u.a) λv=>
   bif (v != f)then some (.ret false)
   else bnd (Xb e f) λw=>
   bif (decide (w.M<1))then some (.ret false)
   else bnd (Xb e f) λj=>
   bif (decide (j.M>1000))then some (.ret false)
   else bnd (Xb e f) λk=>
   bnd (Qgk N p k.a) λg=>
   bnd (Xb h g) λl=>
   bnd (Xb e f) λo=>
   bnd (Xb h g) λy=>
   Qb0 N p e q n (wI (f+1)) (h.set g.toNat (wI (l+o.M))))
  else some (.nxt h)
def Qdm(N:Nat)(g:Wo)(f:List Int):Nat->Int->Option (Ex Bool Unit)
 |0,_=>none
 |n+1,e=>
  bif (decide (e<(g.p.length:Int)))then(bnd (Xb g.p e) λh=>
   bnd (Xb f e) λj=>
   bif (h.P != j)then some (.ret false)
   else Qdm N g f n (wI (e+1)))
  else some (.nxt ())
def Qbo(N:Nat)(f:Wo)(h:List Uz):Option Bool:=bnd (QbO N f) λj=>bif (!j)then some false else bif (decide ((h.length:Int)>64))then some false else bnd (QaK N f) λk=>grd (0<=(f.p.length:Int)/\(f.p.length:Int).toNat*8<=140737488355328) <| bnd (Qb0 N f h k N 0 (List.replicate (f.p.length:Int).toNat (0:Int))) λe=>exK e (λr=>some r) λg=>bnd (Qdm N f g N 0) λe=>exK e (λr=>some r) λl=>some true
def Qew(N:Nat)(f:Wm)(g:Int):Nat->Int->Int->Option Int
 |0,_,_=>none
 |n+1,h,e=>
  bif (decide (e<g))then(bnd (Xb f.S e) λj=>
   bif j.V then Qew N f g n (wI (h+1)) (wI (e+1))
   else Qew N f g n h (wI (e+1)))
  else some h
def Qg8(N:Nat)(e:Wm)(f:Int)(g:Int):Option Int:=bnd (Qew N e g N 0 f) λh=>some h
def QiA(N:Nat)(e:Wm)(f:Int):Option Int:=bif (decide ((wI (f+1))<(e.x.length:Int)))then(bnd (Xb e.x (wI (f+1))) λg=>some g.O)else some (e.S.length:Int)
def Qd1(N:Nat)(e:Wm):Nat->Int->Option (Ex Bool Unit)
 |0,_=>none
 |n+1,f=>
  bif (decide (f<(e.i.length:Int)))then(bnd (Xb e.i f) λg=>
   bif (decide (g<0))then some (.ret false)
   else bnd (Xb e.i f) λh=>
   bif (decide (h>4095))then some (.ret false)
   else Qd1 N e n (wI (f+1)))
  else some (.nxt ())
def Qaw(N:Nat)(f:Wm):Nat->Int->Int->Option (Ex Bool Unit)
 |0,_,_=>none
 |n+1,h,g=>
  bif (decide (g<(f.S.length:Int)))then(bnd (Xb f.S g) λe=>
   bif (decide (e.J<=h))then some (.ret false)
   else bif (decide (e.J>(f.i.length:Int)))then some (.ret false)
   else bnd (Xb f.i (wI (e.J-1))) λj=>
   bif (j != g)then some (.ret false)
   else bif (!(e.V==(e.a != 0)))then some (.ret false)
   else Qaw N f n e.J (wI (g+1)))
  else some (.nxt ())
def Qap(N:Nat)(g:Wm):Nat->Int->Int->Option (Ex Bool Unit)
 |0,_,_=>none
 |n+1,h,f=>
  bif (decide (f<(g.x.length:Int)))then(bnd (Xb g.x f) λe=>
   bif (f==0)then(bif (e.O != 0)then some (.ret false)
    else bif (!e.B0)then some (.ret false)
    else bif (decide (e.O<h))then some (.ret false)
    else bif (decide (e.O>(g.S.length:Int)))then some (.ret false)
    else bif (decide (e.C0<0))then some (.ret false)
    else bif (decide (e.C0>64))then some (.ret false)
    else Qap N g n e.O (wI (f+1)))
   else bif (decide (e.O<h))then some (.ret false)
   else bif (decide (e.O>(g.S.length:Int)))then some (.ret false)
   else bif (decide (e.C0<0))then some (.ret false)
   else bif (decide (e.C0>64))then some (.ret false)
   else Qap N g n e.O (wI (f+1)))
  else some (.nxt ())
def Qdn(N:Nat)(f:Wm):Nat->Int->Option (Ex Bool Unit)
 |0,_=>none
 |n+1,e=>
  bif (decide (e<(f.x.length:Int)))then(bnd (Xb f.x e) λg=>
   bnd (QiA N f e) λh=>
   bnd (Qg8 N f g.O h) λj=>
   bnd (Xb f.x e) λk=>
   bif (decide (j>k.C0))then some (.ret false)
   else Qdn N f n (wI (e+1)))
  else some (.nxt ())
def Qcg(N:Nat)(f:Wm):Option Bool:=jn (λ(_:Unit)=>bnd (Qd1 N f N 0) λe=>exK e (λr=>some r) λk=>bnd (Qaw N f N 0 0) λe=>exK e (λr=>some r) λl=>bnd (Qap N f N 0 0) λe=>exK e (λr=>some r) λh=>bnd (Qdn N f N 0) λe=>exK e (λr=>some r) λj=>some true) λg=>bif (decide ((f.i.length:Int)>4096))then some false else bif (decide ((f.x.length:Int)>64))then some false else bif ((f.x.length:Int)==0)then(bif (decide ((f.S.length:Int)>0))then some false else g ())else g ()
def Qdo(N:Nat)(f:Wr):Nat->Int->Option (Ex Bool Unit)
 |0,_=>none
 |n+1,g=>
  bif (decide (g<(f.e.length:Int)))then(bnd (Xb f.e g) λh=>
   bif (decide (h.G<1))then some (.ret false)
   else bif (decide (h.G>4294967295))then some (.ret false)
   else bif (!h.V)then(bif (h.a != 0)then some (.ret false)
    else Qdo N f n (wI (g+1)))
   else Qdo N f n (wI (g+1)))
  else some (.nxt ())
def Qch(N:Nat)(f:Wr):Option Bool:=bnd (Qdo N f N 0) λe=>exK e (λr=>some r) λg=>some (decide ((f.e.length:Int)<=64))
def Qbw(N:Nat)(f:Wr):Nat->Int->(List Int)->Option (List Int)
 |0,_,_=>none
 |n+1,g,h=>
  bif (decide (g<(f.e.length:Int)))then(bnd (Qch N f) λj=>
   bif j then(bnd (Xb f.e g) λk=>
    bif k.V then(bnd (Xb f.e g) λl=>
     grd ((h.length+1)*8<=140737488355328) <|
     Qbw N f n (wI (g+1)) (h++[l.a]))
    else Qbw N f n (wI (g+1)) h)
   else some h)
  else some h
def Qbt(N:Nat)(e:Wr):Option (List Int):=bnd (Qbw N e N 0 []) λf=>some f
def Qbx(N:Nat)(e:Wm):Nat->Int->(List Int)->Option (List Int)
 |0,_,_=>none
 |n+1,f,g=>
  bif (decide (f<(e.S.length:Int)))then(bnd (Qcg N e) λh=>
   bif h then(bnd (Xb e.S f) λj=>
    bif j.V then(bnd (Xb e.S f) λk=>
     grd ((g.length+1)*8<=140737488355328) <|
     Qbx N e n (wI (f+1)) (g++[k.a]))
    else Qbx N e n (wI (f+1)) g)
   else some g)
  else some g
def Qc1(N:Nat)(e:Wm):Option (List Int):=bnd (Qbx N e N 0 []) λf=>some f
def QaM(N:Nat)(e:List Int)(g:List Int×Int):Nat->Int->Option (Ex Bool Unit)
 |0,_=>none
 |n+1,f=>
  bif (decide (f<(e.length:Int)))then(bnd (Xb e f) λh=>
   bif (h != 0)then(bnd (Xb e f) λj=>
    bnd (Qdl N g.1 j) λk=>
    bif (!k)then some (.ret false)
    else QaM N e g n (wI (f+1)))
   else QaM N e g n (wI (f+1)))
  else some (.nxt ())
def QbS(N:Nat)(f:Wo)(g:List Int):Option Bool:=bnd (QbO N f) λh=>bif (!h)then some false else bnd (QaK N f) λj=>bnd (QaM N g j N 0) λe=>exK e (λr=>some r) λk=>some true
def QbH(N:Nat)(e:WI):Option Bool:=bnd (Qbo N e.h e.P) λo=>bif (!o)then some false else bnd (Qcg N e.l) λp=>bif (!p)then some false else bnd (Qch N e.g) λq=>bif (!q)then some false else bnd (Qch N e.v) λr=>bif (!r)then some false else bnd (Qbt N e.g) λf=>bnd (Qdl N f 0) λs=>bif s then some false else grd (e.R.length*8<=140737488355328) <| bnd (Qc1 N e.l) λj=>grd ((e.R.length+j.length)*8<=140737488355328) <| grd (((e.R.length+j.length)+f.length)*8<=140737488355328) <| bnd (Qbt N e.v) λk=>grd ((((e.R.length+j.length)+f.length)+k.length)*8<=140737488355328) <| bnd (QbS N e.h (((e.R++j)++f)++k)) λu=>some u
def Qad(N:Nat)(e:Int):Option (WI×Int×Int):=some ((WI.mk zHp (Wm.mk [] [] []) (Wr.mk []) (Wr.mk []) [] []),0,e)
def QbI(N:Nat)(f:Int)(e:Int)(g:Int):Option (WC×Bool):=bif (f==1)then(bif (decide (e<=2147483647))then some ((WC.mk f (wI (Y2 .u64 e 2147483647)) (wW g)),(decide (g<=4294967295)))else some ((WC.mk f (wI (Y2 .u64 e 2147483647)) (wW g)),false))else some ((WC.mk f (wI (Y2 .u64 e 2147483647)) 0),(decide (e<=2147483647)))
def Qck(N:Nat)(f:WV)(e:WC):Option Bool:=bnd (Qdu N e) λg=>bif g then(bif (e.k != 0)then(bnd (QcZ N e) λh=>bnd (Qfx N f h) λj=>some (j != (-1)))else some false)else some false
def Qej(N:Nat)(e:Wm)(f:Int):Option (Wm×Int×Int×Int):=bnd (Qcg N e) λg=>bif (!g)then some ((Wm.mk [] [] []),0,0,1)else bif (f==0)then some ((Wm.mk [] [] []),0,0,1)else bif ((e.x.length:Int)==0)then some ((Wm.mk [] [] []),0,0,9)else bnd (Xb e.x (wI ((e.x.length:Int)-1))) λh=>bnd (Qg8 N e h.O (e.S.length:Int)) λj=>bnd (Xb e.x (wI ((e.x.length:Int)-1))) λk=>bif (decide (j>=k.C0))then some ((Wm.mk [] [] []),0,0,10)else bif ((e.i.length:Int)==4096)then some ((Wm.mk [] [] []),0,0,18)else grd (e.i.length*8<=140737488355328) <| grd ((e.i.length+1)*8<=140737488355328) <| grd (e.S.length*24<=140737488355328) <| grd ((e.S.length+1)*24<=140737488355328) <| some ((Wm.mk (e.S++[(UA.mk (wI ((e.i.length:Int)+1)) f true)]) e.x (e.i++[(e.S.length:Int)])),(e.S.length:Int),(wI ((e.i.length:Int)+1)),0)
def Qcl(N:Nat)(g:Wo)(h:List Int×Int):Nat->Int->(List Wv)->Option (List Wv)
 |0,_,_=>none
 |n+1,f,e=>
  grd (e.length<=140737488355328) <|
  bif (decide (f<(e.length:Int)))then(bnd (Xb e f) λl=>
   bif (l.k==1)then(bif (decide (l.P>0))then(bnd (Xb e f) λj=>
       Qcl N g h n (wI (f+1)) (e.set f.toNat (Wv.mk j.k (wI (1-g.s)) j.u j.P)))
    else Qcl N g h n (wI (f+1)) e)
   else Qcl N g h n (wI (f+1)) e)
  else some e
def QeV(N:Nat)(e:Wo):Option (WD×Int):=bnd (Qac N e) λg=>bif (!g)then some ((WD.mk zHp [] [] [] 0 (WP.mk 0 0 0 0 0 0)),1)else bnd (QbO N e) λh=>bif (!h)then some ((WD.mk zHp [] [] [] 0 (WP.mk 0 0 0 0 0 0)),19)else bnd (QaK N e) λf=>grd (e.p.length*32<=140737488355328) <| bnd (Qcl N e f N 0 e.p) λj=>some ((WD.mk (Wo.mk e.c e.w j e.s e.b) f.1 [] [] 0 (WP.mk 0 0 0 0 0 0)),0)
def Qb1(N:Nat)(f:List Int)(g:Int×Bool):Nat->Int->(List Int)->Option (List Int)
 |0,_,_=>none
 |n+1,e,h=>
  bif (decide (e<(f.length:Int)))then(bnd (Xb f e) λj=>
   bnd (Xb h (wI (g.1+e))) λk=>
   Qb1 N f g n (wI (e+1)) (h.set (wI (g.1+e)).toNat j))
  else some h
def Qci(N:Nat)(e:List Int)(h:Int)(f:List Int):Option (List Int×Int):=bnd (Qea N e h (f.length:Int)) λg=>bif (!g.2)then some ([],2)else grd (e.length*8<=140737488355328) <| bnd (Qb1 N f g N 0 e) λj=>some (j,0)
def QcP(N:Nat)(f:List Int)(g:Int)(h:Int):Option (List Int×Int):=bnd (Qci N f g [h]) λe=>some (e.1,e.2)
def QcQ(N:Nat)(e:Int):Option (Int×Bool):=bif ((e.tmod 4) != 2)then some (0,false)else bif (decide ((YC .u64 e 2)>=4294967296))then some (0,false)else some ((YC .u64 e 2),true)
def Qdp(N:Nat)(e:WD)(g:Int):Nat->Int->Option (Ex Bool Unit)
 |0,_=>none
 |n+1,f=>
  bif (decide (f<(e.t.length:Int)))then(bnd (Xb e.t f) λh=>
   bif (h==g)then some (.ret true)
   else Qdp N e g n (wI (f+1)))
  else some (.nxt ())
def Qhp(N:Nat)(f:WD)(g:Int):Option Bool:=bnd (Qdp N f g N 0) λe=>exK e (λr=>some r) λh=>some false
def Qdq(N:Nat)(e:WD)(f:Int):Option Bool:=bif (decide (f<0))then some false else bif (decide (f>=(e.h.p.length:Int)))then some false else bnd (Xb e.h.p f) λg=>bif (g.k==1)then(bif (g.s != e.h.s)then(bnd (Qhp N e f) λj=>some (!j))else some false)else some false
def Qeb(N:Nat)(e:WD)(g:Int):Option WD:=grd (e.q.length*8<=140737488355328) <| grd ((e.q.length+1)*8<=140737488355328) <| some (WD.mk e.h e.o e.t (e.q++[g]) e.d (WP.mk e.r.j (wI (e.r.K+1)) e.r.F e.r.E e.r.f e.r.y))
def Qby(N:Nat)(g:List Wv):Nat->Int->(List Oj)->Option (List Oj)
 |0,_,_=>none
 |n+1,f,e=>
  bif (decide (f<(g.length:Int)))then(bnd (Xb g f) λj=>
   bif (j.k != 0)then Qby N g n (wI (f+1)) e
   else grd (e.length<=140737488355328) <|
   jn (λ(_:Unit)=>
    grd ((e.length+1)*16<=140737488355328) <|
    Qby N g n (wI (f+1)) (e++[(Oj.mk f 1)])) λh=>
   bif (decide ((e.length:Int)>0))then(bnd (Xb e (wI ((e.length:Int)-1))) λl=>
    bnd (Xb e (wI ((e.length:Int)-1))) λo=>
    bif ((wI (l.O+o.Len))==f)then(bnd (Xb e (wI ((e.length:Int)-1))) λp=>
     bnd (Xb e (wI ((e.length:Int)-1))) λq=>
     Qby N g n (wI (f+1)) (e.set (wI ((e.length:Int)-1)).toNat (Oj.mk q.O (wI (p.Len+1)))))
    else h ())
   else h ())
  else some e
def Qg9(N:Nat)(e:List Wv):Option (List Oj):=bnd (Qby N e N 0 []) λf=>some f
def QbE(N:Nat)(g:Int)(e:List Oj):Nat->Int->Option (Ex Int Unit)
 |0,_=>none
 |n+1,f=>
  bif (decide (f<(e.length:Int)))then(bif (decide (g>=1))then(bnd (Xb e f) λh=>
      bif (decide (h.Len>=g))then(bnd (Xb e f) λj=>
       some (.ret j.O))
      else QbE N g e n (wI (f+1)))
   else QbE N g e n (wI (f+1)))
  else some (.nxt ())
def Qbp(N:Nat)(f:List Wv)(g:Int):Option Int:=bnd (Qg9 N f) λh=>bnd (QbE N g h N 0) λe=>exK e (λr=>some r) λj=>some (-1)
def Qex(N:Nat)(f:Int)(h:Int)(l:Wv)(j:Wv):Nat->Int->(List Wv)->Option (Ex (List Wv×Int) (List Wv))
 |0,_,_=>none
 |n+1,e,g=>
  bif (decide (e<h))then(bnd (Xb g (wI (f+e))) λo=>
   bif (o.k != 0)then some (.ret ([],20))
   else bnd (Xb g (wI (f+e))) λp=>
   Qex N f h l j n (wI (e+1)) (g.set (wI (f+e)).toNat j))
  else some (.nxt g)
def QdD(N:Nat)(g:List Wv)(f:Int)(h:Int)(j:Wv)(l:Wv):Option (List Wv×Int):=bif (decide (f<0))then some ([],2)else bif (decide (f>=(g.length:Int)))then some ([],2)else bif (decide (h>(wI ((g.length:Int)-f))))then some ([],2)else grd (g.length*32<=140737488355328) <| bnd (Qex N f h j l N 0 g) λe=>exK e (λr=>some r) λk=>bnd (Xb k f) λo=>some ((k.set f.toNat j),0)
def QbJ(N:Nat)(g:List Wv)(h:Int)(e:Int):Option (List Wv×Int):=bif (decide (e<0))then some ([],1)else bif (decide (e>1))then some ([],1)else bnd (QdD N g h 1 (Wv.mk 1 e 0 0) (Wv.mk 0 0 0 0)) λf=>some (f.1,f.2)
def QcR(N:Nat)(e:WD)(y:Int):Option (WD×Int×Bool):=grd (e.h.p.length*32<=140737488355328) <| jn (λ(_:Unit)=>bnd (Qbp N e.h.p 1) λf=>bif (decide (f<0))then some ((WD.mk zHp [] [] [] 0 (WP.mk 0 0 0 0 0 0)),0,false)else bnd (QbJ N e.h.p f (wI (1-e.h.s))) λv=>grd (e.t.length*8<=140737488355328) <| grd ((e.t.length+1)*8<=140737488355328) <| bnd (Xb v.1 f) λz=>bnd (Xb v.1 f) λA=>bnd (Xb v.1 f) λg=>some ((WD.mk (Wo.mk e.h.c e.h.w (v.1.set f.toNat (Wv.mk g.k g.s (wI (A.u+y)) g.P)) e.h.s e.h.b) e.o (e.t++[f]) e.q e.d e.r),(wU (wI ((wI (4096+(wI (f*e.h.c.W))))+z.u))),true)) λE=>bif (decide ((e.t.length:Int)>0))then(bnd (Xb e.t (wI ((e.t.length:Int)-1))) λG=>bnd (Xb e.h.p G) λH=>bif (decide ((wI (H.u+y))<=e.h.c.W))then(bnd (Xb e.t (wI ((e.t.length:Int)-1))) λl=>bnd (Xb e.h.p l) λB=>bnd (Xb e.h.p l) λD=>bnd (Xb e.h.p l) λj=>some ((WD.mk (Wo.mk e.h.c e.h.w (e.h.p.set l.toNat (Wv.mk j.k j.s (wI (D.u+y)) j.P)) e.h.s e.h.b) e.o e.t e.q e.d e.r),(wU (wI ((wI (4096+(wI (l*e.h.c.W))))+B.u))),true))else E ())else E ()
def Qgl(N:Nat)(f:List Int)(h:Int)(j:Int)(k:Int):Option (List Int×Int):=bnd (QdC N f j k) λe=>bif (e.2 != 0)then some ([],e.2)else bnd (Qci N f h e.1) λg=>some (g.1,g.2)
def Qc2(N:Nat)(e:Int):Option (Int×Int):=bif (decide (e>=4294967296))then some (0,1)else some ((wU ((wU (4*e))+2)),0)
def QaR(N:Nat)(l:WD)(o:Int):Nat->Int->(List Wv)->Option (List Wv)
 |0,_,_=>none
 |n+1,f,e=>
  grd (e.length<=140737488355328) <|
  bif (decide (f<(e.length:Int)))then(bnd (Xb e f) λj=>
   bif (j.k==3)then(bnd (Xb e f) λg=>
    QaR N l o n (wI (f+1)) (e.set f.toNat (Wv.mk g.k (wI (1-l.h.s)) g.u g.P)))
   else some e)
  else some e
def Qa7(N:Nat)(g:WD)(l:Int):Option (WD×Int×Int):=bif (l==0)then some (g,l,0)else bnd (Qdl N g.q l) λO=>bif O then some (g,l,0)else bnd (Qdl N g.o l) λR=>bif (!R)then some ((WD.mk zHp [] [] [] 0 (WP.mk 0 0 0 0 0 0)),0,19)else bnd (Qbl N g.h.w l) λL=>bnd (QcQ N L.1) λM=>bif M.2 then some (g,M.1,0)else bnd (Qc8 N g.h.c l) λv=>bif (v.2.2 != 0)then some ((WD.mk zHp [] [] [] 0 (WP.mk 0 0 0 0 0 0)),0,19)else bif (decide (v.1>=(g.h.p.length:Int)))then some ((WD.mk zHp [] [] [] 0 (WP.mk 0 0 0 0 0 0)),0,19)else bnd (Qdq N g v.1) λS=>bif S then(bnd (Qeb N g l) λT=>some (T,l,0))else bnd (Xb g.h.p v.1) λU=>bif (U.k==2)then(grd (g.h.p.length*32<=140737488355328) <| bnd (Xb g.h.p v.1) λA=>bnd (QaR N g l N (wI (v.1+1)) (g.h.p.set v.1.toNat (Wv.mk A.k (wI (1-g.h.s)) A.u A.P))) λB=>bnd (Qeb N (WD.mk (Wo.mk g.h.c g.h.w B g.h.s g.h.b) g.o g.t g.q g.d g.r) l) λD=>some (D,l,0))else bnd (QcN N L.1) λG=>bnd (QcZ N G.1) λz=>bnd (QcR N g z) λe=>bif (!e.2.2)then some ((WD.mk zHp [] [] [] 0 (WP.mk 0 0 0 0 0 0)),0,3)else bnd (Qgl N e.1.h.w e.2.1 l z) λH=>bnd (Qc2 N e.2.1) λI=>bnd (QcP N H.1 l I.1) λJ=>grd (e.1.q.length*8<=140737488355328) <| grd ((e.1.q.length+1)*8<=140737488355328) <| some ((WD.mk (Wo.mk e.1.h.c J.1 e.1.h.p e.1.h.s e.1.h.b) e.1.o e.1.t (e.1.q++[e.2.1]) e.1.d (WP.mk (wI (e.1.r.j+1)) e.1.r.K e.1.r.F e.1.r.E e.1.r.f e.1.r.y)),e.2.1,0)
def Qbk(N:Nat)(G:List Int):Nat->Int->Int->Int->(List Int)->(List Wv)->Int->Int->(List Int)->(List Int)->(List Int)->Int->Int->Int->Int->Int->Int->Int->(List Int)->Option (Ex (WD×List Int×Int) (Int×Int×List Int×List Wv×Int×Int×List Int×List Int×List Int×Int×Int×Int×Int×Int×Int×Int×List Int))
 |0,_,_,_,_,_,_,_,_,_,_,_,_,_,_,_,_,_,_=>none
 |n+1,H,J,L,M,O,R,S,T,U,k,l,u,v,z,A,B,D,g=>
  bif (decide (H<(G.length:Int)))then(bnd (Xb G H) λI=>
   bnd (Qa7 N (WD.mk (Wo.mk (WV.mk J L) M O R S) T U k l (WP.mk u v z A B D)) I) λe=>
   bif (e.2.2 != 0)then some (.ret ((WD.mk zHp [] [] [] 0 (WP.mk 0 0 0 0 0 0)),[],e.2.2))
   else grd ((g.length+1)*8<=140737488355328) <|
   Qbk N G n (wI (H+1)) e.1.h.c.W e.1.h.c.p e.1.h.w e.1.h.p e.1.h.s e.1.h.b e.1.o e.1.t e.1.q e.1.d e.1.r.j e.1.r.K e.1.r.F e.1.r.E e.1.r.f e.1.r.y (g++[e.2.1]))
  else some (.nxt (J,L,M,O,R,S,T,U,k,l,u,v,z,A,B,D,g))
def Qec(N:Nat)(k:WD)(l:List Int):Option (WD×List Int×Int):=bnd (Qbk N l N 0 k.h.c.W k.h.c.p k.h.w k.h.p k.h.s k.h.b k.o k.t k.q k.d k.r.j k.r.K k.r.F k.r.E k.r.f k.r.y []) λe=>exK e (λr=>some r) λg=>some ((WD.mk (Wo.mk (WV.mk g.1 g.2.1) g.2.2.1 g.2.2.2.1 g.2.2.2.2.1 g.2.2.2.2.2.1) g.2.2.2.2.2.2.1 g.2.2.2.2.2.2.2.1 g.2.2.2.2.2.2.2.2.1 g.2.2.2.2.2.2.2.2.2.1 (WP.mk g.2.2.2.2.2.2.2.2.2.2.1 g.2.2.2.2.2.2.2.2.2.2.2.1 g.2.2.2.2.2.2.2.2.2.2.2.2.1 g.2.2.2.2.2.2.2.2.2.2.2.2.2.1 g.2.2.2.2.2.2.2.2.2.2.2.2.2.2.1 g.2.2.2.2.2.2.2.2.2.2.2.2.2.2.2.1)),g.2.2.2.2.2.2.2.2.2.2.2.2.2.2.2.2,0)
def QeW(N:Nat)(e:WD)(f:Int):Option WC:=bnd (Qbl N e.h.w f) λg=>bnd (QcN N g.1) λj=>some j.1
def Qb6(N:Nat)(e:WC):Nat->Int->(List Int)->Option (List Int)
 |0,_,_=>none
 |n+1,f,g=>
  bif (decide (f<e.n))then(bnd (Qdu N e) λh=>
   bif h then(bnd (Qcf N e f) λj=>
    bif j then(grd ((g.length+1)*8<=140737488355328) <|
     Qb6 N e n (wI (f+1)) (g++[f]))
    else Qb6 N e n (wI (f+1)) g)
   else some g)
  else some g
def Qf4(N:Nat)(e:WC):Option (List Int):=bnd (Qb6 N e N 0 []) λf=>some f
def Qbz(N:Nat)(J:Int)(L:List Int):Nat->Int->Int->Int->(List Int)->(List Wv)->Int->Int->(List Int)->(List Int)->(List Int)->Int->Int->Int->Int->Int->Int->Int->Option (Ex (WD×Bool×Int) (Int×Int×List Int×List Wv×Int×Int×List Int×List Int×List Int×Int×Int×Int×Int×Int×Int×Int))
 |0,_,_,_,_,_,_,_,_,_,_,_,_,_,_,_,_,_=>none
 |n+1,M,T,U,O,V,Y,g,k,l,u,v,z,A,B,D,G,H=>
  bif (decide (M<(L.length:Int)))then(bnd (Xb L M) λI=>
   bnd (Qbl N O (wU ((wU (J+1))+(wU I)))) λR=>
   bnd (Qa7 N (WD.mk (Wo.mk (WV.mk T U) O V Y g) k l u v (WP.mk z A B D G H)) R.1) λe=>
   bif (e.2.2 != 0)then some (.ret ((WD.mk zHp [] [] [] 0 (WP.mk 0 0 0 0 0 0)),false,e.2.2))
   else bnd (QcP N e.1.h.w (wU ((wU (J+1))+(wU I))) e.2.1) λS=>
   Qbz N J L n (wI (M+1)) e.1.h.c.W e.1.h.c.p S.1 e.1.h.p e.1.h.s e.1.h.b e.1.o e.1.t e.1.q e.1.d e.1.r.j e.1.r.K e.1.r.F e.1.r.E e.1.r.f e.1.r.y)
  else some (.nxt (T,U,O,V,Y,g,k,l,u,v,z,A,B,D,G,H))
def Qgm(N:Nat)(k:WD):Option (WD×Bool×Int):=bif (decide (k.d>=(k.q.length:Int)))then some (k,false,0)else bnd (Xb k.q k.d) λl=>bnd (QeW N k l) λv=>bnd (Qf4 N v) λu=>bnd (Qbz N l u N 0 k.h.c.W k.h.c.p k.h.w k.h.p k.h.s k.h.b k.o k.t k.q k.d k.r.j k.r.K k.r.F k.r.E k.r.f k.r.y) λe=>exK e (λr=>some r) λg=>some ((WD.mk (Wo.mk (WV.mk g.1 g.2.1) g.2.2.1 g.2.2.2.1 g.2.2.2.2.1 g.2.2.2.2.2.1) g.2.2.2.2.2.2.1 g.2.2.2.2.2.2.2.1 g.2.2.2.2.2.2.2.2.1 (wI (g.2.2.2.2.2.2.2.2.2.1+1)) (WP.mk g.2.2.2.2.2.2.2.2.2.2.1 g.2.2.2.2.2.2.2.2.2.2.2.1 g.2.2.2.2.2.2.2.2.2.2.2.2.1 g.2.2.2.2.2.2.2.2.2.2.2.2.2.1 g.2.2.2.2.2.2.2.2.2.2.2.2.2.2.1 (wI ((wI (g.2.2.2.2.2.2.2.2.2.2.2.2.2.2.2+1))+(u.length:Int))))),true,0)
def QbT(N:Nat):Nat->Int->Int->(List Int)->(List Wv)->Int->Int->(List Int)->(List Int)->(List Int)->Int->Int->Int->Int->Int->Int->Int->Option (WD×Int)
 |0,_,_,_,_,_,_,_,_,_,_,_,_,_,_,_,_=>none
 |n+1,B,D,G,H,I,J,L,M,O,g,k,l,u,v,z,A=>
  bnd (Qgm N (WD.mk (Wo.mk (WV.mk B D) G H I J) L M O g (WP.mk k l u v z A))) λe=>
  bif (e.2.2 != 0)then some ((WD.mk zHp [] [] [] 0 (WP.mk 0 0 0 0 0 0)),e.2.2)
  else bif (!e.2.1)then some (e.1,0)
  else QbT N n e.1.h.c.W e.1.h.c.p e.1.h.w e.1.h.p e.1.h.s e.1.h.b e.1.o e.1.t e.1.q e.1.d e.1.r.j e.1.r.K e.1.r.F e.1.r.E e.1.r.f e.1.r.y
def Qfy(N:Nat)(e:WD):Option (WD×Int):=bnd (QbT N N e.h.c.W e.h.c.p e.h.w e.h.p e.h.s e.h.b e.o e.t e.q e.d e.r.j e.r.K e.r.F e.r.E e.r.f e.r.y) λr=>some r
def Qed(N:Nat)(f:WD)(e:Int):Option Int:=bnd (Qdl N f.q e) λg=>bif g then some e else bnd (Qbl N f.h.w e) λj=>bnd (QcQ N j.1) λk=>some k.1
def QbA(N:Nat)(e:WD)(k:List Wv)(l:Wv)(g:Int)(o:Int):Nat->Int->(List Int)->Option (List Int)
 |0,_,_=>none
 |n+1,f,j=>
  bif (decide (f<e.h.c.W))then(bnd (Xb j (wI ((wI (g*e.h.c.W))+f))) λp=>
   QbA N e k l g o n (wI (f+1)) (j.set (wI ((wI (g*e.h.c.W))+f)).toNat 0))
  else some j
def Qa8(N:Nat)(g:WD):Nat->Int->Int->(List Int)->(List Wv)->Option (Int×List Int×List Wv)
 |0,_,_,_,_=>none
 |n+1,f,j,l,e=>
  grd (e.length<=140737488355328) <|
  bif (decide (f<(e.length:Int)))then(bnd (Xb e f) λo=>
   bif (o.k==0)then Qa8 N g n (wI (f+1)) j l e
   else bif (o.s != g.h.s)then Qa8 N g n (wI (f+1)) j l e
   else bnd (Xb e f) λq=>
   bnd (QbA N g e o f j N 0 l) λp=>
   Qa8 N g n (wI (f+1)) (wI (j+1)) p (e.set f.toNat (Wv.mk 0 0 0 0)))
  else some (j,l,e)
def Qfz(N:Nat)(e:WD):Option WD:=grd (e.h.p.length*32<=140737488355328) <| grd (e.h.w.length*8<=140737488355328) <| bnd (Qa8 N e N 0 e.r.E e.h.w e.h.p) λg=>some (WD.mk (Wo.mk e.h.c g.2.1 g.2.2 e.h.s e.h.b) e.o e.t e.q e.d (WP.mk e.r.j e.r.K e.r.F g.1 e.r.f e.r.y))
def Qa1(N:Nat)(e:WD):Nat->Int->(List Int)->Int->Option (List Int×Int)
 |0,_,_,_=>none
 |n+1,k,l,u=>
  bif (decide (k<(e.o.length:Int)))then(bnd (Xb e.o k) λA=>
   bnd (Qc8 N e.h.c A) λB=>
   bnd (Qdq N (WD.mk (Wo.mk e.h.c l e.h.p e.h.s e.h.b) e.o e.t e.q e.d (WP.mk e.r.j e.r.K u e.r.E e.r.f e.r.y)) B.1) λD=>
   bif (!D)then Qa1 N e n (wI (k+1)) l u
   else bnd (Xb e.o k) λG=>
   bnd (Qdl N e.q G) λH=>
   bif H then Qa1 N e n (wI (k+1)) l u
   else bnd (Xb e.o k) λI=>
   bnd (QeW N (WD.mk (Wo.mk e.h.c l e.h.p e.h.s e.h.b) e.o e.t e.q e.d (WP.mk e.r.j e.r.K u e.r.E e.r.f e.r.y)) I) λg=>
   bnd (QcM N (WC.mk 0 g.n 0)) λv=>
   bnd (Xb e.o k) λw=>
   grd (0<=g.n/\g.n.toNat*8<=140737488355328) <|
   grd ((1+g.n.toNat)*8<=140737488355328) <|
   bnd (Qci N l w ([v.1]++(List.replicate g.n.toNat (0:Int)))) λz=>
   Qa1 N e n (wI (k+1)) z.1 (wI (u+1)))
  else some (l,u)
def QfA(N:Nat)(e:WD):Option WD:=bnd (Qa1 N e N 0 e.h.w e.r.F) λg=>some (WD.mk (Wo.mk e.h.c g.1 e.h.p e.h.s e.h.b) e.o e.t e.q e.d (WP.mk e.r.j e.r.K g.2 e.r.E e.r.f e.r.y))
def Qbb(N:Nat)(k:List Int)(D:WD×List Int×Int)(e:WD×Int):Nat->Int->Int->(List Int)->Option (Int×List Int)
 |0,_,_,_=>none
 |n+1,l,f,p=>
  bif (decide (l<(k.length:Int)))then(bnd (Xb k l) λs=>
   jn (λ(u:Int) (v:Int)=>
    grd ((p.length+1)*8<=140737488355328) <|
    Qbb N k D e n (wI (l+1)) v (p++[u])) λA=>
   bif (s != 0)then(bnd (Xb k l) λw=>
    bnd (Qed N (WD.mk e.1.h e.1.o e.1.t e.1.q e.1.d (WP.mk e.1.r.j e.1.r.K e.1.r.F e.1.r.E f e.1.r.y)) w) λg=>
    jn (λ(z:Int)=>
     A g z) λB=>
    bif (g==0)then B (wI (f+1))
    else B f)
   else A 0 f)
  else some (f,p)
def QdR(N:Nat)(u:Wo)(B:List Int)(D:List Int):Option (Wo×List Int×List Int×WP×Int):=bnd (Qac N u) λI=>bif (!I)then some (zHp,[],[],(WP.mk 0 0 0 0 0 0),1)else jn (λ(_:Unit)=>some (zHp,[],[],(WP.mk 0 0 0 0 0 0),19)) λG=>bnd (QbS N u B) λJ=>bif (!J)then G ()else bnd (QbS N u D) λL=>bif (!L)then G ()else bnd (QeV N u) λM=>bnd (Qec N M.1 B) λk=>bif (k.2.2 != 0)then some (zHp,[],[],(WP.mk 0 0 0 0 0 0),k.2.2)else bnd (Qfy N k.1) λg=>bif (g.2 != 0)then some (zHp,[],[],(WP.mk 0 0 0 0 0 0),g.2)else bnd (Qbb N D k g N 0 g.1.r.f []) λl=>bnd (QfA N (WD.mk g.1.h g.1.o g.1.t g.1.q g.1.d (WP.mk g.1.r.j g.1.r.K g.1.r.F g.1.r.E l.1 g.1.r.y))) λv=>bnd (Qfz N v) λe=>jn (λ(z:Int)=>some ((Wo.mk e.h.c e.h.w e.h.p (wI (1-e.h.s)) z),k.2.1,l.2,e.r,0)) λH=>bif (decide ((e.t.length:Int)>0))then(bnd (Xb e.t (wI ((e.t.length:Int)-1))) λA=>H A)else H (-1)
def Qbm(N:Nat)(e:WI):Nat->Int->(List Int)->Option (List Int)
 |0,_,_=>none
 |n+1,f,g=>
  bif (decide (f<(e.P.length:Int)))then(bnd (Xb e.P f) λh=>
   grd ((g.length+1)*8<=140737488355328) <|
   Qbm N e n (wI (f+1)) (g++[h.a]))
  else some g
def Qek(N:Nat)(e:WI):Option (List Int):=grd (e.R.length*8<=140737488355328) <| bnd (Qc1 N e.l) λf=>grd ((e.R.length+f.length)*8<=140737488355328) <| bnd (Qbt N e.g) λh=>grd (((e.R.length+f.length)+h.length)*8<=140737488355328) <| bnd (Qbm N e N 0 ((e.R++f)++h)) λj=>some j
def QbB(N:Nat)(j:Wm)(g:List Int):Nat->Int->Int->(List UA)->Option (Ex (Wm×Int) (List UA))
 |0,_,_,_=>none
 |n+1,h,f,e=>
  grd (e.length<=140737488355328) <|
  bif (decide (f<(e.length:Int)))then(bnd (Xb e f) λl=>
   bif (!l.V)then QbB N j g n h (wI (f+1)) e
   else bnd (Xb g h) λo=>
   bif (o==0)then some (.ret ((Wm.mk [] [] []),1))
   else bnd (Xb g h) λp=>
   bnd (Xb e f) λk=>
   QbB N j g n (wI (h+1)) (wI (f+1)) (e.set f.toNat (UA.mk k.J p k.V)))
  else some (.nxt e)
def QeR(N:Nat)(f:Wm)(h:List Int):Option (Wm×Int):=bnd (Qcg N f) λj=>bif (!j)then some ((Wm.mk [] [] []),1)else bnd (Qc1 N f) λk=>bif ((h.length:Int) != (k.length:Int))then some ((Wm.mk [] [] []),1)else grd (f.S.length*24<=140737488355328) <| bnd (QbB N f h N 0 0 f.S) λe=>exK e (λr=>some r) λg=>some ((Wm.mk g f.x f.i),0)
def QbC(N:Nat)(g:List Int):Nat->Int->Int->(List WQ)->Option (List WQ)
 |0,_,_,_=>none
 |n+1,h,f,e=>
  grd (e.length<=140737488355328) <|
  bif (decide (f<(e.length:Int)))then(bnd (Xb e f) λk=>
   bif k.V then(bnd (Xb g h) λl=>
    bnd (Xb e f) λj=>
    QbC N g n (wI (h+1)) (wI (f+1)) (e.set f.toNat (WQ.mk j.G l j.V)))
   else QbC N g n h (wI (f+1)) e)
  else some e
def Qc3(N:Nat)(f:Wr)(g:List Int):Option (Wr×Int):=bnd (Qch N f) λj=>bif (!j)then some ((Wr.mk []),1)else bnd (Qbt N f) λh=>grd (h.length<=140737488355328) <| bif ((g.length:Int) != (h.length:Int))then some ((Wr.mk []),1)else grd (f.e.length*24<=140737488355328) <| bnd (QbC N g N 0 0 f.e) λk=>some ((Wr.mk k),0)
def Qbc(N:Nat)(g:WI)(k:Wo×List Int×List Int×WP×Int)(l:List Int)(o:List Int)(p:Wm×Int)(q:Wr×Int)(r:Wr×Int):Nat->Int->(List Uz)->Option (List Uz)
 |0,_,_=>none
 |n+1,e,f=>
  bif (decide (e<(g.P.length:Int)))then(bnd (Xb k.2.1 (wI ((wI ((wI ((g.R.length:Int)+(l.length:Int)))+(o.length:Int)))+e))) λh=>
   bnd (Xb g.P e) λj=>
   grd ((f.length+1)*16<=140737488355328) <|
   Qbc N g k l o p q r n (wI (e+1)) (f++[(Uz.mk h j.M)]))
  else some f
def Qc4(N:Nat)(e:WI):Option (WI×WP×Int):=bnd (QbH N e) λs=>bif (!s)then some ((WI.mk zHp (Wm.mk [] [] []) (Wr.mk []) (Wr.mk []) [] []),(WP.mk 0 0 0 0 0 0),19)else bnd (Qek N e) λu=>bnd (Qbt N e.v) λw=>bnd (QdR N e.h u w) λf=>bif (f.2.2.2.2 != 0)then some ((WI.mk zHp (Wm.mk [] [] []) (Wr.mk []) (Wr.mk []) [] []),(WP.mk 0 0 0 0 0 0),f.2.2.2.2)else bnd (Qc1 N e.l) λj=>bnd (Qbt N e.g) λk=>grd (k.length<=140737488355328) <| grd (0<=0/\0<=(e.R.length:Int)/\(e.R.length:Int)<=(f.2.1.length:Int)) <| grd ((min ((e.R.length:Int).toNat) f.2.1.length)*8<=140737488355328) <| grd (0<=(e.R.length:Int)/\(e.R.length:Int)<=(wI ((e.R.length:Int)+(j.length:Int)))/\(wI ((e.R.length:Int)+(j.length:Int)))<=(f.2.1.length:Int)) <| bnd (QeR N e.l ((f.2.1.drop (e.R.length:Int).toNat).take ((wI ((e.R.length:Int)+(j.length:Int))).toNat-(e.R.length:Int).toNat))) λp=>grd (0<=(wI ((e.R.length:Int)+(j.length:Int)))/\(wI ((e.R.length:Int)+(j.length:Int)))<=(wI ((wI ((e.R.length:Int)+(j.length:Int)))+(k.length:Int)))/\(wI ((wI ((e.R.length:Int)+(j.length:Int)))+(k.length:Int)))<=(f.2.1.length:Int)) <| bnd (Qc3 N e.g ((f.2.1.drop (wI ((e.R.length:Int)+(j.length:Int))).toNat).take ((wI ((wI ((e.R.length:Int)+(j.length:Int)))+(k.length:Int))).toNat-(wI ((e.R.length:Int)+(j.length:Int))).toNat))) λq=>bnd (Qc3 N e.v f.2.2.1) λr=>bnd (Qbc N e f j k p q r N 0 []) λo=>some ((WI.mk f.1 p.1 q.1 r.1 o (f.2.1.take (e.R.length:Int).toNat)),f.2.2.2.1,0)
def QgH(N:Nat)(e:WV):Option Int:=bnd (QaW N e) λf=>bif (!f)then some 0 else some (wI (e.p.tdiv 4))
def QbF(N:Nat)(e:List Wv):Nat->Int->Int->Option Int
 |0,_,_=>none
 |n+1,g,f=>
  bif (decide (f<(e.length:Int)))then(bnd (Xb e f) λh=>
   bif (h.k != 0)then QbF N e n (wI (g+1)) (wI (f+1))
   else QbF N e n g (wI (f+1)))
  else some g
def QcS(N:Nat)(e:List Wv):Option Int:=bnd (QbF N e N 0 0) λf=>some f
def QeX(N:Nat)(e:Wo)(o:Int):Option (Wo×Int×Bool):=grd (e.p.length*32<=140737488355328) <| bnd (QgH N e.c) λz=>bnd (QcS N e.p) λA=>jn (λ(_:Unit)=>bnd (Qbp N e.p 1) λf=>bif (decide (f<0))then some (zHp,0,false)else bif (decide (A>=z))then some (zHp,0,false)else bnd (QbJ N e.p f e.s) λj=>bnd (Xb j.1 f) λq=>bnd (Xb j.1 f) λr=>bnd (Xb j.1 f) λg=>some ((Wo.mk e.c e.w (j.1.set f.toNat (Wv.mk g.k g.s (wI (r.u+o)) g.P)) e.s f),(wU (wI ((wI (4096+(wI (f*e.c.W))))+q.u))),true)) λl=>bif (decide (e.b<0))then l ()else bnd (Xb e.p e.b) λB=>bif (B.s != e.s)then l ()else bnd (Xb e.p e.b) λD=>bif (decide ((wI (D.u+o))>e.c.W))then l ()else bif (decide (A>z))then l ()else bnd (Xb e.p e.b) λv=>bnd (Xb e.p e.b) λy=>bnd (Xb e.p e.b) λh=>some ((Wo.mk e.c e.w (e.p.set e.b.toNat (Wv.mk h.k h.s (wI (y.u+o)) h.P)) e.s e.b),(wU (wI ((wI (4096+(wI (e.b*e.c.W))))+v.u))),true)
def Qee(N:Nat)(j:WV)(k:List Wv)(l:Int)(e:Int)(f:Int):Option (List Wv×Int):=bnd (Qfx N j f) λg=>bif (decide (g<1))then some ([],1)else bif (decide (e<0))then some ([],1)else bif (decide (e>1))then some ([],1)else bnd (QdD N k l g (Wv.mk 2 e f 0) (Wv.mk 3 e 0 0)) λh=>some (h.1,h.2)
def QfP(N:Nat)(e:Wo)(h:Int)(g:Int):Option (Wo×Int×Bool):=bnd (Qbp N e.p g) λf=>bif (decide (f<0))then some (zHp,0,false)else bnd (QcS N e.p) λj=>bnd (QgH N e.c) λk=>bif (decide ((wI (j+g))>k))then some (zHp,0,false)else bnd (Qee N e.c e.p f e.s h) λl=>some ((Wo.mk e.c e.w l.1 e.s e.b),(wU (wI (4096+(wI (f*e.c.W))))),true)
def Qcb(N:Nat)(e:Wo)(j:Int)(f:WC):Option (Wo×Int):=bnd (QcM N f) λh=>bnd (Qac N e) λk=>bif (!k)then some (zHp,1)else bif (h.2 != 0)then some (zHp,1)else grd (0<=f.n/\f.n.toNat*8<=140737488355328) <| grd ((1+f.n.toNat)*8<=140737488355328) <| bnd (Qci N e.w j ([h.1]++(List.replicate f.n.toNat (0:Int)))) λg=>bif (g.2 != 0)then some (zHp,g.2)else some ((Wo.mk e.c g.1 e.p e.s e.b),0)
def QcG(N:Nat)(g:Wo)(h:WC):Option (Wo×Int×Int):=bnd (Qac N g) λA=>bif (!A)then some (zHp,0,1)else bnd (Qck N g.c h) λB=>bif (!B)then some (zHp,0,1)else bnd (QcZ N h) λj=>bnd (Qfx N g.c j) λv=>bnd (QeX N g j) λe=>jn (λ(y:Int) (D:Bool) (E:Int) (k:Int) (l:List Int) (o:List Wv) (q:Int) (r:Int)=>bif (!D)then some (zHp,0,3)else bnd (Qcb N (Wo.mk (WV.mk E k) l o q r) y h) λu=>some (u.1,y,0)) λz=>bif (decide (v>0))then(bnd (QfP N g j v) λf=>z f.2.1 f.2.2 f.1.c.W f.1.c.p f.1.w f.1.p f.1.s f.1.b)else z e.2.1 e.2.2 e.1.c.W e.1.c.p e.1.w e.1.p e.1.s e.1.b
def QeY(N:Nat)(f:WI)(K:WC):Option (WI×Int×Int):=bnd (QbH N f) λO=>bif (!O)then some ((WI.mk zHp (Wm.mk [] [] []) (Wr.mk []) (Wr.mk []) [] []),0,19)else bnd (QcG N f.h K) λk=>jn (λ(T:Int) (L:Int) (Z:Int) (x8:Int) (x9:List Int) (U:List Wv) (V:Int) (Y:Int) (q:List UA) (r:List UG) (u:List Int) (y:List WQ) (z:List WQ) (A:List Uz) (B:List Int) (D:Int) (E:Int) (G:List Int) (H:List Wv) (I:Int) (J:Int)=>bif (L != 0)then some ((WI.mk zHp (Wm.mk [] [] []) (Wr.mk []) (Wr.mk []) [] []),0,L)else some ((WI.mk (Wo.mk (WV.mk D E) G H I J) (Wm.mk q r u) (Wr.mk y) (Wr.mk z) A B),T,0)) λM=>bif (k.2.2==3)then(bnd (Qc4 N f) λj=>bif (j.2.2 != 0)then some ((WI.mk zHp (Wm.mk [] [] []) (Wr.mk []) (Wr.mk []) [] []),0,j.2.2)else bnd (QcG N j.1.h K) λo=>M o.2.1 o.2.2 j.1.h.c.W j.1.h.c.p j.1.h.w j.1.h.p j.1.h.s j.1.h.b j.1.l.S j.1.l.x j.1.l.i j.1.g.e j.1.v.e j.1.P j.1.R o.1.c.W o.1.c.p o.1.w o.1.p o.1.s o.1.b)else M k.2.1 k.2.2 f.h.c.W f.h.c.p f.h.w f.h.p f.h.s f.h.b f.l.S f.l.x f.l.i f.g.e f.v.e f.P f.R k.1.c.W k.1.c.p k.1.w k.1.p k.1.s k.1.b
def Qhq(N:Nat)(e:UM):Option Bool:=bif (decide (e.Tag>=1))then(bif (decide (e.Tag<=3))then(bif (decide (e.Index>=0))then(bif (decide (e.Index<=65535))then(bif (decide (e.J>=1))then some (decide (e.J<=4294967295))else some false)else some false)else some false)else some false)else some false
def Qbd(N:Nat)(e:UM):Option (Int×Int):=bnd (Qhq N e) λf=>bif (!f)then some (0,1)else some ((wU ((wU ((wU e.Tag)+(ZP .u64 (wU e.Index) 2)))+(ZP .u64 (wU e.J) 18))),0)
def Qbq(N:Nat)(e:WI)(k:Int):Option (WI×Int×Int):=bif (k==0)then some (e,0,0)else bnd (Qej N e.l k) λf=>bif (f.2.2.2 != 0)then(bnd (Qad N f.2.2.2) λj=>some (j.1,j.2.1,j.2.2))else bnd (Qbd N (UM.mk 1 f.2.1 f.2.2.1)) λo=>some ((WI.mk e.h f.1 e.g e.v e.P e.R),o.1,0)
def QdE(N:Nat)(e:WI)(u:Int)(v:Int)(w:Int):Option (WI×Int×Int):=bif (decide ((e.P.length:Int)>0))then(bnd (Qad N 15) λg=>some (g.1,g.2.1,g.2.2))else bnd (QbI N u v w) λj=>jn (λ(_:Unit)=>bnd (Qad N 1) λk=>some (k.1,k.2.1,k.2.2)) λr=>bif (!j.2)then r ()else bnd (Qck N e.h.c j.1) λy=>bif (!y)then r ()else bnd (Qej N e.l 1) λs=>bif (s.2.2.2 != 0)then(bnd (Qad N s.2.2.2) λo=>some (o.1,o.2.1,o.2.2))else bnd (QeY N e j.1) λf=>bif (f.2.2 != 0)then(bnd (Qad N f.2.2) λp=>some (p.1,p.2.1,p.2.2))else bnd (Qbq N f.1 f.2.1) λq=>some (q.1,q.2.1,q.2.2)
def QcT(N:Nat)(e:Int):Option (UM×Int):=bif (e==0)then some ((UM.mk 0 0 0),5)else bnd (Qbd N (UM.mk (wI (Y2 .u64 e 3)) (wI (Y2 .u64 (YC .u64 e 2) 65535)) (wI (YC .u64 e 18)))) λf=>bif (f.2 != 0)then some ((UM.mk 0 0 0),6)else bif (f.1 != e)then some ((UM.mk 0 0 0),6)else some ((UM.mk (wI (Y2 .u64 e 3)) (wI (Y2 .u64 (YC .u64 e 2) 65535)) (wI (YC .u64 e 18))),0)
def QeZ(N:Nat)(e:Wm)(f:Int)(g:Int):Option (Int×Int):=bnd (Qcg N e) λh=>bif (!h)then some (0,1)else bif (decide (g<1))then some (0,6)else bif (decide (g>(e.i.length:Int)))then some (0,6)else bnd (Xb e.i (wI (g-1))) λj=>bif (j != f)then some (0,6)else bif (decide (f>=(e.S.length:Int)))then some (0,7)else bnd (Xb e.S f) λk=>bif (k.J != g)then some (0,7)else bnd (Xb e.S f) λl=>bif (!l.V)then some (0,8)else bnd (Xb e.S f) λo=>some (o.a,0)
def Qel(N:Nat)(f:Wr)(g:Int)(h:Int):Option (Int×Int):=bnd (Qch N f) λj=>bif (!j)then some (0,1)else bif (decide (g<0))then some (0,6)else bif (decide (g>=(f.e.length:Int)))then some (0,6)else bif (decide (h<1))then some (0,6)else bnd (Xb f.e g) λk=>bif (decide (h>k.G))then some (0,6)else bnd (Xb f.e g) λl=>bif (decide (h<l.G))then some (0,8)else bnd (Xb f.e g) λo=>bif (!o.V)then some (0,8)else bnd (Xb f.e g) λp=>some (p.a,0)
def QaB(N:Nat)(f:WI)(h:Int):Option (Int×Int):=bnd (QbH N f) λp=>bif (!p)then some (0,19)else bif (h==0)then some (0,0)else bnd (QcT N h) λe=>bif (e.2 != 0)then some (0,e.2)else bif (e.1.Tag==1)then(bnd (QeZ N f.l e.1.Index e.1.J) λj=>some (j.1,j.2))else bif (e.1.Tag==2)then(bnd (Qel N f.g e.1.Index e.1.J) λk=>some (k.1,k.2))else bnd (Qel N f.v e.1.Index e.1.J) λo=>some (o.1,o.2)
def QaN(N:Nat)(f:WI)(g:Int):Option (Int×Int):=bnd (QaB N f g) λe=>bif (e.2==0)then(bif (e.1==0)then some (0,5)else some (e.1,e.2))else some (e.1,e.2)
def QcU(N:Nat)(g:WI)(k:Int)(f:Int)(l:Bool):Option (Int×Int×Int):=bnd (QaN N g k) λe=>bif (e.2 != 0)then some (0,0,e.2)else bnd (QcF N g.h e.1) λj=>bif (decide (f>=(wU j.1.n)))then some (0,0,2)else bnd (Qcf N j.1 (wI f)) λo=>bif (!(o==l))then some (0,0,4)else some (e.1,(wI f),0)
def Qef(N:Nat)(g:Wo)(h:Int)(e:Int):Option (Int×Int):=bnd (QcF N g h) λf=>bif (f.2 != 0)then some (0,f.2)else bif (decide (e<0))then some (0,2)else bif (decide (e>=f.1.n))then some (0,2)else bnd (Qbl N g.w (wU ((wU (h+1))+(wU e)))) λj=>some (j.1,j.2)
def Qcm(N:Nat)(e:Wo)(f:Int)(g:Int)(j:Int):Option (Wo×Int):=bnd (Qef N e f g) λh=>bif (h.2 != 0)then some (zHp,h.2)else bnd (QcP N e.w (wU ((wU (f+1))+(wU g))) j) λk=>some ((Wo.mk e.c k.1 e.p e.s e.b),0)
def Qdv(N:Nat)(e:WI)(j:Int)(w:Int)(y:Int)(z:Int):Option (WI×Int×Int):=jn (λ(A:Int) (B:Int) (D:Int)=>bif (D != 0)then(bnd (Qad N D) λk=>some (k.1,k.2.1,k.2.2))else bnd (Qef N e.h A B) λE=>bif (j==6)then some (e,E.1,0)else bif (j==8)then(bnd (Qbq N e E.1) λo=>some (o.1,o.2.1,o.2.2))else jn (λ(p:Int)=>bnd (Qcm N e.h A B p) λq=>some ((WI.mk q.1 e.l e.g e.v e.P e.R),0,0)) λG=>bif (j==9)then(bnd (QaB N e z) λr=>bif (r.2 != 0)then(bnd (Qad N r.2) λf=>some (f.1,f.2.1,f.2.2))else G r.1)else G z) λH=>bif (j==8)then(bnd (QcU N e w y true) λs=>H s.1 s.2.1 s.2.2)else bnd (QcU N e w y (j==9)) λu=>H u.1 u.2.1 u.2.2
def Qdw(N:Nat)(e:WI)(j:Int)(l:Int)(z:Int):Option (WI×Int×Int):=jn (λ(A:Bool)=>bif A then(bnd (QaN N e l) λo=>bif (o.2 != 0)then(bnd (Qad N o.2) λp=>some (p.1,p.2.1,p.2.2))else bnd (QcF N e.h o.1) λw=>bif (j==4)then some (e,(wU w.1.n),0)else some (e,(wU w.1.k),0))else bif (j==10)then(bnd (QaB N e l) λq=>bif (q.2 != 0)then(bnd (Qad N q.2) λr=>some (r.1,r.2.1,r.2.2))else bnd (QaB N e z) λs=>bif (s.2 != 0)then(bnd (Qad N s.2) λu=>some (u.1,u.2.1,u.2.2))else bif (q.1==s.1)then some (e,1,0)else some (e,0,0))else bnd (QaB N e l) λv=>bif (v.2 != 0)then(bnd (Qad N v.2) λf=>some (f.1,f.2.1,f.2.2))else bnd (Qbq N e v.1) λg=>some (g.1,g.2.1,g.2.2)) λy=>bif (j==4)then y true else y (j==5)
def QbU(N:Nat)(g:Wr)(h:Int):Nat->Int->Option (Ex (Wr×Int×Int×Int) Unit)
 |0,_=>none
 |n+1,f=>
  grd (g.e.length<=140737488355328) <|
  bif (decide (f<(g.e.length:Int)))then(bnd (Xb g.e f) λk=>
   bif (!k.V)then(bnd (Xb g.e f) λl=>
    bif (decide (l.G<4294967295))then(bnd (Xb g.e f) λj=>
     bnd (Xb g.e f) λp=>
     bnd (Xb (g.e.set f.toNat (WQ.mk (wI (j.G+1)) h true)) f) λo=>
     some (.ret ((Wr.mk (g.e.set f.toNat (WQ.mk (wI (j.G+1)) h true))),f,o.G,0)))
    else QbU N g h n (wI (f+1)))
   else QbU N g h n (wI (f+1)))
  else some (.nxt ())
def QcH(N:Nat)(f:Wr)(g:Int):Option (Wr×Int×Int×Int):=bnd (Qch N f) λh=>bif (!h)then some ((Wr.mk []),0,0,1)else grd (f.e.length*24<=140737488355328) <| bnd (QbU N f g N 0) λe=>exK e (λr=>some r) λj=>grd (f.e.length<=140737488355328) <| bif ((f.e.length:Int)==64)then some ((Wr.mk []),0,0,18)else grd ((f.e.length+1)*24<=140737488355328) <| grd (f.e.length<=140737488355328) <| some ((Wr.mk (f.e++[(WQ.mk 1 g true)])),(f.e.length:Int),1,0)
def QdS(N:Nat)(f:WI)(q:Int)(u:Int):Option (WI×Int×Int):=bnd (QaN N f u) λk=>bif (k.2 != 0)then(bnd (Qad N k.2) λo=>some (o.1,o.2.1,o.2.2))else jn (λ(w:Int) (y:List WQ)=>bnd (QcH N (Wr.mk y) k.1) λj=>bif (j.2.2.2 != 0)then(bnd (Qad N j.2.2.2) λp=>some (p.1,p.2.1,p.2.2))else jn (λ(z:List WQ) (A:List WQ)=>bnd (Qbd N (UM.mk w j.2.1 j.2.2.1)) λB=>some ((WI.mk f.h f.l (Wr.mk z) (Wr.mk A) f.P f.R),B.1,0)) λr=>bif (q==15)then r f.g.e j.1.e else r j.1.e f.v.e) λs=>bif (q==15)then s 3 f.v.e else s 2 f.g.e
def Qem(N:Nat)(e:Wm)(f:Int)(g:Int):Option (Wm×Int):=bnd (QeZ N e f g) λh=>bif (h.2 != 0)then some ((Wm.mk [] [] []),h.2)else grd (e.S.length*24<=140737488355328) <| bnd (Xb e.S f) λj=>some ((Wm.mk (e.S.set f.toNat (UA.mk g 0 false)) e.x e.i),0)
def QhE(N:Nat)(f:Wr)(g:Int)(h:WQ):Option Wr:=grd (f.e.length*24<=140737488355328) <| bnd (Xb f.e g) λj=>some (Wr.mk (f.e.set g.toNat h))
def QcV(N:Nat)(e:Wr)(f:Int)(g:Int):Option (Wr×Int):=bnd (Qel N e f g) λh=>bif (h.2 != 0)then some ((Wr.mk []),h.2)else bnd (QhE N e f (WQ.mk g 0 false)) λj=>some (j,0)
def QdF(N:Nat)(e:WI)(j:Int)(p:Int):Option (WI×Int×Int):=bif (p==0)then(bnd (Qad N 5) λq=>some (q.1,q.2.1,q.2.2))else bnd (QaB N e p) λu=>bif (u.2 != 0)then(bnd (Qad N u.2) λr=>some (r.1,r.2.1,r.2.2))else bnd (QcT N p) λf=>jn (λ(_:Unit)=>bif (j==12)then(bnd (Qem N e.l f.1.Index f.1.J) λw=>some ((WI.mk e.h w.1 e.g e.v e.P e.R),0,0))else bif (j==14)then(bnd (QcV N e.g f.1.Index f.1.J) λy=>some ((WI.mk e.h e.l y.1 e.v e.P e.R),0,0))else bnd (QcV N e.v f.1.Index f.1.J) λz=>some ((WI.mk e.h e.l e.g z.1 e.P e.R),0,0)) λk=>jn (λ(_:Unit)=>bnd (Qad N 4) λs=>some (s.1,s.2.1,s.2.2)) λo=>bif (j==12)then(bif (f.1.Tag != 1)then o ()else bif (j==14)then(bif (f.1.Tag != 2)then o ()else bif (j==16)then(bif (f.1.Tag != 3)then o ()else k ())else k ())else bif (j==16)then(bif (f.1.Tag != 3)then o ()else k ())else k ())else bif (j==14)then(bif (f.1.Tag != 2)then o ()else bif (j==16)then(bif (f.1.Tag != 3)then o ()else k ())else k ())else bif (j==16)then(bif (f.1.Tag != 3)then o ()else k ())else k ()
def Qha(N:Nat)(e:Wm)(f:Int)(g:Bool):Option (Wm×Int):=bnd (Qcg N e) λj=>bif (!j)then some ((Wm.mk [] [] []),1)else bif (decide (f<0))then some ((Wm.mk [] [] []),1)else bif (decide (f>64))then some ((Wm.mk [] [] []),1)else jn (λ(_:Unit)=>bif ((e.x.length:Int)==64)then some ((Wm.mk [] [] []),17)else grd (e.x.length*24<=140737488355328) <| grd ((e.x.length+1)*24<=140737488355328) <| some ((Wm.mk e.S (e.x++[(UG.mk (e.S.length:Int) f g)]) e.i),0)) λh=>bif (!g)then(bif ((e.x.length:Int)==0)then some ((Wm.mk [] [] []),9)else h ())else h ()
def QeS(N:Nat)(f:Wm)(g:Int):Option (Wm×Int):=bnd (Qha N f g false) λe=>some (e.1,e.2)
def QhF(N:Nat)(e:Wm)(f:Int):Option Wm:=bnd (Xb e.x f) λg=>grd (0<=0/\0<=g.O/\g.O<=(e.S.length:Int)) <| grd ((min g.O.toNat e.S.length)*24<=140737488355328) <| grd (0<=0/\0<=f/\f<=(e.x.length:Int)) <| grd ((min f.toNat e.x.length)*24<=140737488355328) <| some (Wm.mk (e.S.take g.O.toNat) (e.x.take f.toNat) e.i)
def QfB(N:Nat)(e:Wm):Option (Wm×Int):=bnd (Qcg N e) λf=>bif (!f)then some ((Wm.mk [] [] []),1)else bif ((e.x.length:Int)==0)then some ((Wm.mk [] [] []),9)else bnd (Xb e.x (wI ((e.x.length:Int)-1))) λg=>bif g.B0 then some ((Wm.mk [] [] []),9)else bnd (QhF N e (wI ((e.x.length:Int)-1))) λh=>some (h,0)
def Qen(N:Nat)(e:WI)(w:Int)(f:Int):Option (WI×Int×Int):=bif (w==17)then(bif (decide (f>64))then(bnd (Qad N 1) λj=>some (j.1,j.2.1,j.2.2))else bnd (QeS N e.l (wI f)) λk=>bif (k.2 != 0)then(bnd (Qad N k.2) λo=>some (o.1,o.2.1,o.2.2))else some ((WI.mk e.h k.1 e.g e.v e.P e.R),0,0))else bnd (QaB N e f) λp=>bif (p.2 != 0)then(bnd (Qad N p.2) λq=>some (q.1,q.2.1,q.2.2))else bnd (QfB N e.l) λr=>bif (r.2 != 0)then(bnd (Qad N r.2) λs=>some (s.1,s.2.1,s.2.2))else bnd (Qbq N (WI.mk e.h r.1 e.g e.v e.P e.R) p.1) λu=>some (u.1,u.2.1,u.2.2)
def Qcj(N:Nat)(e:Wo)(h:Int)(j:Int):Option Wo:=grd (e.p.length*32<=140737488355328) <| bnd (Qgk N e h) λf=>bnd (Xb e.p f) λl=>bnd (Xb e.p f) λg=>some (Wo.mk e.c e.w (e.p.set f.toNat (Wv.mk g.k g.s g.u (wI (l.P+j)))) e.s e.b)
def QdT(N:Nat)(k:Wo)(f:List Uz)(j:Int):Option (Wo×List Uz×Int):=bnd (Qbo N k f) λl=>bif (!l)then some (zHp,[],19)else bif (j==0)then some (zHp,[],5)else bnd (QhA N f j) λe=>bif (decide (e<0))then some (zHp,[],12)else grd (f.length*16<=140737488355328) <| bnd (Xb f e) λg=>bnd (Xb f e) λh=>bnd (Xb (f.set e.toNat (Uz.mk h.a (wI (g.M-1)))) e) λo=>bif (o.M==0)then(grd (0<=0/\0<=e/\e<=(f.length:Int)) <| grd (0<=(wI (e+1))/\(wI (e+1))<=(f.length:Int)/\(f.length:Int)<=(f.length:Int)) <| grd (e.toNat≠f.length/\(e.toNat+(f.length-(wI (e+1)).toNat))<=f.length) <| bnd (Qcj N k j (-1)) λp=>some (p,(((((f.set e.toNat (Uz.mk h.a (wI (g.M-1)))).take e.toNat)++(((f.set e.toNat (Uz.mk h.a (wI (g.M-1)))).drop (wI (e+1)).toNat).take (f.length-(wI (e+1)).toNat)))++((f.set e.toNat (Uz.mk h.a (wI (g.M-1)))).drop (e.toNat+(f.length-(wI (e+1)).toNat)))).take (e.toNat+(f.length-(wI (e+1)).toNat))),0))else bnd (Qcj N k j (-1)) λq=>some (q,(f.set e.toNat (Uz.mk h.a (wI (g.M-1)))),0)
def Qd2(N:Nat)(e:Wo)(f:Int):Option Bool:=bnd (QaK N e) λg=>bnd (Qdl N g.1 f) λh=>some h
def QbP(N:Nat)(e:Wo)(h:Int):Nat->Int->Int->Option Int
 |0,_,_=>none
 |n+1,g,f=>
  bif (decide (f<(e.p.length:Int)))then(bnd (Xb e.p f) λj=>
   bif (j.k==1)then(bnd (Xb e.p f) λl=>
    bif (decide (l.P>0))then QbP N e h n (wI (g+1)) (wI (f+1))
    else QbP N e h n g (wI (f+1)))
   else QbP N e h n g (wI (f+1)))
  else some g
def Qc5(N:Nat)(e:Wo)(f:Int):Option Bool:=bnd (QbO N e) λh=>bif (!h)then some false else bnd (Qd2 N e f) λj=>bif (!j)then some false else bnd (QbP N e f N 0 0) λl=>bnd (Qgk N e f) λo=>bnd (Xb e.p o) λg=>bif (g.k==1)then(bif (g.P==0)then some (decide (l>=(wI (e.c.p.tdiv 4))))else some false)else some false
def Qge(N:Nat)(h:Wo)(e:List Uz)(f:Int):Option (Wo×List Uz×Int×Int):=bnd (Qbo N h e) λq=>bif (!q)then some (zHp,[],0,19)else bif (f==0)then some (zHp,[],0,5)else bnd (Qd2 N h f) λr=>bif (!r)then some (zHp,[],0,1)else bnd (QhA N e f) λg=>jn (λ(_:Unit)=>grd (e.length*16<=140737488355328) <| jn (λ(k:List Uz)=>bnd (Qcj N h f 1) λl=>some (l,k,(wU (f+1)),0)) λp=>bif (decide (g>=0))then(bnd (Xb e g) λs=>bnd (Xb e g) λo=>p (e.set g.toNat (Uz.mk o.a (wI (s.M+1)))))else grd ((e.length+1)*16<=140737488355328) <| p (e++[(Uz.mk f 1)])) λj=>bif (decide (g>=0))then(bnd (Xb e g) λu=>bif (u.M==1000)then some (zHp,[],0,18)else bif (decide (g<0))then(bif ((e.length:Int)==64)then some (zHp,[],0,18)else bnd (Qc5 N h f) λv=>bif v then some (zHp,[],0,18)else j ())else bnd (Qc5 N h f) λw=>bif w then some (zHp,[],0,18)else j ())else bif (decide (g<0))then(bif ((e.length:Int)==64)then some (zHp,[],0,18)else bnd (Qc5 N h f) λy=>bif y then some (zHp,[],0,18)else j ())else bnd (Qc5 N h f) λz=>bif z then some (zHp,[],0,18)else j ()
def QfC(N:Nat)(e:WI)(r:Int)(s:Int):Option (WI×Int×Int):=bnd (QaN N e s) λj=>bif (j.2 != 0)then(bnd (Qad N j.2) λo=>some (o.1,o.2.1,o.2.2))else bif (r==20)then(bnd (QdT N e.h e.P j.1) λk=>bif (k.2.2 != 0)then(bnd (Qad N k.2.2) λp=>some (p.1,p.2.1,p.2.2))else some ((WI.mk k.1 e.l e.g e.v k.2.1 e.R),0,0))else bnd (Qge N e.h e.P j.1) λf=>bif (f.2.2.2 != 0)then(bnd (Qad N f.2.2.2) λq=>some (q.1,q.2.1,q.2.2))else some ((WI.mk f.1 e.l e.g e.v f.2.1 e.R),f.2.2.1,0)
def Qae(N:Nat)(f:WI)(e:Int)(g:Int)(v:Int)(W:Int):Option (WI×Int×Int):=bnd (QbH N f) λY=>bif (!Y)then(bnd (Qad N 19) λw=>some (w.1,w.2.1,w.2.2))else jn (λ(Z:Bool)=>bif Z then(bnd (QdE N f e g v) λy=>some (y.1,y.2.1,y.2.2))else jn (λ(x8:Bool)=>bif x8 then(bnd (Qdv N f e g v W) λz=>some (z.1,z.2.1,z.2.2))else jn (λ(A:Bool)=>bif A then(bnd (Qdw N f e g v) λh=>some (h.1,h.2.1,h.2.2))else jn (λ(B:Bool)=>bif B then(bnd (QdS N f e g) λj=>some (j.1,j.2.1,j.2.2))else jn (λ(D:Bool)=>bif D then(bnd (QdF N f e g) λk=>some (k.1,k.2.1,k.2.2))else jn (λ(E:Bool)=>bif E then(bnd (Qen N f e g) λl=>some (l.1,l.2.1,l.2.2))else jn (λ(G:Bool)=>bif G then(bnd (QfC N f e g) λo=>some (o.1,o.2.1,o.2.2))else bnd (Qad N 1) λp=>some (p.1,p.2.1,p.2.2)) λq=>bif (e==19)then q true else q (e==20)) λr=>bif (e==17)then r true else r (e==18)) λs=>bif (e==12)then s true else jn (λ(H:Bool)=>s H) λu=>bif (e==14)then u true else u (e==16)) λK=>bif (e==13)then K true else K (e==15)) λL=>bif (e==4)then L true else jn (λ(I:Bool)=>L I) λM=>bif (e==5)then M true else jn (λ(J:Bool)=>M J) λO=>bif (e==10)then O true else O (e==11)) λR=>bif (e==6)then R true else jn (λ(x7:Bool)=>R x7) λS=>bif (e==7)then S true else jn (λ(x6:Bool)=>S x6) λT=>bif (e==8)then T true else T (e==9)) λU=>bif (e==1)then U true else jn (λ(x3:Bool)=>U x3) λV=>bif (e==2)then V true else V (e==3)
def QdG(N:Nat)(g:WU)(e:List Int):Nat->Int->Option (Ex Bool Unit)
 |0,_=>none
 |n+1,f=>
  bif (decide (f<(e.length:Int)))then(bnd (Xb e f) λh=>
   bif (decide (h>(wU (g.T.length:Int))))then some (.ret false)
   else QdG N g e n (wI (f+1)))
  else some (.nxt ())
def QdH(N:Nat)(f:WU)(g:List Int):Option Bool:=bnd (QdG N f g N 0) λe=>exK e (λr=>some r) λh=>some true
def Qey(N:Nat)(e:Ii):Nat->Int->(List Int)->Option (List Int)
 |0,_,_=>none
 |n+1,f,g=>
  bif (decide (f<(e.D.length:Int)))then(bnd (Qcf N e.H f) λh=>
   bif h then(bnd (Xb e.D f) λj=>
    grd ((g.length+1)*8<=140737488355328) <|
    Qey N e n (wI (f+1)) (g++[j]))
   else Qey N e n (wI (f+1)) g)
  else some g
def Qhb(N:Nat)(e:Ii):Option (List Int):=bnd (Qey N e N 0 []) λf=>some f
def Qfn(N:Nat)(f:WU)(g:Int):Nat->Int->Option (Ex Int Unit)
 |0,_=>none
 |n+1,e=>
  bif (decide (e<(f.m.length:Int)))then(bnd (Xb f.m e) λh=>
   bif (h.I==g)then some (.ret e)
   else Qfn N f g n (wI (e+1)))
  else some (.nxt ())
def Qgn(N:Nat)(f:WU)(g:Int):Option Int:=bnd (Qfn N f g N 0) λe=>exK e (λr=>some r) λh=>some (-1)
def Qd3(N:Nat)(f:WU):Nat->Int->Option (Ex Bool Unit)
 |0,_=>none
 |n+1,g=>
  bif (decide (g<(f.T.length:Int)))then(bnd (Xb f.T g) λe=>
   bnd (Qdu N e.H) λh=>
   bif (!h)then some (.ret false)
   else bif (e.H.k==0)then some (.ret false)
   else bif ((e.D.length:Int) != e.H.n)then some (.ret false)
   else bnd (Qhb N e) λj=>
   bnd (QdH N f j) λl=>
   bif (!l)then some (.ret false)
   else Qd3 N f n (wI (g+1)))
  else some (.nxt ())
def Qd4(N:Nat)(h:WU)(e:List Int):Nat->Int->Option (Ex Bool Unit)
 |0,_=>none
 |n+1,f=>
  grd (e.length<=140737488355328) <|
  bif (decide (f<(e.length:Int)))then(bnd (Xb e f) λg=>
   bif (g==0)then some (.ret false)
   else Qd4 N h e n (wI (f+1)))
  else some (.nxt ())
def Qd5(N:Nat)(g:WU)(h:List Int):Nat->Int->Option (Ex Bool Unit)
 |0,_=>none
 |n+1,f=>
  bif (decide (f<(g.m.length:Int)))then(bnd (Xb g.m f) λe=>
   bif (decide (e.I<1))then some (.ret false)
   else bif (decide (e.I>(wU (g.T.length:Int))))then some (.ret false)
   else bnd (Qgn N g e.I) λj=>
   bif (j != f)then some (.ret false)
   else bif (decide (e.M<1))then some (.ret false)
   else bif (decide (e.M>1000))then some (.ret false)
   else Qd5 N g h n (wI (f+1)))
  else some (.nxt ())
def Qe0(N:Nat)(f:WU):Option Bool:=bnd (QaW N f.c) λu=>bif (!u)then some false else bnd (Qcg N f.l) λw=>bif (!w)then some false else bnd (Qch N f.g) λy=>bif (!y)then some false else bnd (Qch N f.v) λz=>bif (!z)then some false else bif (decide ((f.m.length:Int)>64))then some false else bnd (Qd3 N f N 0) λe=>exK e (λr=>some r) λA=>bnd (Qbt N f.g) λh=>bnd (Qd4 N f h N 0) λe=>exK e (λr=>some r) λB=>bnd (Qd5 N f h N 0) λe=>exK e (λr=>some r) λD=>bnd (QdH N f f.R) λj=>bif j then(bnd (Qc1 N f.l) λk=>bnd (QdH N f k) λo=>bif o then(bnd (QdH N f h) λp=>bif p then(bnd (Qbt N f.v) λq=>bnd (QdH N f q) λs=>some s)else some false)else some false)else some false
def QfD(N:Nat)(e:WU):Nat->Int->(List Int)->Option (List Int)
 |0,_,_=>none
 |n+1,f,g=>
  bif (decide (f<(e.m.length:Int)))then(bnd (Xb e.m f) λh=>
   grd ((g.length+1)*8<=140737488355328) <|
   QfD N e n (wI (f+1)) (g++[h.I]))
  else some g
def QhP(N:Nat)(e:WU):Option (List Int):=grd (e.R.length*8<=140737488355328) <| bnd (Qc1 N e.l) λf=>grd ((e.R.length+f.length)*8<=140737488355328) <| bnd (Qbt N e.g) λh=>grd (((e.R.length+f.length)+h.length)*8<=140737488355328) <| bnd (QfD N e N 0 ((e.R++f)++h)) λj=>some j
def Qc9(N:Nat)(j:WU):Nat->Int->(List Bool)->(List Int)->Option (List Bool)
 |0,_,_,_=>none
 |n+1,f,g,e=>
  grd (e.length<=140737488355328) <|
  bif (decide (f<(e.length:Int)))then(bnd (Xb e f) λp=>
   bif (p==0)then Qc9 N j n (wI (f+1)) g e
   else bnd (Xb e f) λq=>
   bnd (Xb g (wU (q-1))) λr=>
   bif r then Qc9 N j n (wI (f+1)) g e
   else bnd (Xb e f) λo=>
   bnd (Xb g (wU (o-1))) λs=>
   bnd (Xb e f) λk=>
   bnd (Xb j.T (wU (k-1))) λl=>
   bnd (Qhb N l) λh=>
   grd ((e.length+h.length)*8<=140737488355328) <|
   Qc9 N j n (wI (f+1)) (g.set (wU (o-1)).toNat true) (e++h))
  else some g
def Qgw(N:Nat)(e:WU):Option (List Bool):=bnd (Qe0 N e) λg=>bif (!g)then some []else grd (0<=(e.T.length:Int)/\(e.T.length:Int).toNat<=140737488355328) <| bnd (QhP N e) λh=>bnd (Qc9 N e N 0 (List.replicate (e.T.length:Int).toNat false) h) λf=>some f
def Qbe(N:Nat)(h:WU)(g:List Bool):Nat->Int->(List Int)->Option (List Int)
 |0,_,_=>none
 |n+1,f,e=>
  grd (e.length<=140737488355328) <|
  bif (decide (f<(e.length:Int)))then(bnd (Xb e f) λj=>
   bif (j != 0)then(bnd (Xb e f) λk=>
    bnd (Xb g (wU (k-1))) λl=>
    bif (!l)then(bnd (Xb e f) λo=>
     Qbe N h g n (wI (f+1)) (e.set f.toNat 0))
    else Qbe N h g n (wI (f+1)) e)
   else Qbe N h g n (wI (f+1)) e)
  else some e
def QdU(N:Nat)(e:WU):Option (WU×Int):=bnd (Qe0 N e) λj=>bif (!j)then some (zWd,19)else bnd (Qgw N e) λk=>bnd (Qbt N e.v) λo=>bnd (Qbe N e k N 0 o) λf=>bnd (Qc3 N e.v f) λh=>some ((WU.mk e.c e.T e.l e.g h.1 e.m e.R),0)
def Qfo(N:Nat)(o:WI)(p:WI)(k:Int)(q:Int)(e:Int):Option Oo:=jn (λ(f:Bool)=>jn (λ(g:Bool)=>bif (k==19)then(bif (e==0)then some (Oo.mk f g q)else some (Oo.mk f g 0))else some (Oo.mk f g 0)) λl=>bif (e==0)then l (o.h.s != p.h.s)else l false) λj=>bif (e==3)then j true else bif (e==18)then j (k==19)else j false
def Qdx(N:Nat)(f:Wm)(e:Int):Option Int:=bif (e==0)then some 0 else bnd (Qej N f e) λg=>some g.2.2.2
def Qgx(N:Nat)(e:WU)(h:Int)(j:Int)(k:Int)(o:Bool):Option Int:=bif (decide ((e.m.length:Int)>0))then some 15 else bnd (QbI N h j k) λf=>bif (!f.2)then some 1 else bnd (Qck N e.c f.1) λp=>bif (!p)then some 1 else bnd (Qdx N e.l 1) λg=>bif (g != 0)then some g else bif o then some 3 else some 0
def QaS(N:Nat)(f:WU)(h:Int):Option (Int×Int):=bnd (Qe0 N f) λp=>bif (!p)then some (0,19)else bif (h==0)then some (0,0)else bnd (QcT N h) λe=>bif (e.2 != 0)then some (0,e.2)else bif (e.1.Tag==1)then(bnd (QeZ N f.l e.1.Index e.1.J) λj=>some (j.1,j.2))else bif (e.1.Tag==2)then(bnd (Qel N f.g e.1.Index e.1.J) λk=>some (k.1,k.2))else bnd (Qel N f.v e.1.Index e.1.J) λo=>some (o.1,o.2)
def Qe1(N:Nat)(f:WU)(g:Int):Option (Int×Int):=bnd (QaS N f g) λe=>bif (e.2==0)then(bif (e.1==0)then some (0,5)else some (e.1,e.2))else some (e.1,e.2)
def QgW(N:Nat)(e:WU)(f:Int)(o:Int)(h:Int)(p:Int):Option Int:=bnd (Qe1 N e o) λg=>bif (g.2 != 0)then some g.2 else bnd (Xb e.T (wU (g.1-1))) λj=>bif (decide (h>=(wU j.H.n)))then some 2 else jn (λ(q:Bool)=>bnd (Qcf N j.H (wI h)) λr=>bif (!(r==q))then some 4 else bif (f==8)then(bnd (Xb j.D h) λs=>bnd (Qdx N e.l s) λu=>some u)else bif (f==9)then(bnd (QaS N e p) λv=>some v.2)else some g.2) λk=>bif (f==8)then k true else k (f==9)
def Qgy(N:Nat)(k:WU)(f:Int)(e:Int):Option Int:=bif (e==0)then some 5 else bnd (QaS N k e) λg=>bif (g.2 != 0)then some g.2 else bnd (QcT N e) λh=>jn (λ(l:Int)=>bif (f==16)then(bif (h.1.Tag != 3)then some 4 else some 0)else bif (h.1.Tag != l)then some 4 else some 0) λj=>bif (f==14)then j 2 else j 1
def Qhr(N:Nat)(f:WU)(k:Int)(l:Int):Option Int:=bnd (Qe1 N f l) λh=>bif (h.2 != 0)then some h.2 else jn (λ(o:List WQ)=>bnd (QcH N (Wr.mk o) h.1) λp=>some p.2.2.2) λj=>bif (k==15)then j f.v.e else j f.g.e
def QgX(N:Nat)(e:WU)(j:Int)(f:Int):Option Int:=bif (j==17)then(bif (decide (f>64))then some 1 else bnd (QeS N e.l (wI f)) λk=>some k.2)else bnd (QaS N e f) λg=>bif (g.2 != 0)then some g.2 else bnd (QfB N e.l) λh=>bif (h.2 != 0)then some h.2 else bnd (Qdx N h.1 g.1) λo=>some o
def QhQ(N:Nat)(e:WU)(j:Int)(k:Int)(g:Bool):Option Int:=bnd (Qe1 N e k) λh=>bif (h.2 != 0)then some h.2 else bnd (Qgn N e h.1) λf=>bif (j==20)then(bif (decide (f<0))then some 12 else some 0)else bif (decide (f>=0))then(bnd (Xb e.m f) λl=>bif (l.M==1000)then some 18 else bif (decide (f<0))then(bif ((e.m.length:Int)==64)then some 18 else bif g then some 18 else some 0)else bif g then some 18 else some 0)else bif (decide (f<0))then(bif ((e.m.length:Int)==64)then some 18 else bif g then some 18 else some 0)else bif g then some 18 else some 0
def Qhs(N:Nat)(e:WU)(f:Int)(h:Int)(k:Int):Option Int:=jn (λ(_:Unit)=>bnd (Qe1 N e h) λo=>some o.2) λj=>bif (f==4)then j ()else bif (f==5)then j ()else bnd (QaS N e h) λg=>bif (g.2 != 0)then some g.2 else bif (f==10)then(bnd (QaS N e k) λp=>some p.2)else bnd (Qdx N e.l g.1) λq=>some q
def Qgz(N:Nat)(f:WU)(e:Int)(g:Int)(o:Int)(S:Int)(E:Bool):Option Int:=bnd (Qe0 N f) λT=>bif (!T)then some 19 else jn (λ(U:Bool)=>bif U then(bnd (Qgx N f e g o E) λV=>some V)else jn (λ(W:Bool)=>bif W then(bnd (QgW N f e g o S) λY=>some Y)else jn (λ(p:Bool)=>bif p then(bnd (Qgy N f e g) λq=>some q)else jn (λ(r:Bool)=>bif r then(bnd (Qhr N f e g) λs=>some s)else jn (λ(u:Bool)=>bif u then(bnd (QgX N f e g) λv=>some v)else jn (λ(w:Bool)=>bif w then(bnd (QhQ N f e g E) λy=>some y)else jn (λ(z:Bool)=>bif z then(bnd (Qhs N f e g o) λA=>some A)else some 1) λh=>bif (e==4)then h true else jn (λ(B:Bool)=>h B) λj=>bif (e==5)then j true else jn (λ(D:Bool)=>j D) λk=>bif (e==10)then k true else k (e==11)) λl=>bif (e==19)then l true else l (e==20)) λG=>bif (e==17)then G true else G (e==18)) λH=>bif (e==13)then H true else H (e==15)) λI=>bif (e==12)then I true else jn (λ(Z:Bool)=>I Z) λJ=>bif (e==14)then J true else J (e==16)) λK=>bif (e==6)then K true else jn (λ(x6:Bool)=>K x6) λL=>bif (e==7)then L true else jn (λ(x5:Bool)=>L x5) λM=>bif (e==8)then M true else M (e==9)) λO=>bif (e==1)then O true else jn (λ(x2:Bool)=>O x2) λR=>bif (e==2)then R true else R (e==3)
def Qdy(N:Nat)(e:WU)(h:Int):Option (WU×Int):=bif (h==0)then some (e,0)else bnd (Qej N e.l h) λf=>bnd (Qbd N (UM.mk 1 f.2.1 f.2.2.1)) λj=>some ((WU.mk e.c e.T f.1 e.g e.v e.m e.R),j.1)
def Qgf(N:Nat)(e:WU)(h:Int)(j:Int)(k:Int):Option WU:=grd (e.T.length*48<=140737488355328) <| bnd (Xb e.T (wU (h-1))) λf=>grd (f.D.length*8<=140737488355328) <| bnd (Xb f.D j) λo=>bnd (Xb e.T (wU (h-1))) λp=>some (WU.mk e.c (e.T.set (wU (h-1)).toNat (Ii.mk f.H (f.D.set j.toNat k))) e.l e.g e.v e.m e.R)
def Qfp(N:Nat)(f:WU)(p:Int)(k:Int):Option (WU×Int):=jn (λ(q:List WQ) (r:List WQ) (s:Int) (u:Int) (w:Int)=>bnd (Qbd N (UM.mk s u w)) λy=>some ((WU.mk f.c f.T f.l (Wr.mk q) (Wr.mk r) f.m f.R),y.1)) λo=>bif (p==15)then(bnd (QcH N f.v k) λh=>o f.g.e h.1.e 3 h.2.1 h.2.2.1)else bnd (QcH N f.g k) λj=>o j.1.e f.v.e 2 j.2.1 j.2.2.1
def Qf5(N:Nat)(e:WU)(h:Int):Option WU:=bnd (QcT N h) λf=>bif (f.1.Tag==1)then(bnd (Qem N e.l f.1.Index f.1.J) λj=>some (WU.mk e.c e.T j.1 e.g e.v e.m e.R))else bif (f.1.Tag==2)then(bnd (QcV N e.g f.1.Index f.1.J) λk=>some (WU.mk e.c e.T e.l k.1 e.v e.m e.R))else bnd (QcV N e.v f.1.Index f.1.J) λo=>some (WU.mk e.c e.T e.l e.g o.1 e.m e.R)
def QhR(N:Nat)(e:WU)(f:Int):Option Int:=bnd (Qgn N e f) λg=>some g
def Qgo(N:Nat)(e:WU)(r:Int)(o:Int)(p:Int):Option (WU×Int):=bnd (QhR N e o) λf=>grd (e.m.length*24<=140737488355328) <| bif (r==20)then(bnd (Xb e.m f) λj=>bnd (Xb e.m f) λh=>bnd (Xb (e.m.set f.toNat (Is.mk h.I (wI (j.M-1)) h.B0)) f) λs=>bif (s.M==0)then(grd (0<=0/\0<=f/\f<=(e.m.length:Int)) <| grd (0<=(wI (f+1))/\(wI (f+1))<=(e.m.length:Int)/\(e.m.length:Int)<=(e.m.length:Int)) <| grd (f.toNat≠e.m.length/\(f.toNat+(e.m.length-(wI (f+1)).toNat))<=e.m.length) <| some ((WU.mk e.c e.T e.l e.g e.v (((((e.m.set f.toNat (Is.mk h.I (wI (j.M-1)) h.B0)).take f.toNat)++(((e.m.set f.toNat (Is.mk h.I (wI (j.M-1)) h.B0)).drop (wI (f+1)).toNat).take (e.m.length-(wI (f+1)).toNat)))++((e.m.set f.toNat (Is.mk h.I (wI (j.M-1)) h.B0)).drop (f.toNat+(e.m.length-(wI (f+1)).toNat)))).take (f.toNat+(e.m.length-(wI (f+1)).toNat))) e.R),0))else some ((WU.mk e.c e.T e.l e.g e.v (e.m.set f.toNat (Is.mk h.I (wI (j.M-1)) h.B0)) e.R),0))else bif (decide (f>=0))then(bnd (Xb e.m f) λq=>bnd (Xb e.m f) λk=>bnd (Xb (e.m.set f.toNat (Is.mk k.I (wI (q.M+1)) k.B0)) f) λu=>some ((WU.mk e.c e.T e.l e.g e.v (e.m.set f.toNat (Is.mk k.I (wI (q.M+1)) k.B0)) e.R),u.B0))else grd ((e.m.length+1)*24<=140737488355328) <| some ((WU.mk e.c e.T e.l e.g e.v (e.m++[(Is.mk o 1 p)]) e.R),p)
def Qgp(N:Nat)(f:WU)(h:Int)(s:Int)(r:Int)(G:Int)(I:Oo):Option (WU×Int×Int):=bnd (Qgz N f h s r G I.Failed) λy1=>bif (y1 != 0)then some (zWd,0,y1)else jn (λ(j:Int)=>jn (λ(x5:Bool)=>bif x5 then(jn (λ(x7:Int) (x8:Int) (u:List Ii) (J:List UA) (K:List UG) (L:List Int) (M:List WQ) (O:List WQ) (U:List Is) (V:List Int)=>bnd (QbI N h s r) λq=>grd (u.length*48<=140737488355328) <| grd (0<=q.1.n/\q.1.n.toNat*8<=140737488355328) <| grd ((u.length+1)*48<=140737488355328) <| grd ((u.length+1)<=140737488355328) <| bnd (Qdy N (WU.mk (WV.mk x7 x8) (u++[(Ii.mk q.1 (List.replicate q.1.n.toNat (0:Int)))]) (Wm.mk J K L) (Wr.mk M) (Wr.mk O) U V) (wU (((u.length+1):Nat):Int))) λw=>some (w.1,w.2,0)) λj4=>bif I.Collected then(bnd (QdU N f) λo=>j4 o.1.c.W o.1.c.p o.1.T o.1.l.S o.1.l.x o.1.l.i o.1.g.e o.1.v.e o.1.m o.1.R)else j4 f.c.W f.c.p f.T f.l.S f.l.x f.l.i f.g.e f.v.e f.m f.R)else bif (h==4)then(bnd (Xb f.T (wU (j-1))) λY=>some (f,(wU Y.H.n),0))else bif (h==5)then(bnd (Xb f.T (wU (j-1))) λZ=>some (f,(wU Z.H.k),0))else bif (h==6)then(bnd (Xb f.T (wU (j-1))) λp21=>bnd (Xb p21.D r) λp22=>some (f,p22,0))else bif (h==7)then(bnd (Qgf N f j (wI r) G) λy23=>some (y23,0,0))else bif (h==8)then(bnd (Xb f.T (wU (j-1))) λp24=>bnd (Xb p24.D r) λp25=>bnd (Qdy N f p25) λy=>some (y.1,y.2,0))else bif (h==9)then(bnd (QaS N f G) λy27=>bnd (Qgf N f j (wI r) y27.1) λy28=>some (y28,0,0))else bif (h==10)then(bnd (QaS N f r) λy29=>bif (j==y29.1)then some (f,1,0)else some (f,0,0))else bif (h==11)then(bnd (Qdy N f j) λz=>some (z.1,z.2,0))else jn (λ(x31:Bool)=>bif x31 then(bnd (Qfp N f h j) λA=>some (A.1,A.2,0))else jn (λ(x34:Bool)=>bif x34 then(bnd (Qf5 N f s) λy35=>some (y35,0,0))else bif (h==17)then(bnd (QeS N f.l (wI s)) λy36=>some ((WU.mk f.c f.T y36.1 f.g f.v f.m f.R),0,0))else bif (h==18)then(bnd (QfB N f.l) λy37=>bnd (Qdy N (WU.mk f.c f.T y37.1 f.g f.v f.m f.R) j) λB=>some (B.1,B.2,0))else bnd (Qgo N f h j I.B0) λE=>some (E.1,E.2,0)) λj7=>bif (h==12)then j7 true else jn (λ(x33:Bool)=>j7 x33) λj6=>bif (h==14)then j6 true else j6 (h==16)) λj5=>bif (h==13)then j5 true else j5 (h==15)) λj3=>bif (h==1)then j3 true else jn (λ(x4:Bool)=>j3 x4) λj2=>bif (h==2)then j2 true else j2 (h==3)) λj1=>bif (decide (h>3))then(bif (h != 17)then(bnd (QaS N f s) λy2=>j1 y2.1)else j1 0)else j1 0
def QbG(N:Nat)(f:Ik)(q:Ol):Option (Ik×Int×Int):=bif (q.Op==0)then(bnd (Qc4 N f.N) λo=>jn (λ(x3:Int) (x4:Int) (x5:List Int) (x6:List Wv) (x7:Int) (x8:Int) (x9:List UA) (M:List UG) (O:List Int) (U:List WQ) (V:List WQ) (Y:List Uz) (Z:List Int) (x16:Int) (x17:Int) (x18:List Ii) (x19:List UA) (x20:List UG) (x21:List Int) (x22:List WQ) (x23:List WQ) (x24:List Is) (x25:List Int)=>some ((Ik.mk (WI.mk (Wo.mk (WV.mk x3 x4) x5 x6 x7 x8) (Wm.mk x9 M O) (Wr.mk U) (Wr.mk V) Y Z) (WU.mk (WV.mk x16 x17) x18 (Wm.mk x19 x20 x21) (Wr.mk x22) (Wr.mk x23) x24 x25) f.w),0,0)) λj1=>bif (o.2.2==0)then(bnd (QdU N f.z) λr=>j1 o.1.h.c.W o.1.h.c.p o.1.h.w o.1.h.p o.1.h.s o.1.h.b o.1.l.S o.1.l.x o.1.l.i o.1.g.e o.1.v.e o.1.P o.1.R r.1.c.W r.1.c.p r.1.T r.1.l.S r.1.l.x r.1.l.i r.1.g.e r.1.v.e r.1.m r.1.R)else j1 f.N.h.c.W f.N.h.c.p f.N.h.w f.N.h.p f.N.h.s f.N.h.b f.N.l.S f.N.l.x f.N.l.i f.N.g.e f.N.v.e f.N.P f.N.R f.z.c.W f.z.c.p f.z.T f.z.l.S f.z.l.x f.z.l.i f.z.g.e f.z.v.e f.z.m f.z.R)else bnd (Qae N f.N q.Op q.A q.B q.C) λj=>bnd (Qfo N f.N j.1 q.Op j.2.1 j.2.2) λy27=>bnd (Qgp N f.z q.Op q.A q.B q.C y27) λk=>jn (λ(u:Int) (y:Int) (D:List Ii) (E:List UA) (G:List UG) (H:List Int) (I:List WQ) (J:List WQ) (K:List Is) (L:List Int)=>bif (j.2.2==0)then(bif (j.2.1 != 0)then(grd (f.w.length*8<=140737488355328) <| grd ((f.w.length+1)*8<=140737488355328) <| some ((Ik.mk j.1 (WU.mk (WV.mk u y) D (Wm.mk E G H) (Wr.mk I) (Wr.mk J) K L) (f.w++[j.2.1])),j.2.1,j.2.2))else some ((Ik.mk j.1 (WU.mk (WV.mk u y) D (Wm.mk E G H) (Wr.mk I) (Wr.mk J) K L) f.w),j.2.1,j.2.2))else some ((Ik.mk f.N (WU.mk (WV.mk u y) D (Wm.mk E G H) (Wr.mk I) (Wr.mk J) K L) f.w),j.2.1,j.2.2)) λj2=>bif (k.2.2==0)then j2 k.1.c.W k.1.c.p k.1.T k.1.l.S k.1.l.x k.1.l.i k.1.g.e k.1.v.e k.1.m k.1.R else j2 f.z.c.W f.z.c.p f.z.T f.z.l.S f.z.l.x f.z.l.i f.z.g.e f.z.v.e f.z.m f.z.R
def QhS(N:Nat)(a1:Int):Nat->Int->(List Int)->Int->Int->Int->(List Int)->(List Wv)->Int->Int->(List UA)->(List UG)->(List Int)->(List WQ)->(List WQ)->(List Uz)->(List Int)->Int->Int->(List Ii)->(List UA)->(List UG)->(List Int)->(List WQ)->(List WQ)->(List Is)->(List Int)->(List Int)->Option (Int×Int×List Int×List Wv×Int×Int×List UA×List UG×List Int×List WQ×List WQ×List Uz×List Int×Int×Int×List Ii×List UA×List UG×List Int×List WQ×List WQ×List Is×List Int×List Int)
 |0,_,_,_,_,_,_,_,_,_,_,_,_,_,_,_,_,_,_,_,_,_,_,_,_,_,_,_=>none
 |n+1,v2,v3,v4,Y,Z,v7,v8,v9,j,k,o,q,r,u,y,A,B,D,E,G,H,I,J,K,M,O,U=>
  bif (decide (v2<a1))then(bnd (Qf1 N (Ig.mk v3 v4)) λy29=>
   bif (!y29)then(bnd (Qdk N (Ik.mk (WI.mk (Wo.mk (WV.mk Y Z) v7 v8 v9 j) (Wm.mk k o q) (Wr.mk r) (Wr.mk u) y A) (WU.mk (WV.mk B D) E (Wm.mk G H I) (Wr.mk J) (Wr.mk K) M O) U) (Ig.mk v3 v4)) λV=>
    bnd (QbG N (Ik.mk (WI.mk (Wo.mk (WV.mk Y Z) v7 v8 v9 j) (Wm.mk k o q) (Wr.mk r) (Wr.mk u) y A) (WU.mk (WV.mk B D) E (Wm.mk G H I) (Wr.mk J) (Wr.mk K) M O) U) V.1) λf=>
    QhS N a1 n (wI (v2+1)) V.2.L V.2.at_ f.1.N.h.c.W f.1.N.h.c.p f.1.N.h.w f.1.N.h.p f.1.N.h.s f.1.N.h.b f.1.N.l.S f.1.N.l.x f.1.N.l.i f.1.N.g.e f.1.N.v.e f.1.N.P f.1.N.R f.1.z.c.W f.1.z.c.p f.1.z.T f.1.z.l.S f.1.z.l.x f.1.z.l.i f.1.z.g.e f.1.z.v.e f.1.z.m f.1.z.R f.1.w)
   else some (Y,Z,v7,v8,v9,j,k,o,q,r,u,y,A,B,D,E,G,H,I,J,K,M,O,U))
  else some (Y,Z,v7,v8,v9,j,k,o,q,r,u,y,A,B,D,E,G,H,I,J,K,M,O,U)
def QjJ(N:Nat)(k:List Int)(o:Int):Option Ik:=bnd (Qca N (Ig.mk k 0)) λj=>bnd (QhS N o N 0 j.2.L j.2.at_ j.1.N.h.c.W j.1.N.h.c.p j.1.N.h.w j.1.N.h.p j.1.N.h.s j.1.N.h.b j.1.N.l.S j.1.N.l.x j.1.N.l.i j.1.N.g.e j.1.N.v.e j.1.N.P j.1.N.R j.1.z.c.W j.1.z.c.p j.1.z.T j.1.z.l.S j.1.z.l.x j.1.z.l.i j.1.z.g.e j.1.z.v.e j.1.z.m j.1.z.R j.1.w) λf=>some (Ik.mk (WI.mk (Wo.mk (WV.mk f.1 f.2.1) f.2.2.1 f.2.2.2.1 f.2.2.2.2.1 f.2.2.2.2.2.1) (Wm.mk f.2.2.2.2.2.2.1 f.2.2.2.2.2.2.2.1 f.2.2.2.2.2.2.2.2.1) (Wr.mk f.2.2.2.2.2.2.2.2.2.1) (Wr.mk f.2.2.2.2.2.2.2.2.2.2.1) f.2.2.2.2.2.2.2.2.2.2.2.1 f.2.2.2.2.2.2.2.2.2.2.2.2.1) (WU.mk (WV.mk f.2.2.2.2.2.2.2.2.2.2.2.2.2.1 f.2.2.2.2.2.2.2.2.2.2.2.2.2.2.1) f.2.2.2.2.2.2.2.2.2.2.2.2.2.2.2.1 (Wm.mk f.2.2.2.2.2.2.2.2.2.2.2.2.2.2.2.2.1 f.2.2.2.2.2.2.2.2.2.2.2.2.2.2.2.2.2.1 f.2.2.2.2.2.2.2.2.2.2.2.2.2.2.2.2.2.2.1) (Wr.mk f.2.2.2.2.2.2.2.2.2.2.2.2.2.2.2.2.2.2.2.1) (Wr.mk f.2.2.2.2.2.2.2.2.2.2.2.2.2.2.2.2.2.2.2.2.1) f.2.2.2.2.2.2.2.2.2.2.2.2.2.2.2.2.2.2.2.2.2.1 f.2.2.2.2.2.2.2.2.2.2.2.2.2.2.2.2.2.2.2.2.2.2.1) f.2.2.2.2.2.2.2.2.2.2.2.2.2.2.2.2.2.2.2.2.2.2.2)
def Qcn(N:Nat)(e:WV):Option Bool:=bif (decide (e.W>=16))then(bif (decide (e.W<=64))then(bif ((e.W.tmod 4)==0)then(bif (decide (e.p>=8))then some (decide (e.p<=64))else some false)else some false)else some false)else some false
def QfE(N:Nat)(e:WV):Option Int:=bnd (Qcn N e) λf=>bif (!f)then some 0 else some (wI (e.W.tdiv 4))
def QfF(N:Nat)(e:WV)(f:Int):Option Int:=bnd (Qcn N e) λg=>bif (!g)then some (-1)else bif (decide (f<1))then some (-1)else bif (decide (f>(wI (4*e.W))))then some (-1)else bnd (QfE N e) λh=>bif (decide (f<=h))then some 0 else grd (e.W≠0) <| some (wI ((wI ((wI (f+e.W))-1)).tdiv e.W))
def QgP(N:Nat)(e:Wv)(f:WV):Option Bool:=some ((e.k==0)&&((e.s==0)&&((e.u==0)&&(e.P==0))))
def Qb7(N:Nat)(e:Wv):Option Bool:=bif (e.s==0)then some true else some (e.s==1)
def QdN(N:Nat)(e:Wv):Option Bool:=bif (decide (e.P>=0))then some (decide (e.P<=2147483647))else some false
def Qd6(N:Nat)(e:Wv)(f:WV):Option Bool:=bnd (Qb7 N e) λg=>bif g then(bnd (QdN N e) λh=>bif h then(bif (decide (e.u>=0))then some (decide (e.u<=f.W))else some false)else some false)else some false
def Qd7(N:Nat)(e:Wv)(f:WV):Option Bool:=bnd (Qb7 N e) λg=>bif g then(bnd (QdN N e) λh=>bif h then(bnd (QfF N f e.u) λj=>some (decide (j>=1)))else some false)else some false
def QfY(N:Nat)(e:Wv)(f:Wv):Option Bool:=some ((e.k==3)&&((e.s==f.s)&&((e.u==0)&&(e.P==0))))
def Qf6(N:Nat)(g:List Wv)(e:Int)(f:Wv)(k:Int)(h:Int):Nat->Int->Option (Ex Int Unit)
 |0,_=>none
 |n+1,j=>
  bif (decide (j<(((min ((wI (e+h)).toNat-(wI (e+1)).toNat) (g.length-(wI (e+1)).toNat)):Nat):Int)))then(bnd (Xb ((g.drop (wI (e+1)).toNat).take ((wI (e+h)).toNat-(wI (e+1)).toNat)) j) λl=>
   bnd (QfY N l (Wv.mk k f.s f.u f.P)) λo=>
   bif (!o)then some (.ret 0)
   else Qf6 N g e f k h n (wI (j+1)))
  else some (.nxt ())
def QhG(N:Nat)(j:WV)(l:List Wv)(g:Int):Option Int:=bnd (Xb l g) λf=>jn (λ(p:Int)=>bif (p != 2)then some 1 else bnd (QfF N j f.u) λh=>bif (decide (h>(wI ((l.length:Int)-g))))then some 0 else grd (0<=(wI (g+1))/\(wI (g+1))<=(wI (g+h))/\(wI (g+h))<=(l.length:Int)) <| bnd (Qf6 N l g f p h N 0) λe=>exK e (λr=>some r) λq=>some h) λo=>bif (decide (f.k<0))then some 0 else bif (decide (f.k>=3))then some 0 else bif (f.k==0)then(bnd (QgP N (Wv.mk 0 f.s f.u f.P) j) λv=>bif (!v)then some 0 else o 0)else bif (f.k==1)then(bnd (Qd6 N (Wv.mk 1 f.s f.u f.P) j) λw=>bif (!w)then some 0 else o 1)else bif (f.k==2)then(bnd (Qd7 N (Wv.mk 2 f.s f.u f.P) j) λy=>bif (!y)then some 0 else o 2)else none
def Qaf(N:Nat)(e:Wo):Nat->Int->Option (Ex Bool Unit)
 |0,_=>none
 |n+1,f=>
  bif (decide (f<(e.p.length:Int)))then(bnd (QhG N e.c e.p f) λg=>
   bif (g==0)then some (.ret false)
   else Qaf N e n (wI (f+g)))
  else some (.nxt ())
def QbK(N:Nat)(f:Wo):Option Bool:=jn (λ(_:Unit)=>jn (λ(_:Unit)=>bnd (Qaf N f N 0) λe=>exK e (λr=>some r) λo=>some true) λg=>bif (f.b != (-1))then(bif (decide (f.b<0))then some false else bif (decide (f.b>=(f.p.length:Int)))then some false else bnd (Xb f.p f.b) λj=>bif (j.k != 1)then some false else g ())else g ()) λh=>bnd (Qcn N f.c) λl=>bif (!l)then some false else bif ((f.w.length:Int) != (wI (f.c.W*f.c.p)))then some false else bif ((f.p.length:Int) != f.c.p)then some false else bif (f.s != 0)then(bif (f.s != 1)then some false else h ())else h ()
def QdO(N:Nat)(e:List UN):Nat->Int->(List Int)->Option (List Int)
 |0,_,_=>none
 |n+1,f,g=>
  bif (decide (f<(e.length:Int)))then(bnd (Xb e f) λh=>
   grd ((g.length+1)*8<=140737488355328) <|
   QdO N e n (wI (f+1)) (g++[h.addr]))
  else some g
def Qco(N:Nat)(e:List UN):Option (List Int):=bnd (QdO N e N 0 []) λf=>some f
def Qf7(N:Nat)(e:Int):Nat->Int->Int->Option Int
 |0,_,_=>none
 |n+1,f,g=>
  bif (decide (g<(if 64<(if e<0 then 0 else e)then 64 else(if e<0 then 0 else e))))then Qf7 N e n (bOr .u64 (ZP .u64 f 1) 1) (wI (g+1))
  else some f
def Qa2(N:Nat)(e:Int):Option Int:=bnd (Qf7 N e N 0 0) λf=>some f
def QdI(N:Nat)(e:WC):Option Bool:=bif (decide (e.k<0))then some false else bif (decide (e.k>3))then some false else bif (decide (e.n<0))then some false else bif (decide (e.n>255))then some false else bif (e.k==1)then(jn (λ(g:Bool)=>some g) λf=>bif (decide (e.n<=32))then(bnd (Qa2 N e.n) λh=>f (decide ((wU e.Map)<=h)))else f false)else some ((e.k==e.k)&&((e.n==e.n)&&(e.Map==0)))
def Qbr(N:Nat)(e:WC):Option Int:=bnd (QdI N e) λf=>bif (!f)then some 0 else some (wI (e.n+1))
def Qb2(N:Nat)(e:WV)(f:Int):Option (Int×Int×Int):=bnd (Qcn N e) λg=>bif (!g)then some (0,0,1)else bif (decide (f<4096))then some (0,0,2)else bif (decide ((wU (f-4096))>=(wU (wI (e.W*e.p)))))then some (0,0,2)else grd (e.W≠0) <| grd (e.W≠0) <| some ((wI ((wI (wU (f-4096))).tdiv e.W)),((wI (wU (f-4096))).tmod e.W),0)
def QaD(N:Nat)(j:Int)(e:List Int):Nat->Int->Int->Option (Ex (List Int×Int) Unit)
 |0,_,_=>none
 |n+1,h,f=>
  bif (decide (f<(e.length:Int)))then(bnd (Xb e f) λg=>
   bif (decide (g<1))then some (.ret ([],1))
   else bif (decide (g>h))then some (.ret ([],1))
   else QaD N j e n (wI (h-g)) (wI (f+1)))
  else some (.nxt ())
def QaE(N:Nat)(e:List Int):Nat->Int->Int->(List Int)->Option (Int×List Int)
 |0,_,_,_=>none
 |n+1,f,g,h=>
  bif (decide (g<(e.length:Int)))then(bnd (Xb e g) λj=>
   bnd (Qa2 N j) λk=>
   grd ((h.length+1)*8<=140737488355328) <|
   grd (0<=j) <|
   QaE N e n (YC .u64 f j) (wI (g+1)) (h++[(Y2 .u64 f k)]))
  else some (f,h)
def Qdz(N:Nat)(g:Int)(h:List Int):Option (List Int×Int):=bnd (QaD N g h N 64 0) λe=>exK e (λr=>some r) λj=>bnd (QaE N h N g 0 []) λf=>bif (f.1 != 0)then some ([],2)else some (f.2,0)
def Qez(N:Nat)(j:Int):Option (WC×Bool):=bnd (Qdz N j [2,2,12,32]) λe=>bif (e.2 != 0)then some ((WC.mk 0 0 0),false)else bnd (Xb e.1 0) λk=>bif (k != 1)then some ((WC.mk 0 0 0),false)else bnd (Xb e.1 1) λf=>bnd (Xb e.1 2) λg=>bnd (Xb e.1 3) λh=>bnd (QdI N (WC.mk (wI f) (wI g) (wW h))) λl=>bif (!l)then some ((WC.mk 0 0 0),false)else some ((WC.mk (wI f) (wI g) (wW h)),true)
def QfQ(N:Nat)(f:List Int)(e:Int)(g:Int):Option (Int×Bool):=bif (decide (e<4096))then some (0,false)else bif (decide ((wU (e-4096))>(wU (f.length:Int))))then some (0,false)else some ((wI (wU (e-4096))),(decide (g<=(wI ((f.length:Int)-(wI (wU (e-4096))))))))
def Qih(N:Nat)(f:List Int)(g:Int):Option (Int×Int):=bnd (QfQ N f g 1) λe=>bif (!e.2)then some (0,2)else some (e.1,0)
def Qgq(N:Nat)(f:List Int)(g:Int):Option (Int×Int):=bnd (Qih N f g) λe=>bif (e.2 != 0)then some (0,e.2)else bnd (Xb f e.1) λh=>some (h,0)
def Qhz(N:Nat)(e:Wo)(f:Int):Option Int:=bnd (Qgq N e.w f) λg=>some g.1
def Qeo(N:Nat)(g:Wo)(o:Int):Option (WC×Int):=bnd (QbK N g) λw=>bif (!w)then some ((WC.mk 0 0 0),1)else bnd (Qb2 N g.c o) λe=>bif (e.2.2 != 0)then some ((WC.mk 0 0 0),e.2.2)else bnd (Xb g.p e.1) λf=>bnd (Qhz N g o) λy=>bnd (Qez N y) λh=>bnd (Qbr N h.1) λq=>jn (λ(j:Bool)=>bif (!j)then some ((WC.mk 0 0 0),19)else some (h.1,0)) λl=>bif (!h.2)then l false else bif (decide (e.2.1>=f.u))then l false else jn (λ(z:Bool)=>l z) λr=>bif (f.k==1)then r (decide (q<=(wI (f.u-e.2.1))))else jn (λ(A:Bool)=>r A) λs=>bif (f.k==2)then(jn (λ(B:Bool)=>s B) λv=>bif (e.2.1==0)then v (q==f.u)else v false)else s false
def QdJ(N:Nat)(e:WV)(f:Int)(g:Int):Option (Int×Int):=bnd (Qcn N e) λh=>bif (!h)then some (0,1)else bif (decide (f<0))then some (0,2)else bif (decide (f>=e.p))then some (0,2)else bif (decide (g<0))then some (0,2)else bif (decide (g>=e.W))then some (0,2)else some ((wU (4096+(wU (wI ((wI (f*e.W))+g))))),0)
def Qb3(N:Nat)(e:Wo)(k:Int)(l:Wv):Nat->Int->List UN->Option (List UN×Int)
 |0,_,_=>none
 |n+1,f,g=>
  bif (decide (f<l.u))then(bnd (QdJ N e.c k f) λh=>
   bif (h.2==0)then(bnd (Qeo N e h.1) λj=>
    bif (j.2==0)then(bnd (Qbr N j.1) λo=>
     grd ((g.length+1)*32<=140737488355328) <|
     Qb3 N e k l n (wI (f+o)) (g++[UN.mk h.1 j.1]))
    else some ([],19))
   else some ([],19))
  else some (g,0)
def QgI(N:Nat)(f:Wo)(g:Int):Option (List UN×Int):=bnd (Xb f.p g) λe=>bif (e.k != 1)then(bif (e.k != 2)then some ([],0)else Qb3 N f g e N 0 [])else Qb3 N f g e N 0 []
def QfG(N:Nat)(e:Wo)(f:Int):Option (List Int×Int):=bnd (QbK N e) λh=>bif (!h)then some ([],1)else bif (decide (f<0))then some ([],2)else bif (decide (f>=(e.p.length:Int)))then some ([],2)else bnd (QgI N e f) λg=>bif (g.2 != 0)then some ([],g.2)else bnd (Qco N g.1) λj=>some (j,0)
def Qcp(N:Nat)(e:Wo)(f:Int)(g:List Int):Nat->Int->Option (Ex (Int×Bool) Unit)
 |0,_=>none
 |n+1,h=>
  bif (decide (h<(g.length:Int)))then(bnd (Xb g h) λj=>
   bnd (Qeo N e j) λl=>
   bnd (Qbr N l.1) λo=>
   bnd (QfE N e.c) λq=>
   bnd (Xb e.p f) λr=>
   bif (r.k==1)then(bif (!(decide (o<=q)))then some (.ret (j,true))
    else bnd (Xb e.p f) λs=>
    bif (s.k==2)then(bif (l.1.k==0)then some (.ret (j,true))
     else Qcp N e f g n (wI (h+1)))
    else Qcp N e f g n (wI (h+1)))
   else bnd (Xb e.p f) λu=>
   bif (u.k==2)then(bif (l.1.k==0)then some (.ret (j,true))
    else Qcp N e f g n (wI (h+1)))
   else Qcp N e f g n (wI (h+1)))
  else some (.nxt ())
def QgJ(N:Nat)(f:Wo)(g:Int)(h:List Int):Option (Int×Bool):=bnd (Qcp N f g h N 0) λe=>exK e (λr=>some r) λj=>some (0,false)
def Qab(N:Nat)(e:List Int):Option (List Int):=some e
def QhT(N:Nat)(g:List Int)(h:Int)(f:Int):Option (List Int×Int):=bif (decide (f<0))then some ([],1)else bnd (QfQ N g h f) λe=>bif (!e.2)then some ([],2)else grd (0<=e.1/\e.1<=(wI (e.1+f))/\(wI (e.1+f))<=(g.length:Int)) <| bnd (Qab N ((g.drop e.1.toNat).take ((wI (e.1+f)).toNat-e.1.toNat))) λj=>some (j,0)
def Qfq(N:Nat)(f:Wo):Nat->Int->Option Int
 |0,_=>none
 |n+1,e=>
  bif (decide (e>0))then(bnd (Xb f.p e) λg=>
   bif (g.k==3)then Qfq N f n (wI (e-1))
   else some e)
  else some e
def QhU(N:Nat)(e:Wo)(f:Int):Option Int:=bnd (Qfq N e N f) λg=>some g
def QhV(N:Nat)(e:Int):Option Bool:=some (e != 0)
def QaG(N:Nat)(f:List Int):Nat->Int->Option (Ex Int Unit)
 |0,_=>none
 |n+1,e=>
  bif (decide (e<(f.length:Int)))then(bnd (Xb f e) λg=>
   bnd (QhV N g) λh=>
   bif h then some (.ret e)
   else QaG N f n (wI (e+1)))
  else some (.nxt ())
def Qbn(N:Nat)(f:List Int):Option Int:=bnd (QaG N f N 0) λe=>exK e (λr=>some r) λg=>some (-1)
def QeA(N:Nat)(o:Wo)(e:Int×Int)(j:List Int×Int):Nat->Int->(List Int)->Option (List Int)
 |0,_,_=>none
 |n+1,l,h=>
  bif (decide (l<(j.1.length:Int)))then(bnd (Xb j.1 l) λf=>
   bnd (Qeo N o f) λp=>
   jn (λ(g:Int)=>
    grd (h.length<=140737488355328) <|
    grd (h.length<=140737488355328) <|
    grd (0<=(if(h.length:Int)<(if(wI ((wI f)-(wI e.1)))<0 then 0 else(wI ((wI f)-(wI e.1))))then(h.length:Int)else(if(wI ((wI f)-(wI e.1)))<0 then 0 else(wI ((wI f)-(wI e.1)))))/\(if(h.length:Int)<(if(wI ((wI f)-(wI e.1)))<0 then 0 else(wI ((wI f)-(wI e.1))))then(h.length:Int)else(if(wI ((wI f)-(wI e.1)))<0 then 0 else(wI ((wI f)-(wI e.1)))))<=(if(h.length:Int)<(if(wI ((wI ((wI f)-(wI e.1)))+g))<0 then 0 else(wI ((wI ((wI f)-(wI e.1)))+g)))then(h.length:Int)else(if(wI ((wI ((wI f)-(wI e.1)))+g))<0 then 0 else(wI ((wI ((wI f)-(wI e.1)))+g))))/\(if(h.length:Int)<(if(wI ((wI ((wI f)-(wI e.1)))+g))<0 then 0 else(wI ((wI ((wI f)-(wI e.1)))+g)))then(h.length:Int)else(if(wI ((wI ((wI f)-(wI e.1)))+g))<0 then 0 else(wI ((wI ((wI f)-(wI e.1)))+g))))<=(h.length:Int)) <|
    QeA N o e j n (wI (l+1)) (((h.take (if(h.length:Int)<(if(wI ((wI f)-(wI e.1)))<0 then 0 else(wI ((wI f)-(wI e.1))))then(h.length:Int)else(if(wI ((wI f)-(wI e.1)))<0 then 0 else(wI ((wI f)-(wI e.1))))).toNat)++(List.replicate ((if(h.length:Int)<(if(wI ((wI ((wI f)-(wI e.1)))+g))<0 then 0 else(wI ((wI ((wI f)-(wI e.1)))+g)))then(h.length:Int)else(if(wI ((wI ((wI f)-(wI e.1)))+g))<0 then 0 else(wI ((wI ((wI f)-(wI e.1)))+g)))).toNat-(if(h.length:Int)<(if(wI ((wI f)-(wI e.1)))<0 then 0 else(wI ((wI f)-(wI e.1))))then(h.length:Int)else(if(wI ((wI f)-(wI e.1)))<0 then 0 else(wI ((wI f)-(wI e.1))))).toNat) (0:Int)))++(h.drop ((if(h.length:Int)<(if(wI ((wI f)-(wI e.1)))<0 then 0 else(wI ((wI f)-(wI e.1))))then(h.length:Int)else(if(wI ((wI f)-(wI e.1)))<0 then 0 else(wI ((wI f)-(wI e.1))))).toNat+((if(h.length:Int)<(if(wI ((wI ((wI f)-(wI e.1)))+g))<0 then 0 else(wI ((wI ((wI f)-(wI e.1)))+g)))then(h.length:Int)else(if(wI ((wI ((wI f)-(wI e.1)))+g))<0 then 0 else(wI ((wI ((wI f)-(wI e.1)))+g)))).toNat-(if(h.length:Int)<(if(wI ((wI f)-(wI e.1)))<0 then 0 else(wI ((wI f)-(wI e.1))))then(h.length:Int)else(if(wI ((wI f)-(wI e.1)))<0 then 0 else(wI ((wI f)-(wI e.1))))).toNat))))) λq=>
   bif (p.1.k != 0)then(bnd (Qbr N p.1) λr=>
    q r)
   else q 1)
  else some h
def Qhc(N:Nat)(f:Wo)(j:Int):Option (Int×Bool):=bnd (QdJ N f.c j 0) λg=>bnd (QhT N f.w g.1 f.c.W) λk=>bnd (QhU N f j) λl=>bnd (QfG N f l) λo=>bnd (QeA N f g o N 0 k.1) λh=>bnd (Qbn N h) λe=>some ((wU (g.1+(wU (if e<0 then 0 else e)))),(decide (e>=0)))
def Qa6(N:Nat)(f:Wo):Nat->Int->Option (Ex Ud Unit)
 |0,_=>none
 |n+1,e=>
  bif (decide (e<(f.p.length:Int)))then(bnd (Xb f.p e) λg=>
   jn (λ(_:Unit)=>
    bnd (QfG N f e) λh=>
    bif (h.2 != 0)then some (.ret (Ud.mk 3 e 0))
    else bnd (QgJ N f e h.1) λj=>
    bif j.2 then some (.ret (Ud.mk 5 e j.1))
    else bnd (Qhc N f e) λl=>
    bif l.2 then some (.ret (Ud.mk 4 e l.1))
    else Qa6 N f n (wI (e+1))) λo=>
   bif (g.k != 0)then(bif (g.s != f.s)then some (.ret (Ud.mk 2 e 0))
    else o ())
   else o ())
  else some (.nxt ())
def Qht(N:Nat)(f:Wo):Option Ud:=bnd (Qa6 N f N 0) λe=>exK e (λr=>some r) λg=>some (Ud.mk 0 0 0)
def QgK(N:Nat)(f:Wo):Nat->Int->(List UN)->Option (Ex (List UN×Int) (List UN))
 |0,_,_=>none
 |n+1,g,h=>
  bif (decide (g<(f.p.length:Int)))then(bnd (QgI N f g) λe=>
   bif (e.2 != 0)then some (.ret ([],e.2))
   else grd ((h.length+e.1.length)*32<=140737488355328) <|
   QgK N f n (wI (g+1)) (h++e.1))
  else some (.nxt h)
def QiB(N:Nat)(f:Wo):Option (List UN×Int):=bnd (QbK N f) λg=>bif (!g)then some ([],1)else bnd (QgK N f N 0 []) λe=>exK e (λr=>some r) λh=>some (h,0)
def Qe6(N:Nat)(e:UN):Option Bool:=some (e.hd.k==0)
def Qaj(N:Nat)(f:List UN):Nat->Int->Option (Ex Int Unit)
 |0,_=>none
 |n+1,e=>
  bif (decide (e<(f.length:Int)))then(bnd (Xb f e) λg=>
   bnd (Qe6 N g) λh=>
   bif h then some (.ret e)
   else Qaj N f n (wI (e+1)))
  else some (.nxt ())
def QaC(N:Nat)(f:List UN):Option Int:=bnd (Qaj N f N 0) λe=>exK e (λr=>some r) λg=>some (-1)
def QcI(N:Nat):Nat->Int->Int->(List UN)->Option (Int×List UN)
 |0,_,_,_=>none
 |n+1,f,g,e=>
  grd (e.length<=140737488355328) <|
  bif (decide (g<(e.length:Int)))then(bnd (Xb e g) λh=>
   bnd (Qe6 N h) λj=>
   bif (!j)then(bnd (Xb e f) λk=>
    QcI N n (wI (f+1)) (wI (g+1)) (e.set f.toNat h))
   else QcI N n f (wI (g+1)) e)
  else some (f,e)
def QdK(N:Nat)(k:Wo):Option (List Int×Int):=bnd (QiB N k) λf=>bif (f.2 != 0)then some ([],f.2)else bnd (QaC N f.1) λg=>bif (g==(-1))then(bnd (Qco N f.1) λh=>some (h,0))else bnd (QcI N N g (wI (g+1)) f.1) λe=>grd (0<=e.1/\e.1<=(e.2.length:Int)/\(e.2.length:Int)<=(e.2.length:Int)) <| grd (0<=e.1/\e.1<=(((((min e.1.toNat e.2.length)+(e.2.length-e.1.toNat))+(e.2.length-(e.1.toNat+(e.2.length-e.1.toNat)))):Nat):Int)) <| bnd (Qco N ((((e.2.take e.1.toNat)++(List.replicate (e.2.length-e.1.toNat) (UN.mk 0 (WC.mk 0 0 0))))++(e.2.drop (e.1.toNat+(e.2.length-e.1.toNat)))).take e.1.toNat)) λj=>some (j,0)
def Qfc(N:Nat)(e:Int):Option Bool:=some (e != e)
def QgQ(N:Nat)(e:Int)(f:Int):Option Bool:=bnd (Qfc N e) λg=>bif g then(bnd (Qfc N f) λh=>bif (!h)then some true else some (decide (e<f)))else some (decide (e<f))
def QdX(N:Nat)(e:Int):Option Bool:=some (e != e)
def Qay(N:Nat)(g:List Int)(h:Int):Nat->Int->Int->Option Int
 |0,_,_=>none
 |n+1,e,f=>
  bif (decide (e<f))then(bnd (Xb g (wI (YC .u64 (wU (wI (e+f))) 1))) λj=>
   bnd (QgQ N j h) λk=>
   bif k then Qay N g h n (wI ((wI (YC .u64 (wU (wI (e+f))) 1))+1)) f
   else Qay N g h n e (wI (YC .u64 (wU (wI (e+f))) 1)))
  else some e
def Qau(N:Nat)(f:List Int)(g:Int):Option (Int×Bool):=bnd (Qay N f g N 0 (f.length:Int)) λe=>bif (decide (e<(f.length:Int)))then(bnd (Xb f e) λh=>bif (h==g)then some (e,true)else bnd (Xb f e) λj=>bnd (QdX N j) λk=>bif k then(bnd (QdX N g) λl=>some (e,l))else some (e,false))else some (e,false)
def Qcq(N:Nat)(e:WC)(f:Int):Option Bool:=bnd (QdI N e) λg=>bif (!g)then some false else bif (decide (f<0))then some false else bif (decide (f>=e.n))then some false else bif (e.k==2)then some true else bif (e.k==1)then(grd (0<=f) <| some ((Y2 .u32 (YC .u32 e.Map f) 1)==1))else some false
def Qcc(N:Nat)(g:WC)(h:Int):Nat->Int->(List Int)->Option (List Int)
 |0,_,_=>none
 |n+1,e,f=>
  bif (decide (e<h))then(bnd (Qcq N g e) λj=>
   bif j then(grd ((f.length+1)*8<=140737488355328) <|
    Qcc N g h n (wI (e+1)) (f++[e]))
   else Qcc N g h n (wI (e+1)) f)
  else some f
def Qer(N:Nat)(e:WC):Option (List Int):=bnd (Qbr N e) λf=>bnd (Qcc N e f N 0 []) λg=>some g
def QaT(N:Nat)(h:Wo)(j:List Int×Int)(k:Int)(e:Int)(f:List Int):Nat->Int->Option (Ex Int Unit)
 |0,_=>none
 |n+1,g=>
  bif (decide (g<(f.length:Int)))then(bnd (Xb f g) λl=>
   bnd (Qgq N h.w (wU ((wU (e+1))+(wU l)))) λo=>
   bnd (Qau N j.1 o.1) λp=>
   bif (o.1 != 0)then(bif (!p.2)then some (.ret (wU ((wU (e+1))+(wU l))))
    else QaT N h j k e f n (wI (g+1)))
   else QaT N h j k e f n (wI (g+1)))
  else some (.nxt ())
def Qcs(N:Nat)(h:Wo)(f:List Int×Int):Nat->Int->Option Int
 |0,_=>none
 |n+1,g=>
  bif (decide (g<(f.1.length:Int)))then(bnd (Xb f.1 g) λk=>
   bnd (Qeo N h k) λl=>
   bnd (Qer N l.1) λo=>
   bnd (QaT N h f g k o N 0) λe=>exK e (λj=>some j) λp=>
   Qcs N h f n (wI (g+1)))
  else some 0
def Qf8(N:Nat)(f:Wo):Option Ud:=bnd (QdK N f) λh=>bnd (Qcs N f h N 0) λe=>bif (e==0)then some (Ud.mk 0 0 0)else bnd (Qb2 N f.c e) λg=>some (Ud.mk 6 g.1 e)
def Qcr(N:Nat)(e:Wo):Nat->Int->Int->Option Int
 |0,_,_=>none
 |n+1,g,f=>
  bif (decide (f<(e.p.length:Int)))then(bnd (Xb e.p f) λh=>
   bif (h.k==1)then(bif (decide (h.P>0))then Qcr N e n (wI (g+1)) (wI (f+1))
    else Qcr N e n g (wI (f+1)))
   else Qcr N e n g (wI (f+1)))
  else some g
def Qii(N:Nat)(e:Wo):Option Ud:=bnd (QbK N e) λh=>bif (!h)then some (Ud.mk 1 0 0)else bnd (Qht N e) λf=>bif (!((f.Fault==0)&&((f.Page==0)&&(f.Addr==0))))then some f else bnd (Qf8 N e) λg=>bif (!((g.Fault==0)&&((g.Page==0)&&(g.Addr==0))))then some g else bnd (Qcr N e N 0 0) λj=>bif (decide (j>(wI (e.c.p.tdiv 4))))then some (Ud.mk 7 0 0)else some (Ud.mk 0 0 0)
def QfH(N:Nat)(f:Wo):Option Bool:=bnd (Qii N f) λe=>some ((e.Fault==0)&&((e.Page==0)&&(e.Addr==0)))
def QfZ(N:Nat)(e:Uz)(f:Int):Option Bool:=some (e.a==f)
def Qax(N:Nat)(f:List Uz)(g:Int):Nat->Int->Option (Ex Int Unit)
 |0,_=>none
 |n+1,e=>
  bif (decide (e<(f.length:Int)))then(bnd (Xb f e) λh=>
   bnd (QfZ N h g) λj=>
   bif j then some (.ret e)
   else Qax N f g n (wI (e+1)))
  else some (.nxt ())
def Qa9(N:Nat)(f:List Uz)(g:Int):Option Int:=bnd (Qax N f g N 0) λe=>exK e (λr=>some r) λh=>some (-1)
def QeB(N:Nat)(e:List Uz)(f:Int):Option Int:=bnd (Qa9 N e f) λg=>some g
def Qcd(N:Nat)(f:List Uz)(k:Wo)(l:List Int×Int):Nat->Int->(List Int)->Option (Ex (List Int×Bool) (List Int))
 |0,_,_=>none
 |n+1,g,h=>
  bif (decide (g<(f.length:Int)))then(bnd (Xb f g) λe=>
   bnd (Qau N l.1 e.a) λo=>
   bif (!o.2)then some (.ret ([],false))
   else bif (decide (e.M<1))then some (.ret ([],false))
   else bif (decide (e.M>1000))then some (.ret ([],false))
   else bnd (QeB N f e.a) λp=>
   bif (p != g)then some (.ret ([],false))
   else bnd (Qb2 N k.c e.a) λj=>
   bnd (Xb h j.1) λq=>
   bnd (Xb h j.1) λr=>
   Qcd N f k l n (wI (g+1)) (h.set j.1.toNat (wI (q+e.M))))
  else some (.nxt h)
def QgR(N:Nat)(h:List Uz)(f:Wo):Option (List Int×Bool):=bnd (QdK N f) λj=>grd (0<=(f.p.length:Int)/\(f.p.length:Int).toNat*8<=140737488355328) <| bnd (Qcd N h f j N 0 (List.replicate (f.p.length:Int).toNat (0:Int))) λe=>exK e (λr=>some r) λg=>some (g,true)
def Qfd(N:Nat)(f:Wo)(g:List Int×Bool):Nat->Int->Option (Ex Bool Unit)
 |0,_=>none
 |n+1,e=>
  bif (decide (e<(f.p.length:Int)))then(bnd (Xb f.p e) λh=>
   bnd (Xb g.1 e) λj=>
   bif (h.P != j)then some (.ret false)
   else Qfd N f g n (wI (e+1)))
  else some (.nxt ())
def QgY(N:Nat)(f:Wo)(g:List Uz):Option Bool:=bnd (QfH N f) λj=>bif (!j)then some false else bif (decide ((g.length:Int)>64))then some false else bnd (QgR N g f) λh=>bif (!h.2)then some false else bnd (Qfd N f h N 0) λe=>exK e (λr=>some r) λk=>some true
def Qa5(N:Nat)(f:I7):Nat->Int->Int->Option (Ex Bool Unit)
 |0,_,_=>none
 |n+1,h,g=>
  bif (decide (g<(f.l.x.length:Int)))then(bnd (Xb f.l.x g) λe=>
   bif (g==0)then(bif (e.O != 0)then some (.ret false)
    else bif (!e.B0)then some (.ret false)
    else bif (decide (e.O<h))then some (.ret false)
    else bif (decide (e.O>(f.l.S.length:Int)))then some (.ret false)
    else bif (decide (e.C0<0))then some (.ret false)
    else bif (decide (e.C0>64))then some (.ret false)
    else Qa5 N f n e.O (wI (g+1)))
   else bif (decide (e.O<h))then some (.ret false)
   else bif (decide (e.O>(f.l.S.length:Int)))then some (.ret false)
   else bif (decide (e.C0<0))then some (.ret false)
   else bif (decide (e.C0>64))then some (.ret false)
   else Qa5 N f n e.O (wI (g+1)))
  else some (.nxt ())
def QdY(N:Nat)(f:I7):Option Bool:=jn (λ(_:Unit)=>bnd (Qa5 N f N 0 0) λe=>exK e (λr=>some r) λh=>some true) λg=>bif (decide ((f.l.x.length:Int)>64))then some false else bif ((f.l.x.length:Int)==0)then(bif (decide ((f.l.S.length:Int)>0))then some false else g ())else g ()
def Qbi(N:Nat)(f:I7):Nat->Int->Int->Option (Ex Bool Unit)
 |0,_,_=>none
 |n+1,h,g=>
  bif (decide (g<(f.l.S.length:Int)))then(bnd (Xb f.l.S g) λe=>
   bif (decide (e.J<=h))then some (.ret false)
   else bif (decide (e.J>(f.l.i.length:Int)))then some (.ret false)
   else bnd (Xb f.l.i (wI (e.J-1))) λj=>
   bif (j != g)then some (.ret false)
   else bif (e.V==(e.a==0))then some (.ret false)
   else Qbi N f n e.J (wI (g+1)))
  else some (.nxt ())
def QdL(N:Nat)(f:I7):Option Bool:=bnd (Qbi N f N 0 0) λe=>exK e (λr=>some r) λg=>some true
def Qep(N:Nat)(e:I7)(f:Int):Option (List UA):=bif (decide ((wI (f+1))<(e.l.x.length:Int)))then(bnd (Xb e.l.x f) λg=>bnd (Xb e.l.x (wI (f+1))) λh=>grd (0<=g.O/\g.O<=h.O/\h.O<=(e.l.S.length:Int)) <| some ((e.l.S.drop g.O.toNat).take (h.O.toNat-g.O.toNat)))else bnd (Xb e.l.x f) λj=>grd (0<=j.O/\j.O<=(e.l.S.length:Int)/\(e.l.S.length:Int)<=(e.l.S.length:Int)) <| some (e.l.S.drop j.O.toNat)
def QbQ(N:Nat)(e:List UA):Nat->Int->Int->Option Int
 |0,_,_=>none
 |n+1,g,f=>
  bif (decide (f<(e.length:Int)))then(bnd (Xb e f) λh=>
   bif h.V then QbQ N e n (wI (g+1)) (wI (f+1))
   else QbQ N e n g (wI (f+1)))
  else some g
def QdP(N:Nat)(e:I7)(f:Int):Option Int:=bnd (Qep N e f) λg=>bnd (QbQ N g N 0 0) λh=>some h
def QgA(N:Nat)(e:Int):Option Bool:=bif (decide (e<0))then some true else some (decide (e>=4096))
def QaP(N:Nat)(f:List Int):Nat->Int->Option (Ex Int Unit)
 |0,_=>none
 |n+1,e=>
  bif (decide (e<(f.length:Int)))then(bnd (Xb f e) λg=>
   bnd (QgA N g) λh=>
   bif h then some (.ret e)
   else QaP N f n (wI (e+1)))
  else some (.nxt ())
def QbW(N:Nat)(f:List Int):Option Int:=bnd (QaP N f N 0) λe=>exK e (λr=>some r) λg=>some (-1)
def Qbu(N:Nat)(e:List Int):Option Bool:=bnd (QbW N e) λf=>some (decide (f>=0))
def Qd8(N:Nat)(e:Wm):Nat->Int->Option (Ex Bool Unit)
 |0,_=>none
 |n+1,f=>
  bif (decide (f<(e.x.length:Int)))then(bnd (Xb e.x f) λg=>
   bnd (QdP N (I7.mk e) f) λh=>
   bif (decide (h>g.C0))then some (.ret false)
   else Qd8 N e n (wI (f+1)))
  else some (.nxt ())
def QcW(N:Nat)(f:Wm):Option Bool:=bif (decide ((f.i.length:Int)>4096))then some false else bnd (Qbu N f.i) λg=>bif g then some false else bnd (QdY N (I7.mk f)) λh=>bif (!h)then some false else bnd (QdL N (I7.mk f)) λj=>bif (!j)then some false else bnd (Qd8 N f N 0) λe=>exK e (λr=>some r) λk=>some true
def QgB(N:Nat)(e:WQ):Option Bool:=bif (decide (e.G<1))then some true else bif (decide (e.G>4294967295))then some true else bif (!e.V)then some (e.a != 0)else some false
def Qal(N:Nat)(f:List WQ):Nat->Int->Option (Ex Int Unit)
 |0,_=>none
 |n+1,e=>
  bif (decide (e<(f.length:Int)))then(bnd (Xb f e) λg=>
   bnd (QgB N g) λh=>
   bif h then some (.ret e)
   else Qal N f n (wI (e+1)))
  else some (.nxt ())
def QaV(N:Nat)(f:List WQ):Option Int:=bnd (Qal N f N 0) λe=>exK e (λr=>some r) λg=>some (-1)
def QaQ(N:Nat)(e:List WQ):Option Bool:=bnd (QaV N e) λf=>some (decide (f>=0))
def QdA(N:Nat)(f:Wr):Option Bool:=bif (decide ((f.e.length:Int)<=64))then(bnd (QaQ N f.e) λg=>some (!g))else some false
def QaI(N:Nat)(f:List Int)(g:Int):Nat->Int->Option (Ex Int Unit)
 |0,_=>none
 |n+1,e=>
  bif (decide (e<(f.length:Int)))then(bnd (Xb f e) λh=>
   bif (g==h)then some (.ret e)
   else QaI N f g n (wI (e+1)))
  else some (.nxt ())
def QbV(N:Nat)(f:List Int)(g:Int):Option Int:=bnd (QaI N f g N 0) λe=>exK e (λr=>some r) λh=>some (-1)
def Qah(N:Nat)(e:List Int)(f:Int):Option Bool:=bnd (QbV N e f) λg=>some (decide (g>=0))
def QeC(N:Nat)(f:Wr):Nat->Int->(List Int)->Option (List Int)
 |0,_,_=>none
 |n+1,g,h=>
  bif (decide (g<(f.e.length:Int)))then(bnd (Xb f.e g) λj=>
   bif j.V then(grd ((h.length+1)*8<=140737488355328) <|
    QeC N f n (wI (g+1)) (h++[j.a]))
   else QeC N f n (wI (g+1)) h)
  else some h
def Qeg(N:Nat)(e:Wr):Option (List Int):=bnd (QdA N e) λf=>bif (!f)then some []else bnd (QeC N e N 0 []) λg=>some g
def Qfe(N:Nat)(e:Int)(f:List Int):Option Bool:=bnd (Qau N f e) λg=>bif (e != 0)then some (!g.2)else some false
def Qaz(N:Nat)(f:List Int)(g:List Int):Nat->Int->Option (Ex Int Unit)
 |0,_=>none
 |n+1,e=>
  bif (decide (e<(f.length:Int)))then(bnd (Xb f e) λh=>
   bnd (Qfe N h g) λj=>
   bif j then some (.ret e)
   else Qaz N f g n (wI (e+1)))
  else some (.nxt ())
def Qbh(N:Nat)(f:List Int)(g:List Int):Option Int:=bnd (Qaz N f g N 0) λe=>exK e (λr=>some r) λh=>some (-1)
def Qa3(N:Nat)(e:List Int)(f:List Int):Option Bool:=bnd (Qbh N e f) λg=>some (decide (g>=0))
def Qeq(N:Nat)(e:Wo)(f:List Int):Option Bool:=bnd (QfH N e) λg=>bif (!g)then some false else bnd (QdK N e) λh=>bnd (Qa3 N f h.1) λj=>some (!j)
def Qbs(N:Nat)(e:Int):Option (List Int):=bif (decide (e<0))then none else bif (decide ((wI (e-(wI 0)))>0))then(grd (0=0/\0=0) <| grd (0<=(wI (e-(wI 0)))/\(wI (e-(wI 0))).toNat*8<=140737488355328) <| grd ((wI (e-(wI 0))).toNat*8<=140737488355328) <| grd (0<=0/\0<=0/\0<=(((wI (e-(wI 0))).toNat:Nat):Int)) <| some ((List.replicate (wI (e-(wI 0))).toNat (0:Int)).take 0))else some []
def QaY(N:Nat)(e:List (List Int)):Nat->Int->Int->Option Int
 |0,_,_=>none
 |n+1,f,g=>
  bif (decide (g<(e.length:Int)))then(bnd (Xb e g) λh=>
   bif (decide ((wI (f+(h.length:Int)))<0))then none
   else QaY N e n (wI (f+(h.length:Int))) (wI (g+1)))
  else some f
def QaZ(N:Nat)(e:List (List Int)):Nat->Int->(List Int)->Option (List Int)
 |0,_,_=>none
 |n+1,f,g=>
  bif (decide (f<(e.length:Int)))then(bnd (Xb e f) λh=>
   grd ((g.length+h.length)*8<=140737488355328) <|
   QaZ N e n (wI (f+1)) (g++h))
  else some g
def QaU(N:Nat)(e:List (List Int)):Option (List Int):=bnd (QaY N e N 0 0) λf=>bnd (Qbs N f) λg=>bnd (QaZ N e N 0 g) λh=>some h
def Qhd(N:Nat)(e:List (List Int)):Option (List Int):=bnd (QaU N e) λf=>some f
def QeD(N:Nat)(e:Wm):Nat->Int->(List Int)->Option (List Int)
 |0,_,_=>none
 |n+1,f,g=>
  bif (decide (f<(e.S.length:Int)))then(bnd (Xb e.S f) λh=>
   bif h.V then(grd ((g.length+1)*8<=140737488355328) <|
    QeD N e n (wI (f+1)) (g++[h.a]))
   else QeD N e n (wI (f+1)) g)
  else some g
def Qgr(N:Nat)(e:Wm):Option (List Int):=bnd (QcW N e) λf=>bif (!f)then some []else bnd (QeD N e N 0 []) λg=>some g
def Qfr(N:Nat)(e:WI):Nat->Int->(List Int)->Option (List Int)
 |0,_,_=>none
 |n+1,f,g=>
  bif (decide (f<(e.P.length:Int)))then(bnd (Xb e.P f) λh=>
   grd ((g.length+1)*8<=140737488355328) <|
   Qfr N e n (wI (f+1)) (g++[h.a]))
  else some g
def Qit(N:Nat)(e:WI):Option (List Int):=bnd (Qfr N e N 0 []) λf=>some f
def Qhe(N:Nat)(e:WI):Option (List Int):=bnd (Qgr N e.l) λf=>bnd (Qeg N e.g) λh=>bnd (Qit N e) λj=>bnd (Qhd N [e.R,f,h,j]) λk=>some k
def QaJ(N:Nat)(e:WI):Option Bool:=bnd (QgY N e.h e.P) λj=>bif (!j)then some false else bnd (QcW N e.l) λk=>bif (!k)then some false else bnd (QdA N e.g) λo=>bif (!o)then some false else bnd (QdA N e.v) λp=>bif (!p)then some false else bnd (Qeg N e.g) λq=>bnd (Qah N q 0) λr=>bif r then some false else bnd (Qhe N e) λs=>bnd (Qeg N e.v) λu=>bnd (Qhd N [s,u]) λw=>bnd (Qeq N e.h w) λf=>some f
def Qaa(N:Nat)(e:List Wv):Option (List Wv):=some e
def QgL(N:Nat)(e:Wo):Option Wo:=bnd (Qab N e.w) λf=>bnd (Qaa N e.p) λg=>some (Wo.mk e.c f g e.s e.b)
def Qas(N:Nat)(e:List UA):Option (List UA):=some e
def Qan(N:Nat)(e:List UG):Option (List UG):=some e
def QaF(N:Nat)(e:List Int):Option (List Int):=some e
def Qfs(N:Nat)(e:Wm):Option Wm:=bnd (Qas N e.S) λf=>bnd (Qan N e.x) λg=>bnd (QaF N e.i) λh=>some (Wm.mk f g h)
def Qao(N:Nat)(e:List WQ):Option (List WQ):=some e
def Qff(N:Nat)(f:Wr):Option Wr:=bnd (Qao N f.e) λg=>some (Wr.mk g)
def Qaq(N:Nat)(e:List Uz):Option (List Uz):=some e
def Qat(N:Nat)(e:WI):Option WI:=bnd (QgL N e.h) λf=>bnd (Qfs N e.l) λj=>bnd (Qff N e.g) λk=>bnd (Qff N e.v) λo=>bnd (Qaq N e.P) λp=>bnd (Qab N e.R) λq=>some (WI.mk f j k o p q)
def Qfg(N:Nat)(e:WI)(f:Int)(h:Int)(j:Int)(k:Int):Option (WI×Int×Int):=bnd (QaJ N e) λg=>bif (!g)then some ((WI.mk zHp (Wm.mk [] [] []) (Wr.mk []) (Wr.mk []) [] []),0,19)else bif (decide (f<1))then some ((WI.mk zHp (Wm.mk [] [] []) (Wr.mk []) (Wr.mk []) [] []),0,1)else bif (decide (f>20))then some ((WI.mk zHp (Wm.mk [] [] []) (Wr.mk []) (Wr.mk []) [] []),0,1)else bnd (Qat N e) λl=>none
def QdB(N:Nat)(e:Wm):Option Wm:=bnd (Qas N e.S) λf=>bnd (Qan N e.x) λg=>bnd (QaF N e.i) λh=>some (Wm.mk f g h)
def QcJ(N:Nat)(f:Wm)(g:Int):Option (Wm×Int×Int×Int):=bnd (QcW N f) λh=>bif (!h)then some ((Wm.mk [] [] []),0,0,1)else bif (g==0)then some ((Wm.mk [] [] []),0,0,1)else bif (decide ((wI ((f.x.length:Int)-1))<0))then some ((Wm.mk [] [] []),0,0,9)else bnd (QdP N (I7.mk f) (wI ((f.x.length:Int)-1))) λj=>bnd (Xb f.x (wI ((f.x.length:Int)-1))) λk=>bif (decide (j>=k.C0))then some ((Wm.mk [] [] []),0,0,10)else bif (decide ((f.i.length:Int)>=4096))then some ((Wm.mk [] [] []),0,0,18)else bnd (QdB N f) λe=>grd (e.S.length<=140737488355328) <| grd (e.i.length<=140737488355328) <| grd ((e.S.length+1)*24<=140737488355328) <| grd ((e.i.length+1)*8<=140737488355328) <| some ((Wm.mk (e.S++[(UA.mk (wI ((e.i.length:Int)+1)) g true)]) e.x (e.i++[(e.S.length:Int)])),(e.S.length:Int),(wI ((e.i.length:Int)+1)),0)
def QeT(N:Nat)(f:WV)(e:WC):Option Bool:=bnd (QdI N e) λg=>bif g then(bif (e.k != 0)then(bnd (Qbr N e) λh=>bnd (QfF N f h) λj=>some (decide (j>=0)))else some false)else some false
def QdV(N:Nat)(e:List Wv):Nat->Int->Int->Option Int
 |0,_,_=>none
 |n+1,g,f=>
  bif (decide (f<(e.length:Int)))then(bnd (Xb e f) λh=>
   bif (h.k != 0)then QdV N e n (wI (g+1)) (wI (f+1))
   else QdV N e n g (wI (f+1)))
  else some g
def Qhf(N:Nat)(e:List Wv):Option Int:=bnd (QdV N e N 0 0) λf=>some f
def QhH(N:Nat)(h:List Wv)(e:Int)(f:List Wv):Option (List Wv×Int):=bif (decide (e<0))then some ([],2)else bif (decide (e>(wI ((h.length:Int)-(f.length:Int)))))then some ([],2)else grd (0<=e/\e<=(wI (e+(f.length:Int)))/\(wI (e+(f.length:Int)))<=(h.length:Int)) <| bnd (Qhf N ((h.drop e.toNat).take ((wI (e+(f.length:Int))).toNat-e.toNat))) λj=>bif (decide (j>0))then some ([],20)else bnd (Qaa N h) λg=>grd (0<=e/\e<=(g.length:Int)/\(g.length:Int)<=(g.length:Int)) <| grd (f.length<=(g.length-e.toNat)) <| some ((((g.take e.toNat)++f)++(g.drop (e.toNat+f.length))),0)
def Qeh(N:Nat)(g:List Wv)(h:Int)(e:Int):Option (List Wv×Int):=bnd (Qb7 N (Wv.mk 1 e 0 0)) λj=>bif (!j)then some ([],1)else bnd (QhH N g h [(Wv.mk 1 e 0 0)]) λf=>some (f.1,f.2)
def Qft(N:Nat)(h:List Wv)(j:Int)(f:Int)(g:Int):Nat->(List Wv)->Option (List Wv)
 |0,_=>none
 |n+1,e=>
  grd (e.length<=140737488355328) <|
  bif (decide ((e.length:Int)<g))then(grd ((e.length+1)*32<=140737488355328) <|
   Qft N h j f g n (e++[(Wv.mk 3 f 0 0)]))
  else some e
def QhW(N:Nat)(l:WV)(g:List Wv)(h:Int)(e:Int)(f:Int):Option (List Wv×Int):=bnd (QfF N l f) λj=>bif (decide (j<1))then some ([],1)else bnd (Qb7 N (Wv.mk 2 e f 0)) λo=>bif (!o)then some ([],1)else bnd (Qft N g h e j N [(Wv.mk 2 e f 0)]) λp=>bnd (QhH N g h p) λk=>some (k.1,k.2)
def Qiu(N:Nat)(e:WV):Option Int:=bnd (Qcn N e) λf=>bif (!f)then some 0 else some (wI (e.p.tdiv 4))
def QcX(N:Nat)(g:List Wv):Nat->Int->(List Oj)->Option (List Oj)
 |0,_,_=>none
 |n+1,f,e=>
  bif (decide (f<(g.length:Int)))then(bnd (Xb g f) λj=>
   grd (e.length<=140737488355328) <|
   bif (j.k != 0)then QcX N g n (wI (f+1)) e
   else jn (λ(_:Unit)=>
    grd ((e.length+1)*16<=140737488355328) <|
    QcX N g n (wI (f+1)) (e++[(Oj.mk f 1)])) λh=>
   bif (decide ((wI ((e.length:Int)-1))>=0))then(bnd (Xb e (wI ((e.length:Int)-1))) λl=>
    bnd (Xb e (wI ((e.length:Int)-1))) λo=>
    bif ((wI (l.O+o.Len))==f)then(bnd (Xb e (wI ((e.length:Int)-1))) λp=>
     bnd (Xb e (wI ((e.length:Int)-1))) λq=>
     QcX N g n (wI (f+1)) (e.set (wI ((e.length:Int)-1)).toNat (Oj.mk q.O (wI (p.Len+1)))))
    else h ())
   else h ())
  else some e
def Qik(N:Nat)(e:List Wv):Option (List Oj):=bnd (QcX N e N 0 []) λf=>some f
def QeE(N:Nat)(g:Int)(e:List Oj):Nat->Int->Option (Ex Int Unit)
 |0,_=>none
 |n+1,f=>
  bif (decide (f<(e.length:Int)))then(bnd (Xb e f) λh=>
   bif (decide (h.Len>=g))then some (.ret h.O)
   else QeE N g e n (wI (f+1)))
  else some (.nxt ())
def Qei(N:Nat)(g:List Wv)(f:Int):Option Int:=bif (decide (f<1))then some (-1)else bnd (Qik N g) λh=>bnd (QeE N f h N 0) λe=>exK e (λr=>some r) λj=>some (-1)
def Qe7(N:Nat)(e:Wo)(l:Int):Option (Wo×IW×Int):=bnd (Qhf N e.p) λo=>bnd (Qiu N e.c) λq=>bnd (QfF N e.c l) λr=>bif (decide (r>0))then(bnd (Qei N e.p r) λv=>jn (λ(_:Unit)=>some (zHp,(IW.mk 0 0),3)) λB=>bif (decide (v>=0))then(bif (decide (o<=(wI (q-r))))then(bnd (QhW N e.c e.p v e.s l) λD=>some ((Wo.mk e.c e.w D.1 e.s e.b),(IW.mk v 0),D.2))else B ())else B ())else jn (λ(_:Unit)=>bnd (Qei N e.p 1) λj=>jn (λ(_:Unit)=>some (zHp,(IW.mk 0 0),3)) λE=>bif (decide (j>=0))then(bif (decide (o<q))then(bnd (Qeh N e.p j e.s) λf=>bif (f.2 != 0)then some (zHp,(IW.mk 0 0),f.2)else bnd (Xb f.1 j) λg=>some ((Wo.mk e.c e.w (f.1.set j.toNat (Wv.mk g.k g.s l g.P)) e.s j),(IW.mk j 0),0))else E ())else E ()) λy=>bif (decide (e.b>=0))then(bif (decide (o<=q))then(bnd (Xb e.p e.b) λz=>jn (λ(_:Unit)=>y ()) λG=>bif (z.s==e.s)then(bif (decide (l<=(wI (e.c.W-z.u))))then(bnd (Qaa N e.p) λA=>bnd (Xb A e.b) λH=>bnd (Xb A e.b) λh=>some ((Wo.mk e.c e.w (A.set e.b.toNat (Wv.mk h.k h.s (wI (H.u+l)) h.P)) e.s e.b),(IW.mk e.b z.u),0))else G ())else G ())else y ())else y ()
def Qe8(N:Nat)(e:Wo)(g:List Int)(f:Int):Option (Wo×Int):=bif (f != 0)then some (zHp,f)else bnd (Qaa N e.p) λh=>some ((Wo.mk e.c g h e.s e.b),0)
def QgM(N:Nat)(h:List Int)(j:Int)(g:List Int):Option (List Int×Int):=bnd (QfQ N h j (g.length:Int)) λe=>bif (!e.2)then some ([],2)else bnd (Qab N h) λf=>grd (0<=e.1/\e.1<=(f.length:Int)/\(f.length:Int)<=(f.length:Int)) <| grd (g.length<=(f.length-e.1.toNat)) <| some ((((f.take e.1.toNat)++g)++(f.drop (e.1.toNat+g.length))),0)
def Qb8(N:Nat)(e:Int)(f:Int):Option Bool:=bnd (Qa2 N f) λg=>some ((XaK .u64 e g)==0)
def Qbf(N:Nat)(e:List UB):Nat->Int->Int->Option (Ex (Int×Int) Unit)
 |0,_,_=>none
 |n+1,h,f=>
  bif (decide (f<(e.length:Int)))then(bnd (Xb e f) λg=>
   bif (decide (g.Width<1))then some (.ret (0,1))
   else bif (decide (g.Width>h))then some (.ret (0,1))
   else Qbf N e n (wI (h-g.Width)) (wI (f+1)))
  else some (.nxt ())
def QaO(N:Nat)(f:List UB):Nat->Int->Int->Int->Option (Ex (Int×Int) Int)
 |0,_,_,_=>none
 |n+1,j,g,h=>
  bif (decide (h<(f.length:Int)))then(bnd (Xb f h) λe=>
   bnd (Qb8 N e.Value e.Width) λk=>
   bif (!k)then some (.ret (0,2))
   else grd (0<=g) <|
   QaO N f n (bOr .u64 j (ZP .u64 e.Value g)) (wI (g+e.Width)) (wI (h+1)))
  else some (.nxt j)
def QfI(N:Nat)(g:List UB):Option (Int×Int):=bnd (Qbf N g N 64 0) λe=>exK e (λr=>some r) λh=>bnd (QaO N g N 0 0 0) λe=>exK e (λr=>some r) λf=>some (f,0)
def QgC(N:Nat)(e:WC):Option (Int×Int):=bnd (QdI N e) λg=>bif (!g)then some (0,1)else bnd (QfI N [(UB.mk 2 1),(UB.mk 2 (wU e.k)),(UB.mk 12 (wU e.n)),(UB.mk 32 (wU e.Map))]) λf=>some (f.1,f.2)
def QfR(N:Nat)(f:Wo)(l:Int)(g:WC):Option (Wo×Int):=bnd (QgC N g) λh=>bif (h.2 != 0)then some (zHp,1)else bnd (QbK N f) λo=>bif (!o)then some (zHp,1)else bnd (Qbr N g) λe=>grd (0<=e/\e.toNat*8<=140737488355328) <| bnd (Xb (List.replicate e.toNat (0:Int)) 0) λp=>bnd (QgM N f.w l ((List.replicate e.toNat (0:Int)).set 0 h.1)) λj=>bnd (Qe8 N f j.1 j.2) λk=>some (k.1,k.2)
def Qe2(N:Nat)(f:Wo)(h:WC):Option (Wo×Int×Int):=bnd (QbK N f) λk=>bif (!k)then some (zHp,0,1)else bnd (QeT N f.c h) λl=>bif (!l)then some (zHp,0,1)else bnd (Qbr N h) λo=>bnd (Qe7 N f o) λe=>bif (e.2.2 != 0)then some (zHp,0,e.2.2)else bnd (QdJ N f.c e.2.1.page e.2.1.offset) λg=>bif (g.2 != 0)then some (zHp,0,g.2)else bnd (QfR N e.1 g.1 h) λj=>bif (j.2 != 0)then some (zHp,0,j.2)else some (j.1,g.1,0)
def Qb9(N:Nat)(g:Wo)(j:List Int×Int)(l:List Int)(h:List Wv):Nat->Int->(List Wv)->Option (List Wv)
 |0,_,_=>none
 |n+1,e,f=>
  bif (decide (e<(h.length:Int)))then(bnd (Xb f e) λp=>
   bif (p.k==1)then(bif (decide (p.P>0))then(bnd (Xb f e) λo=>
       Qb9 N g j l h n (wI (e+1)) (f.set e.toNat (Wv.mk o.k (wI (1-g.s)) o.u o.P)))
    else Qb9 N g j l h n (wI (e+1)) f)
   else Qb9 N g j l h n (wI (e+1)) f)
  else some f
def Qe9(N:Nat)(e:Wo):Option (WD×Int):=bnd (QbK N e) λk=>bif (!k)then some ((WD.mk zHp [] [] [] 0 (WP.mk 0 0 0 0 0 0)),1)else bnd (QfH N e) λl=>bif (!l)then some ((WD.mk zHp [] [] [] 0 (WP.mk 0 0 0 0 0 0)),19)else bnd (QdK N e) λf=>bif (f.2 != 0)then some ((WD.mk zHp [] [] [] 0 (WP.mk 0 0 0 0 0 0)),f.2)else bnd (Qab N e.w) λj=>bnd (Qaa N e.p) λg=>grd (g.length<=140737488355328) <| bnd (Qb9 N e f j g N 0 g) λh=>some ((WD.mk (Wo.mk e.c j h e.s e.b) f.1 [] [] 0 (WP.mk 0 0 0 0 0 0)),0)
def Qfu(N:Nat)(f:Int):Option (Int×Bool):=bnd (Qdz N f [2,32]) λe=>bif (e.2 != 0)then some (0,false)else bnd (Xb e.1 0) λg=>bif (g != 2)then some (0,false)else bnd (Xb e.1 1) λh=>some (h,true)
def QbM(N:Nat)(f:List Int)(g:Int):Nat->Int->Option (Ex Int Unit)
 |0,_=>none
 |n+1,e=>
  bif (decide (e<(f.length:Int)))then(bnd (Xb f e) λh=>
   bif (g==h)then some (.ret e)
   else QbM N f g n (wI (e+1)))
  else some (.nxt ())
def QeU(N:Nat)(f:List Int)(g:Int):Option Int:=bnd (QbM N f g N 0) λe=>exK e (λr=>some r) λh=>some (-1)
def Qbj(N:Nat)(e:List Int)(f:Int):Option Bool:=bnd (QeU N e f) λg=>some (decide (g>=0))
def Qdr(N:Nat)(e:WD)(f:Int):Option Bool:=jn (λ(o:Bool)=>some o) λg=>bif (decide (f<0))then g false else grd (e.h.p.length<=140737488355328) <| bif (decide (f>=(e.h.p.length:Int)))then g false else bnd (Xb e.h.p f) λl=>jn (λ(q:Bool)=>g q) λj=>bif (l.k==1)then(bif (l.s==(wI (1-e.h.s)))then(bnd (Qbj N e.t f) λr=>j (!r))else j false)else j false
def Qct(N:Nat)(e:WD)(v:Int):Option (Int×Int×Int×List Wv×List Int):=jn (λ(w:Int) (y:Int) (z:Int) (j:List Wv) (k:List Int)=>some (w,y,z,j,k)) λl=>grd (e.t.length<=140737488355328) <| jn (λ(_:Unit)=>bnd (Qei N e.h.p 1) λf=>bif (decide (f<0))then l 0 0 3 e.h.p e.t else bnd (Qeh N e.h.p f (wI (1-e.h.s))) λo=>bif (o.2 != 0)then none else grd ((e.t.length+1)*8<=140737488355328) <| l f 0 0 o.1 (e.t++[f])) λg=>bif (decide ((e.t.length:Int)>0))then(bnd (Xb e.t (wI ((e.t.length:Int)-1))) λA=>bif (decide (A>=0))then(bnd (Xb e.t (wI ((e.t.length:Int)-1))) λB=>grd (e.h.p.length<=140737488355328) <| bif (decide (B<(e.h.p.length:Int)))then(bnd (Xb e.t (wI ((e.t.length:Int)-1))) λq=>bnd (Xb e.h.p q) λr=>bif (decide (v<=(wI (e.h.c.W-r.u))))then l q r.u 0 e.h.p e.t else g ())else g ())else g ())else g ()
def Qb4(N:Nat)(e:Int):Option (Int×Int):=bnd (Qa2 N 32) λg=>bif (decide (e>g))then some (0,1)else bnd (QfI N [(UB.mk 2 2),(UB.mk 32 e)]) λf=>some (f.1,f.2)
def QbN(N:Nat)(l:WD)(o:Int):Nat->Int->(List Wv)->Option (List Wv)
 |0,_,_=>none
 |n+1,f,e=>
  grd (e.length<=140737488355328) <|
  bif (decide (f<(e.length:Int)))then(bnd (Xb e f) λj=>
   bif (j.k==3)then(bnd (Xb e f) λg=>
    QbN N l o n (wI (f+1)) (e.set f.toNat (Wv.mk g.k (wI (1-l.h.s)) g.u g.P)))
   else some e)
  else some e
def Qa4(N:Nat)(e:WD)(G:Int):Option (Int×Int×WD):=jn (λ(R:Int) (S:Int) (T:Int) (U:Int) (V:List Int) (Y:List Wv) (Z:List Int) (x47:List Int)=>some (R,S,(WD.mk (Wo.mk e.h.c V Y e.h.s e.h.b) e.o Z x47 e.d (WP.mk T U e.r.F e.r.E e.r.f e.r.y)))) λD=>bif (G==0)then D G 0 e.r.j e.r.K e.h.w e.h.p e.t e.q else bnd (Qah N e.q G) λy1=>bif y1 then D G 0 e.r.j e.r.K e.h.w e.h.p e.t e.q else bnd (Qah N e.o G) λy2=>bif (!y2)then D 0 19 e.r.j e.r.K e.h.w e.h.p e.t e.q else bnd (Qb2 N e.h.c G) λA=>bif (A.2.2 != 0)then D 0 19 e.r.j e.r.K e.h.w e.h.p e.t e.q else grd (e.h.w.length<=140737488355328) <| bif (decide (1>(wI ((e.h.w.length:Int)-(wI ((wI (A.1*e.h.c.W))+A.2.1))))))then D 0 19 e.r.j e.r.K e.h.w e.h.p e.t e.q else grd (0<=(wI ((wI (A.1*e.h.c.W))+A.2.1))/\(wI ((wI (A.1*e.h.c.W))+A.2.1))<=(wI ((wI ((wI (A.1*e.h.c.W))+A.2.1))+1))/\(wI ((wI ((wI (A.1*e.h.c.W))+A.2.1))+1))<=(e.h.w.length:Int)) <| bnd (KC e.h.w ((wI ((wI (A.1*e.h.c.W))+A.2.1)).toNat) ((wI ((wI ((wI (A.1*e.h.c.W))+A.2.1))+1)).toNat-(wI ((wI (A.1*e.h.c.W))+A.2.1)).toNat) 0) λp6=>bnd (Qfu N p6) λy7=>bif y7.2 then D y7.1 0 e.r.j e.r.K e.h.w e.h.p e.t e.q else bnd (Qb2 N e.h.c G) λL=>grd (e.h.p.length<=140737488355328) <| bif (decide (L.1>=(e.h.p.length:Int)))then D 0 19 e.r.j e.r.K e.h.w e.h.p e.t e.q else bnd (Qdr N e L.1) λy9=>bif y9 then(grd ((e.q.length+1)*8<=140737488355328) <| D G 0 e.r.j (wI (e.r.K+1)) e.h.w e.h.p e.t (e.q++[G]))else bnd (Xb e.h.p L.1) λp10=>bif (p10.k==2)then(bnd (Xb e.h.p L.1) λI=>bnd (QbN N e G N (wI (L.1+1)) (e.h.p.set L.1.toNat (Wv.mk I.k (wI (1-e.h.s)) I.u I.P))) λy16=>grd ((e.q.length+1)*8<=140737488355328) <| D G 0 e.r.j (wI (e.r.K+1)) e.h.w y16 e.t (e.q++[G]))else bnd (KC e.h.w ((wI ((wI (A.1*e.h.c.W))+A.2.1)).toNat) ((wI ((wI ((wI (A.1*e.h.c.W))+A.2.1))+1)).toNat-(wI ((wI (A.1*e.h.c.W))+A.2.1)).toNat) 0) λp17=>bnd (Qez N p17) λH=>bnd (Qbr N H.1) λv=>bnd (Qb2 N e.h.c G) λg=>bif (g.2.2 != 0)then(bif (!H.2)then D 0 19 e.r.j e.r.K e.h.w e.h.p e.t e.q else D 0 19 e.r.j e.r.K e.h.w e.h.p e.t e.q)else grd (e.h.w.length<=140737488355328) <| bif (decide (v>(wI ((e.h.w.length:Int)-(wI ((wI (g.1*e.h.c.W))+g.2.1))))))then(bif (!H.2)then D 0 19 e.r.j e.r.K e.h.w e.h.p e.t e.q else D 0 19 e.r.j e.r.K e.h.w e.h.p e.t e.q)else grd (0<=(wI ((wI (g.1*e.h.c.W))+g.2.1))/\(wI ((wI (g.1*e.h.c.W))+g.2.1))<=(wI ((wI ((wI (g.1*e.h.c.W))+g.2.1))+v))/\(wI ((wI ((wI (g.1*e.h.c.W))+g.2.1))+v))<=(e.h.w.length:Int)) <| bif (!H.2)then D 0 19 e.r.j e.r.K e.h.w e.h.p e.t e.q else grd (((wI ((wI ((wI (g.1*e.h.c.W))+g.2.1))+v)).toNat-(wI ((wI (g.1*e.h.c.W))+g.2.1)).toNat)<=140737488355328) <| bnd (Qct N e ((((wI ((wI ((wI (g.1*e.h.c.W))+g.2.1))+v)).toNat-(wI ((wI (g.1*e.h.c.W))+g.2.1)).toNat):Nat):Int)) λz=>bif (z.2.2.1 != 0)then D 0 z.2.2.1 e.r.j e.r.K e.h.w z.2.2.2.1 z.2.2.2.2 e.q else jn (λ(x34:Int) (x35:Int) (x36:Int) (x37:List Int) (x38:List Wv) (x39:List Int)=>D x34 x35 x36 e.r.K x37 x38 z.2.2.2.2 x39) λM=>bnd (QdJ N e.h.c z.1 z.2.1) λB=>bif (B.2 != 0)then M 0 B.2 e.r.j e.h.w z.2.2.2.1 e.q else grd (((wI ((wI ((wI (g.1*e.h.c.W))+g.2.1))+v)).toNat-(wI ((wI (g.1*e.h.c.W))+g.2.1)).toNat)<=140737488355328) <| bnd (Qb2 N e.h.c B.1) λl=>bif (l.2.2 != 0)then(bnd (Qb4 N B.1) λy28=>M 0 19 e.r.j e.h.w z.2.2.2.1 e.q)else grd (e.h.w.length<=140737488355328) <| bif (decide (((((wI ((wI ((wI (g.1*e.h.c.W))+g.2.1))+v)).toNat-(wI ((wI (g.1*e.h.c.W))+g.2.1)).toNat):Nat):Int)>(wI ((e.h.w.length:Int)-(wI ((wI (l.1*e.h.c.W))+l.2.1))))))then(bnd (Qb4 N B.1) λy29=>M 0 19 e.r.j e.h.w z.2.2.2.1 e.q)else grd (0<=(wI ((wI (l.1*e.h.c.W))+l.2.1))/\(wI ((wI (l.1*e.h.c.W))+l.2.1))<=(wI ((wI ((wI (l.1*e.h.c.W))+l.2.1))+((((wI ((wI ((wI (g.1*e.h.c.W))+g.2.1))+v)).toNat-(wI ((wI (g.1*e.h.c.W))+g.2.1)).toNat):Nat):Int)))/\(wI ((wI ((wI (l.1*e.h.c.W))+l.2.1))+((((wI ((wI ((wI (g.1*e.h.c.W))+g.2.1))+v)).toNat-(wI ((wI (g.1*e.h.c.W))+g.2.1)).toNat):Nat):Int)))<=(e.h.w.length:Int)) <| bnd (Qb4 N B.1) λO=>bif (O.2 != 0)then M 0 19 e.r.j e.h.w z.2.2.2.1 e.q else grd (((wI ((wI ((wI (g.1*e.h.c.W))+g.2.1))+v)).toNat-(wI ((wI (g.1*e.h.c.W))+g.2.1)).toNat)<=((wI ((wI ((wI (l.1*e.h.c.W))+l.2.1))+((((wI ((wI ((wI (g.1*e.h.c.W))+g.2.1))+v)).toNat-(wI ((wI (g.1*e.h.c.W))+g.2.1)).toNat):Nat):Int))).toNat-(wI ((wI (l.1*e.h.c.W))+l.2.1)).toNat)) <| bnd (KC (((e.h.w.take (wI ((wI (l.1*e.h.c.W))+l.2.1)).toNat)++((e.h.w.drop (wI ((wI (g.1*e.h.c.W))+g.2.1)).toNat).take ((wI ((wI ((wI (g.1*e.h.c.W))+g.2.1))+v)).toNat-(wI ((wI (g.1*e.h.c.W))+g.2.1)).toNat)))++(e.h.w.drop ((wI ((wI (l.1*e.h.c.W))+l.2.1)).toNat+((wI ((wI ((wI (g.1*e.h.c.W))+g.2.1))+v)).toNat-(wI ((wI (g.1*e.h.c.W))+g.2.1)).toNat)))) ((wI ((wI (g.1*e.h.c.W))+g.2.1)).toNat) ((wI ((wI ((wI (g.1*e.h.c.W))+g.2.1))+v)).toNat-(wI ((wI (g.1*e.h.c.W))+g.2.1)).toNat) 0) λp31=>bnd (Xb z.2.2.2.1 z.1) λp32=>grd (((wI ((wI ((wI (g.1*e.h.c.W))+g.2.1))+v)).toNat-(wI ((wI (g.1*e.h.c.W))+g.2.1)).toNat)<=140737488355328) <| bnd (Xb z.2.2.2.1 z.1) λJ=>grd ((e.q.length+1)*8<=140737488355328) <| M B.1 0 (wI (e.r.j+1)) ((((e.h.w.take (wI ((wI (l.1*e.h.c.W))+l.2.1)).toNat)++((e.h.w.drop (wI ((wI (g.1*e.h.c.W))+g.2.1)).toNat).take ((wI ((wI ((wI (g.1*e.h.c.W))+g.2.1))+v)).toNat-(wI ((wI (g.1*e.h.c.W))+g.2.1)).toNat)))++(e.h.w.drop ((wI ((wI (l.1*e.h.c.W))+l.2.1)).toNat+((wI ((wI ((wI (g.1*e.h.c.W))+g.2.1))+v)).toNat-(wI ((wI (g.1*e.h.c.W))+g.2.1)).toNat)))).set (wI ((wI (g.1*e.h.c.W))+g.2.1)).toNat O.1) (z.2.2.2.1.set z.1.toNat (Wv.mk J.k J.s (wI (p32.u+((((wI ((wI ((wI (g.1*e.h.c.W))+g.2.1))+v)).toNat-(wI ((wI (g.1*e.h.c.W))+g.2.1)).toNat):Nat):Int))) J.P)) (e.q++[B.1])
def QeF(N:Nat)(M:List Int):Nat->Int->Int->Int->Int->Int->Int->Int->Int->Int->Int->Int->Int->(List Int)->(List Wv)->(List Int)->(List Int)->(List Int)->(List Int)->Option (Ex (WD×List Int×Int) (Int×Int×Int×Int×Int×Int×Int×Int×Int×Int×Int×List Int×List Wv×List Int×List Int×List Int×List Int))
 |0,_,_,_,_,_,_,_,_,_,_,_,_,_,_,_,_,_,_=>none
 |n+1,O,S,T,U,k,l,u,v,z,A,B,D,G,H,I,J,L,g=>
  bif (decide (O<(M.length:Int)))then(bnd (Xb M O) λR=>
   bnd (Qa4 N (WD.mk (Wo.mk (WV.mk S T) G H U k) I J L l (WP.mk u v z A B D)) R) λe=>
   bif (e.2.1 != 0)then some (.ret ((WD.mk zHp [] [] [] 0 (WP.mk 0 0 0 0 0 0)),[],e.2.1))
   else grd ((g.length+1)*8<=140737488355328) <|
   QeF N M n (wI (O+1)) e.2.2.h.c.W e.2.2.h.c.p e.2.2.h.s e.2.2.h.b e.2.2.d e.2.2.r.j e.2.2.r.K e.2.2.r.F e.2.2.r.E e.2.2.r.f e.2.2.r.y e.2.2.h.w e.2.2.h.p e.2.2.o e.2.2.t e.2.2.q (g++[e.1]))
  else some (.nxt (S,T,U,k,l,u,v,z,A,B,D,G,H,I,J,L,g))
def Qgs(N:Nat)(k:WD)(l:List Int):Option (WD×List Int×Int):=bnd (Qab N k.h.w) λu=>bnd (Qaa N k.h.p) λv=>bnd (Qab N k.o) λz=>bnd (QaF N k.t) λA=>bnd (Qab N k.q) λB=>bnd (QeF N l N 0 k.h.c.W k.h.c.p k.h.s k.h.b k.d k.r.j k.r.K k.r.F k.r.E k.r.f k.r.y u v z A B []) λe=>exK e (λr=>some r) λg=>some ((WD.mk (Wo.mk (WV.mk g.1 g.2.1) g.2.2.2.2.2.2.2.2.2.2.2.1 g.2.2.2.2.2.2.2.2.2.2.2.2.1 g.2.2.1 g.2.2.2.1) g.2.2.2.2.2.2.2.2.2.2.2.2.2.1 g.2.2.2.2.2.2.2.2.2.2.2.2.2.2.1 g.2.2.2.2.2.2.2.2.2.2.2.2.2.2.2.1 g.2.2.2.2.1 (WP.mk g.2.2.2.2.2.1 g.2.2.2.2.2.2.1 g.2.2.2.2.2.2.2.1 g.2.2.2.2.2.2.2.2.1 g.2.2.2.2.2.2.2.2.2.1 g.2.2.2.2.2.2.2.2.2.2.1)),g.2.2.2.2.2.2.2.2.2.2.2.2.2.2.2.2,0)
def QfS(N:Nat)(k:Int)(l:Int)(g:Int×Int×Int)(u:List Int):Nat->Int->Int->Int->Int->Int->Int->Int->Int->Int->Int->Int->Int->(List Int)->(List Wv)->(List Int)->(List Int)->(List Int)->Option (Ex (Int×Int×Int×Int×Int×Int×Int×Int×Int×Int×Int×Int×List Int×List Wv×List Int×List Int×List Int) (Int×Int×Int×Int×Int×Int×Int×Int×Int×Int×Int×List Int×List Wv×List Int×List Int×List Int))
 |0,_,_,_,_,_,_,_,_,_,_,_,_,_,_,_,_,_=>none
 |n+1,v,B,D,G,H,I,J,L,M,O,R,S,z,T,U,V,Y=>
  bif (decide (v<(u.length:Int)))then(bnd (Xb u v) λA=>
   bnd (KC z ((wI ((wI (g.1*k))+g.2.1)).toNat) ((wI ((wI ((wI (g.1*k))+g.2.1))+l)).toNat-(wI ((wI (g.1*k))+g.2.1)).toNat) (wI (1+A))) λZ=>
   bnd (Qa4 N (WD.mk (Wo.mk (WV.mk B D) z T G H) U V Y I (WP.mk J L M O R S)) Z) λe=>
   bif (e.2.1 != 0)then some (.ret (e.2.1,e.2.2.h.c.W,e.2.2.h.c.p,e.2.2.h.s,e.2.2.h.b,e.2.2.d,e.2.2.r.j,e.2.2.r.K,e.2.2.r.F,e.2.2.r.E,e.2.2.r.f,e.2.2.r.y,e.2.2.h.w,e.2.2.h.p,e.2.2.o,e.2.2.t,e.2.2.q))
   else bnd (KC e.2.2.h.w ((wI ((wI (g.1*k))+g.2.1)).toNat) ((wI ((wI ((wI (g.1*k))+g.2.1))+l)).toNat-(wI ((wI (g.1*k))+g.2.1)).toNat) (wI (1+A))) λp53=>
   QfS N k l g u n (wI (v+1)) e.2.2.h.c.W e.2.2.h.c.p e.2.2.h.s e.2.2.h.b e.2.2.d e.2.2.r.j e.2.2.r.K e.2.2.r.F e.2.2.r.E e.2.2.r.f e.2.2.r.y (e.2.2.h.w.set ((wI ((wI (g.1*k))+g.2.1)).toNat+(wI (1+A)).toNat) e.1) e.2.2.h.p e.2.2.o e.2.2.t e.2.2.q)
  else some (.nxt (B,D,G,H,I,J,L,M,O,R,S,z,T,U,V,Y))
def QfT(N:Nat):Nat->Int->Int->Int->Int->Int->Int->Int->Int->Int->Int->Int->(List Int)->(List Wv)->(List Int)->(List Int)->(List Int)->Option (WD×Int)
 |0,_,_,_,_,_,_,_,_,_,_,_,_,_,_,_,_=>none
 |n+1,o,B,G,H,k,q,r,s,u,v,w,f,y,z,A,l=>
  jn (λ(x56:Bool) (J:Int) (K:Int) (L:Int) (M:Int) (O:Int) (R:Int) (S:Int) (T:Int) (U:Int) (V:Int) (W:Int) (Y:Int) (Z:List Int) (x70:List Wv) (x71:List Int) (x72:List Int) (x73:List Int)=>
   bif (J != 0)then some ((WD.mk zHp [] [] [] 0 (WP.mk 0 0 0 0 0 0)),J)
   else bif (!x56)then some ((WD.mk (Wo.mk (WV.mk K L) Z x70 M O) x71 x72 x73 R (WP.mk S T U V W Y)),0)
   else QfT N n K L M O R S T U V W Y Z x70 x71 x72 x73) λD=>
  bif (decide (k<0))then D false 0 o B G H k q r s u v w f y z A l
  else grd (l.length<=140737488355328) <|
  bif (decide (k>=(l.length:Int)))then D false 0 o B G H k q r s u v w f y z A l
  else bnd (Xb l k) λp22=>
  bnd (Qb2 N (WV.mk o B) p22) λg=>
  bif (g.2.2 != 0)then D false 19 o B G H k q r s u v w f y z A l
  else grd (f.length<=140737488355328) <|
  bif (decide (1>(wI ((f.length:Int)-(wI ((wI (g.1*o))+g.2.1))))))then D false 19 o B G H k q r s u v w f y z A l
  else grd (0<=(wI ((wI (g.1*o))+g.2.1))/\(wI ((wI (g.1*o))+g.2.1))<=(wI ((wI ((wI (g.1*o))+g.2.1))+1))/\(wI ((wI ((wI (g.1*o))+g.2.1))+1))<=(f.length:Int)) <|
  bnd (KC f ((wI ((wI (g.1*o))+g.2.1)).toNat) ((wI ((wI ((wI (g.1*o))+g.2.1))+1)).toNat-(wI ((wI (g.1*o))+g.2.1)).toNat) 0) λp26=>
  bnd (Qez N p26) λE=>
  bnd (Qbr N E.1) λI=>
  bnd (Qb2 N (WV.mk o B) p22) λp=>
  bif (p.2.2 != 0)then(bif (!E.2)then D false 19 o B G H k q r s u v w f y z A l
   else D false 19 o B G H k q r s u v w f y z A l)
  else grd (f.length<=140737488355328) <|
  bif (decide (I>(wI ((f.length:Int)-(wI ((wI (p.1*o))+p.2.1))))))then(bif (!E.2)then D false 19 o B G H k q r s u v w f y z A l
   else D false 19 o B G H k q r s u v w f y z A l)
  else grd (0<=(wI ((wI (p.1*o))+p.2.1))/\(wI ((wI (p.1*o))+p.2.1))<=(wI ((wI ((wI (p.1*o))+p.2.1))+I))/\(wI ((wI ((wI (p.1*o))+p.2.1))+I))<=(f.length:Int)) <|
  bif (!E.2)then D false 19 o B G H k q r s u v w f y z A l
  else bnd (Qer N E.1) λy32=>
  bnd (QfS N o I p y32 N 0 o B G H k q r s u v w f y z A l) λe=>exK e (λh=>D false h.1 h.2.1 h.2.2.1 h.2.2.2.1 h.2.2.2.2.1 h.2.2.2.2.2.1 h.2.2.2.2.2.2.1 h.2.2.2.2.2.2.2.1 h.2.2.2.2.2.2.2.2.1 h.2.2.2.2.2.2.2.2.2.1 h.2.2.2.2.2.2.2.2.2.2.1 h.2.2.2.2.2.2.2.2.2.2.2.1 h.2.2.2.2.2.2.2.2.2.2.2.2.1 h.2.2.2.2.2.2.2.2.2.2.2.2.2.1 h.2.2.2.2.2.2.2.2.2.2.2.2.2.2.1 h.2.2.2.2.2.2.2.2.2.2.2.2.2.2.2.1 h.2.2.2.2.2.2.2.2.2.2.2.2.2.2.2.2) λj=>
  D true 0 j.1 j.2.1 j.2.2.1 j.2.2.2.1 (wI (j.2.2.2.2.1+1)) j.2.2.2.2.2.1 j.2.2.2.2.2.2.1 j.2.2.2.2.2.2.2.1 j.2.2.2.2.2.2.2.2.1 j.2.2.2.2.2.2.2.2.2.1 (wI (j.2.2.2.2.2.2.2.2.2.2.1+(wI (1+(y32.length:Int))))) j.2.2.2.2.2.2.2.2.2.2.2.1 j.2.2.2.2.2.2.2.2.2.2.2.2.1 j.2.2.2.2.2.2.2.2.2.2.2.2.2.1 j.2.2.2.2.2.2.2.2.2.2.2.2.2.2.1 j.2.2.2.2.2.2.2.2.2.2.2.2.2.2.2
def QgZ(N:Nat)(e:WD):Option (WD×Int):=bnd (Qab N e.h.w) λg=>bnd (Qaa N e.h.p) λk=>bnd (Qab N e.o) λl=>bnd (QaF N e.t) λu=>bnd (Qab N e.q) λv=>bnd (QfT N N e.h.c.W e.h.c.p e.h.s e.h.b e.d e.r.j e.r.K e.r.F e.r.E e.r.f e.r.y g k l u v) λr=>some r
def Qak(N:Nat)(e:Int):Option Unit:=bif (e != 0)then none else some ()
def QgD(N:Nat)(e:WD)(f:Int):Option Int:=bnd (Qah N e.q f) λj=>bif j then some f else bnd (Qb2 N e.h.c f) λg=>bnd (Qak N g.2.2) λo=>bnd (Xb e.h.w (wI ((wI (g.1*e.h.c.W))+g.2.1))) λk=>bnd (Qfu N k) λl=>some l.1
def QcL(N:Nat)(e:WD)(g:List Int):Nat->Int->Int->(List Int)->Option (List Int×Int)
 |0,_,_,_=>none
 |n+1,k,f,l=>
  bif (decide (k<(g.length:Int)))then(bnd (Xb g k) λp=>
   jn (λ(w:Int) (z:Int)=>
    grd ((l.length+1)*8<=140737488355328) <|
    QcL N e g n (wI (k+1)) z (l++[w])) λs=>
   bif (p != 0)then(bnd (QgD N (WD.mk e.h e.o e.t e.q e.d (WP.mk e.r.j e.r.K e.r.F e.r.E f e.r.y)) p) λu=>
    jn (λ(A:Int)=>
     s u A) λv=>
    bif (u==0)then v (wI (f+1))
    else v f)
   else s 0 f)
  else some (l,f)
def Qd9(N:Nat)(e:WD)(k:List Int):Option (List Int×WD):=bnd (QcL N e k N 0 e.r.f []) λg=>some (g.1,(WD.mk e.h e.o e.t e.q e.d (WP.mk e.r.j e.r.K e.r.F e.r.E g.2 e.r.y)))
def QeQ(N:Nat)(e:WD)(f:Int):Option Bool:=jn (λ(o:Bool)=>some o) λg=>bif (decide (f<0))then g false else bif (decide (f>=(e.h.p.length:Int)))then g false else bnd (Xb e.h.p f) λl=>jn (λ(q:Bool)=>g q) λj=>bif (l.k==1)then(bif (l.s==(wI (1-e.h.s)))then(bnd (Qbj N e.t f) λr=>j (!r))else j false)else j false
def QiU(N:Nat)(g:Wo)(h:Int)(e:Int):Option (Wo×Int):=bif (decide (e<1))then some (zHp,1)else bif (decide (e>256))then some (zHp,1)else bnd (QfR N g h (WC.mk 0 (wI (e-1)) 0)) λf=>some (f.1,f.2)
def QcK(N:Nat)(A:WD)(f:List Int×Int)(B:Int):Nat->Int->Int->Int->(List Int)->(List Wv)->Int->Int->Int->Option (Int×Int×List Int×List Wv×Int×Int×Int)
 |0,_,_,_,_,_,_,_,_=>none
 |n+1,g,h,j,l,o,r,u,v=>
  bif (decide (g<(f.1.length:Int)))then(bnd (Xb f.1 g) λy=>
   bnd (Qeo N (Wo.mk (WV.mk h j) l o r u) y) λz=>
   bnd (Qak N z.2) λG=>
   bif (z.1.k==0)then QcK N A f B n (wI (g+1)) h j l o r u v
   else bnd (Qah N A.q y) λD=>
   bif D then QcK N A f B n (wI (g+1)) h j l o r u v
   else bnd (Qbr N z.1) λE=>
   bnd (QiU N (Wo.mk (WV.mk h j) l o r u) y E) λe=>
   bnd (Qak N e.2) λH=>
   QcK N A f B n (wI (g+1)) e.1.c.W e.1.c.p e.1.w e.1.p e.1.s e.1.b (wI (v+1)))
  else some (h,j,l,o,r,u,v)
def QdM(N:Nat)(g:WD):Nat->Int->Int->Int->(List Int)->(List Wv)->Int->Int->Int->Option (Int×Int×List Int×List Wv×Int×Int×Int)
 |0,_,_,_,_,_,_,_,_=>none
 |n+1,k,l,s,u,v,w,z,B=>
  bif (decide (k<(g.h.p.length:Int)))then(bnd (QeQ N (WD.mk (Wo.mk (WV.mk l s) u v w z) g.o g.t g.q g.d (WP.mk g.r.j g.r.K B g.r.E g.r.f g.r.y)) k) λD=>
   bif (!D)then QdM N g n (wI (k+1)) l s u v w z B
   else bnd (QfG N (Wo.mk (WV.mk l s) u v w z) k) λA=>
   bnd (Qak N A.2) λG=>
   bnd (QcK N g A k N 0 l s u v w z B) λe=>
   QdM N g n (wI (k+1)) e.1 e.2.1 e.2.2.1 e.2.2.2.1 e.2.2.2.2.1 e.2.2.2.2.2.1 e.2.2.2.2.2.2)
  else some (l,s,u,v,w,z,B)
def Qfh(N:Nat)(e:WD):Option WD:=bnd (QdM N e N 0 e.h.c.W e.h.c.p e.h.w e.h.p e.h.s e.h.b e.r.F) λg=>some (WD.mk (Wo.mk (WV.mk g.1 g.2.1) g.2.2.1 g.2.2.2.1 g.2.2.2.2.1 g.2.2.2.2.2.1) e.o e.t e.q e.d (WP.mk e.r.j e.r.K g.2.2.2.2.2.2 e.r.E e.r.f e.r.y))
def Qfi(N:Nat)(g:Wv):Nat->Int->(List Wv)->Option (List Wv)
 |0,_,_=>none
 |n+1,f,e=>
  bif (g.k==2)then(grd (e.length<=140737488355328) <|
   bif (decide (f<(e.length:Int)))then(bnd (Xb e f) λh=>
    bif (h.k==3)then(bnd (Xb e f) λj=>
     Qfi N g n (wI (f+1)) (e.set f.toNat (Wv.mk 0 0 0 0)))
    else some e)
   else some e)
  else some e
def QiV(N:Nat)(f:List Wv)(e:Int):Option (List Wv×Int):=bif (decide (e<0))then some ([],2)else bif (decide (e>=(f.length:Int)))then some ([],2)else bnd (Xb f e) λg=>jn (λ(_:Unit)=>bnd (Qaa N f) λh=>bnd (Xb h e) λo=>bnd (Qfi N g N (wI (e+1)) (h.set e.toNat (Wv.mk 0 0 0 0))) λl=>some (l,0)) λj=>bif (g.k != 1)then(bif (g.k != 2)then some ([],20)else j ())else j ()
def QbL(N:Nat)(e:WD):Nat->Int->(List Wv)->Int->(List Int)->Option (List Int×List Wv×Int)
 |0,_,_,_,_=>none
 |n+1,f,j,l,g=>
  bif (decide (f<(e.h.p.length:Int)))then(bnd (Xb e.h.p f) λo=>
   bif (o.k==0)then QbL N e n (wI (f+1)) j l g
   else bif (o.s != e.h.s)then QbL N e n (wI (f+1)) j l g
   else grd (0<=(wI (f*e.h.c.W))/\(wI (f*e.h.c.W))<=(wI ((wI (f+1))*e.h.c.W))/\(wI ((wI (f+1))*e.h.c.W))<=(g.length:Int)) <|
   bif (o.k != 3)then(bnd (QiV N j f) λq=>
    bnd (Qak N q.2) λr=>
    QbL N e n (wI (f+1)) q.1 (wI (l+1)) (((g.take (wI (f*e.h.c.W)).toNat)++(List.replicate ((wI ((wI (f+1))*e.h.c.W)).toNat-(wI (f*e.h.c.W)).toNat) (0:Int)))++(g.drop ((wI (f*e.h.c.W)).toNat+((wI ((wI (f+1))*e.h.c.W)).toNat-(wI (f*e.h.c.W)).toNat)))))
   else QbL N e n (wI (f+1)) j (wI (l+1)) (((g.take (wI (f*e.h.c.W)).toNat)++(List.replicate ((wI ((wI (f+1))*e.h.c.W)).toNat-(wI (f*e.h.c.W)).toNat) (0:Int)))++(g.drop ((wI (f*e.h.c.W)).toNat+((wI ((wI (f+1))*e.h.c.W)).toNat-(wI (f*e.h.c.W)).toNat)))))
  else some (g,j,l)
def Qfj(N:Nat)(e:WD):Option WD:=bnd (Qab N e.h.w) λk=>bnd (QbL N e N 0 e.h.p e.r.E k) λg=>some (WD.mk (Wo.mk e.h.c g.1 g.2.1 e.h.s e.h.b) e.o e.t e.q e.d (WP.mk e.r.j e.r.K e.r.F g.2.2 e.r.f e.r.y))
def Qes(N:Nat)(k:Wo)(l:List Int)(o:List Int):Option (Wo×List Int×List Int×WP×Int):=bnd (Qe9 N k) λq=>bif (q.2==0)then(bnd (QaU N [l,o]) λy=>bnd (Qeq N k y) λz=>bif z then(bnd (Qgs N q.1 l) λf=>bif (f.2.2==0)then(bnd (QgZ N f.1) λg=>bif (g.2==0)then(bnd (Qd9 N g.1 o) λu=>bnd (Qfh N u.2) λA=>bnd (Qfj N A) λe=>grd (e.t.length<=140737488355328) <| jn (λ(B:Int)=>some ((Wo.mk e.h.c e.h.w e.h.p (wI (1-e.h.s)) B),f.2.1,u.1,e.r,0)) λv=>bif (decide ((e.t.length:Int)>0))then(bnd (Xb e.t (wI ((e.t.length:Int)-1))) λj=>v j)else v (-1))else some (zHp,[],[],(WP.mk 0 0 0 0 0 0),g.2))else some (zHp,[],[],(WP.mk 0 0 0 0 0 0),f.2.2))else none)else none
def QeG(N:Nat)(j:Wm):Nat->(List Int)->Int->(List UA)->Option (List UA)
 |0,_,_,_=>none
 |n+1,e,f,g=>
  bif (decide (f<(j.S.length:Int)))then(bnd (Xb g f) λk=>
   bif k.V then(bnd (Xb e 0) λl=>
    grd (0<=1/\1<=(e.length:Int)/\(e.length:Int)<=(e.length:Int)) <|
    bnd (Xb g f) λh=>
    QeG N j n (e.drop 1) (wI (f+1)) (g.set f.toNat (UA.mk h.J l h.V)))
   else QeG N j n e (wI (f+1)) g)
  else some g
def QhX(N:Nat)(f:Wm)(g:List Int):Option (Wm×Int):=bnd (QcW N f) λj=>bif (!j)then some ((Wm.mk [] [] []),1)else bnd (Qgr N f) λk=>bif ((k.length:Int) != (g.length:Int))then some ((Wm.mk [] [] []),1)else bnd (Qah N g 0) λl=>bif l then some ((Wm.mk [] [] []),1)else bnd (QdB N f) λe=>grd (e.S.length<=140737488355328) <| bnd (QeG N e N g 0 e.S) λh=>some ((Wm.mk h e.x e.i),0)
def Qe3(N:Nat)(f:Wr):Option Wr:=bnd (Qao N f.e) λg=>some (Wr.mk g)
def QeH(N:Nat)(j:Wr):Nat->(List Int)->Int->(List WQ)->Option (List WQ)
 |0,_,_,_=>none
 |n+1,f,g,h=>
  bif (decide (g<(j.e.length:Int)))then(bnd (Xb h g) λl=>
   bif l.V then(bnd (Xb f 0) λo=>
    grd (0<=1/\1<=(f.length:Int)/\(f.length:Int)<=(f.length:Int)) <|
    bnd (Xb h g) λk=>
    QeH N j n (f.drop 1) (wI (g+1)) (h.set g.toNat (WQ.mk k.G o k.V)))
   else QeH N j n f (wI (g+1)) h)
  else some h
def Qhg(N:Nat)(f:Wr)(j:List Int):Option (Wr×Int):=bnd (QdA N f) λk=>bif (!k)then some ((Wr.mk []),1)else bnd (Qeg N f) λl=>bif ((l.length:Int) != (j.length:Int))then some ((Wr.mk []),1)else bnd (Qe3 N f) λg=>grd (g.e.length<=140737488355328) <| bnd (QeH N g N j 0 g.e) λh=>some ((Wr.mk h),0)
def Qet(N:Nat)(e:Int)(f:List Int):Option (List Int×List Int):=grd (0<=0/\0<=e/\e<=(f.length:Int)) <| grd (0<=e/\e<=(f.length:Int)/\(f.length:Int)<=(f.length:Int)) <| some ((f.take e.toNat),(f.drop e.toNat))
def Qfa(N:Nat)(o:Wo×List Int×List Int×WP×Int)(p:WI)(q:List Int×List Int)(r:Wm×Int)(f:List Int×List Int)(h:Wr×Int)(j:Wr×Int):Nat->Int->(List Uz)->Option (List Uz)
 |0,_,_=>none
 |n+1,e,g=>
  bif (decide (e<(f.2.length:Int)))then(bnd (Xb f.2 e) λk=>
   bnd (Xb g e) λl=>
   Qfa N o p q r f h j n (wI (e+1)) (g.set e.toNat (Uz.mk k l.M)))
  else some g
def Qhu(N:Nat)(e:WI):Option (WI×WP×Int):=bnd (QaJ N e) λy=>bif (!y)then some ((WI.mk zHp (Wm.mk [] [] []) (Wr.mk []) (Wr.mk []) [] []),(WP.mk 0 0 0 0 0 0),19)else bnd (Qhe N e) λz=>bnd (Qeg N e.v) λA=>bnd (Qes N e.h z A) λf=>bif (f.2.2.2.2 != 0)then some ((WI.mk zHp (Wm.mk [] [] []) (Wr.mk []) (Wr.mk []) [] []),(WP.mk 0 0 0 0 0 0),f.2.2.2.2)else bnd (Qat N e) λo=>bnd (Qet N (e.R.length:Int) f.2.1) λp=>grd (p.1.length<=o.R.length) <| bnd (Qgr N e.l) λB=>bnd (Qet N (B.length:Int) p.2) λw=>bnd (QhX N e.l w.1) λr=>bnd (Qeg N e.g) λs=>bnd (Qet N (s.length:Int) w.2) λq=>bnd (Qhg N e.g q.1) λj=>bnd (Qhg N e.v f.2.2.1) λk=>bnd (Qfa N f o p r q j k N 0 o.P) λu=>bif (!((r.2==0)&&((j.2==0)&&(k.2==0))))then some ((WI.mk zHp (Wm.mk [] [] []) (Wr.mk []) (Wr.mk []) [] []),(WP.mk 0 0 0 0 0 0),19)else some ((WI.mk f.1 r.1 j.1 k.1 u (((o.R.take 0)++p.1)++(o.R.drop p.1.length))),f.2.2.2.1,0)
def Qg0(N:Nat)(f:WI)(p:WC):Option (WI×Int×Int):=bnd (QaJ N f) λq=>bif (!q)then some ((WI.mk zHp (Wm.mk [] [] []) (Wr.mk []) (Wr.mk []) [] []),0,19)else bnd (QeT N f.h.c p) λr=>bif (!r)then some ((WI.mk zHp (Wm.mk [] [] []) (Wr.mk []) (Wr.mk []) [] []),0,1)else bnd (Qat N f) λj=>bnd (Qe2 N f.h p) λk=>bif (k.2.2==3)then(bnd (Qhu N f) λe=>bif (e.2.2 != 0)then some ((WI.mk zHp (Wm.mk [] [] []) (Wr.mk []) (Wr.mk []) [] []),0,e.2.2)else bnd (Qe2 N e.1.h p) λo=>bif (o.2.2 != 0)then some ((WI.mk zHp (Wm.mk [] [] []) (Wr.mk []) (Wr.mk []) [] []),0,o.2.2)else some ((WI.mk o.1 e.1.l e.1.g e.1.v e.1.P e.1.R),o.2.1,0))else bif (k.2.2 != 0)then some ((WI.mk zHp (Wm.mk [] [] []) (Wr.mk []) (Wr.mk []) [] []),0,k.2.2)else some ((WI.mk k.1 j.l j.g j.v j.P j.R),k.2.1,0)
def Qfk(N:Nat)(e:UM):Option Bool:=bif (decide (e.Tag<1))then some false else bif (decide (e.Tag>3))then some false else bif (decide (e.Index<0))then some false else bif (decide (e.J<1))then some false else bnd (Qa2 N 16) λf=>bif (decide ((wU e.Index)<=f))then(bnd (Qa2 N 32) λg=>some (decide ((wU e.J)<=g)))else some false
def Qba(N:Nat)(e:UM):Option (Int×Int):=bnd (Qfk N e) λg=>bif (!g)then some (0,1)else bnd (QfI N [(UB.mk 2 (wU e.Tag)),(UB.mk 16 (wU e.Index)),(UB.mk 32 (wU e.J))]) λf=>some (f.1,f.2)
def Qda(N:Nat)(y:WI)(k:Int)(o:Int)(H:Int):Option (WI×Int×Int):=bnd (QaJ N y) λB=>bif (!B)then some ((WI.mk zHp (Wm.mk [] [] []) (Wr.mk []) (Wr.mk []) [] []),0,19)else bnd (Qat N y) λf=>jn (λ(D:Bool)=>bnd (QcJ N f.l 4096) λq=>grd (f.P.length<=140737488355328) <| bif (decide ((f.P.length:Int)>0))then some ((WI.mk zHp (Wm.mk [] [] []) (Wr.mk []) (Wr.mk []) [] []),0,15)else bif (!D)then some ((WI.mk zHp (Wm.mk [] [] []) (Wr.mk []) (Wr.mk []) [] []),0,1)else bnd (QeT N f.h.c (WC.mk 1 (wI (if 2147483647<k then 2147483647 else k)) (wW (if 4294967295<o then 4294967295 else o)))) λE=>bif (!E)then some ((WI.mk zHp (Wm.mk [] [] []) (Wr.mk []) (Wr.mk []) [] []),0,1)else bif (q.2.2.2 != 0)then(bif (q.2.2.2 != 0)then some ((WI.mk zHp (Wm.mk [] [] []) (Wr.mk []) (Wr.mk []) [] []),0,q.2.2.2)else some (f,0,0))else bnd (Qg0 N f (WC.mk 1 (wI (if 2147483647<k then 2147483647 else k)) (wW (if 4294967295<o then 4294967295 else o)))) λe=>bif (e.2.2 != 0)then(bif (e.2.2 != 0)then some ((WI.mk zHp (Wm.mk [] [] []) (Wr.mk []) (Wr.mk []) [] []),0,e.2.2)else some (f,0,0))else jn (λ(G:Int) (p:Int) (r:List UA) (s:List UG) (u:List Int)=>bif (p != 0)then some ((WI.mk zHp (Wm.mk [] [] []) (Wr.mk []) (Wr.mk []) [] []),0,p)else some ((WI.mk e.1.h (Wm.mk r s u) e.1.g e.1.v e.1.P e.1.R),G,0)) λw=>bif (e.2.1==0)then w 0 0 e.1.l.S e.1.l.x e.1.l.i else bnd (QcJ N e.1.l e.2.1) λj=>bif (j.2.2.2 != 0)then w 0 j.2.2.2 e.1.l.S e.1.l.x e.1.l.i else bnd (Qba N (UM.mk 1 j.2.1 j.2.2.1)) λz=>w z.1 z.2 j.1.S j.1.x j.1.i) λA=>bif (decide (k<=2147483647))then A (decide (o<=4294967295))else A false
def Qdb(N:Nat)(u:WI)(k:Int)(D:Int)(E:Int):Option (WI×Int×Int):=bnd (QaJ N u) λz=>bif (!z)then some ((WI.mk zHp (Wm.mk [] [] []) (Wr.mk []) (Wr.mk []) [] []),0,19)else bnd (Qat N u) λf=>bnd (QcJ N f.l 4096) λo=>grd (f.P.length<=140737488355328) <| bif (decide ((f.P.length:Int)>0))then some ((WI.mk zHp (Wm.mk [] [] []) (Wr.mk []) (Wr.mk []) [] []),0,15)else bif (!(decide (k<=2147483647)))then some ((WI.mk zHp (Wm.mk [] [] []) (Wr.mk []) (Wr.mk []) [] []),0,1)else bnd (QeT N f.h.c (WC.mk 2 (wI (if 2147483647<k then 2147483647 else k)) 0)) λA=>bif (!A)then some ((WI.mk zHp (Wm.mk [] [] []) (Wr.mk []) (Wr.mk []) [] []),0,1)else bif (o.2.2.2 != 0)then(bif (o.2.2.2 != 0)then some ((WI.mk zHp (Wm.mk [] [] []) (Wr.mk []) (Wr.mk []) [] []),0,o.2.2.2)else some (f,0,0))else bnd (Qg0 N f (WC.mk 2 (wI (if 2147483647<k then 2147483647 else k)) 0)) λe=>bif (e.2.2 != 0)then(bif (e.2.2 != 0)then some ((WI.mk zHp (Wm.mk [] [] []) (Wr.mk []) (Wr.mk []) [] []),0,e.2.2)else some (f,0,0))else jn (λ(B:Int) (w:Int) (p:List UA) (q:List UG) (r:List Int)=>bif (w != 0)then some ((WI.mk zHp (Wm.mk [] [] []) (Wr.mk []) (Wr.mk []) [] []),0,w)else some ((WI.mk e.1.h (Wm.mk p q r) e.1.g e.1.v e.1.P e.1.R),B,0)) λs=>bif (e.2.1==0)then s 0 0 e.1.l.S e.1.l.x e.1.l.i else bnd (QcJ N e.1.l e.2.1) λj=>bif (j.2.2.2 != 0)then s 0 j.2.2.2 e.1.l.S e.1.l.x e.1.l.i else bnd (Qba N (UM.mk 1 j.2.1 j.2.2.1)) λy=>s y.1 y.2 j.1.S j.1.x j.1.i
def Qdc(N:Nat)(u:WI)(k:Int)(D:Int)(E:Int):Option (WI×Int×Int):=bnd (QaJ N u) λz=>bif (!z)then some ((WI.mk zHp (Wm.mk [] [] []) (Wr.mk []) (Wr.mk []) [] []),0,19)else bnd (Qat N u) λf=>bnd (QcJ N f.l 4096) λo=>grd (f.P.length<=140737488355328) <| bif (decide ((f.P.length:Int)>0))then some ((WI.mk zHp (Wm.mk [] [] []) (Wr.mk []) (Wr.mk []) [] []),0,15)else bif (!(decide (k<=2147483647)))then some ((WI.mk zHp (Wm.mk [] [] []) (Wr.mk []) (Wr.mk []) [] []),0,1)else bnd (QeT N f.h.c (WC.mk 3 (wI (if 2147483647<k then 2147483647 else k)) 0)) λA=>bif (!A)then some ((WI.mk zHp (Wm.mk [] [] []) (Wr.mk []) (Wr.mk []) [] []),0,1)else bif (o.2.2.2 != 0)then(bif (o.2.2.2 != 0)then some ((WI.mk zHp (Wm.mk [] [] []) (Wr.mk []) (Wr.mk []) [] []),0,o.2.2.2)else some (f,0,0))else bnd (Qg0 N f (WC.mk 3 (wI (if 2147483647<k then 2147483647 else k)) 0)) λe=>bif (e.2.2 != 0)then(bif (e.2.2 != 0)then some ((WI.mk zHp (Wm.mk [] [] []) (Wr.mk []) (Wr.mk []) [] []),0,e.2.2)else some (f,0,0))else jn (λ(B:Int) (w:Int) (p:List UA) (q:List UG) (r:List Int)=>bif (w != 0)then some ((WI.mk zHp (Wm.mk [] [] []) (Wr.mk []) (Wr.mk []) [] []),0,w)else some ((WI.mk e.1.h (Wm.mk p q r) e.1.g e.1.v e.1.P e.1.R),B,0)) λs=>bif (e.2.1==0)then s 0 0 e.1.l.S e.1.l.x e.1.l.i else bnd (QcJ N e.1.l e.2.1) λj=>bif (j.2.2.2 != 0)then s 0 j.2.2.2 e.1.l.S e.1.l.x e.1.l.i else bnd (Qba N (UM.mk 1 j.2.1 j.2.2.1)) λy=>s y.1 y.2 j.1.S j.1.x j.1.i
def QdW(N:Nat)(f:Int):Option (UM×Int):=bif (f==0)then some ((UM.mk 0 0 0),5)else bnd (Qdz N f [2,16,32]) λe=>bif (e.2 != 0)then some ((UM.mk 0 0 0),6)else bnd (Xb e.1 0) λg=>bnd (Xb e.1 1) λh=>bnd (Xb e.1 2) λj=>bnd (Qfk N (UM.mk (wI g) (wI h) (wI j))) λk=>bif (!k)then some ((UM.mk 0 0 0),6)else some ((UM.mk (wI g) (wI h) (wI j)),0)
def QhI(N:Nat)(e:Wm)(f:Int)(g:Int):Option (Int×Int):=bnd (QcW N e) λh=>bif (!h)then some (0,1)else bif (decide (g<1))then some (0,6)else bif (decide (g>(e.i.length:Int)))then some (0,6)else bnd (Xb e.i (wI (g-1))) λj=>bif (j != f)then some (0,6)else bif (decide (f>=(e.S.length:Int)))then some (0,7)else bnd (Xb e.S f) λk=>bif (k.J != g)then some (0,7)else bnd (Xb e.S f) λl=>bif (!l.V)then some (0,8)else bnd (Xb e.S f) λo=>some (o.a,0)
def QfU(N:Nat)(f:Wr)(g:Int)(h:Int):Option Int:=bnd (QdA N f) λj=>bif (!j)then some 1 else bif (decide (g<0))then some 6 else bif (decide (g>=(f.e.length:Int)))then some 6 else bif (decide (h<1))then some 6 else bnd (Xb f.e g) λk=>bif (decide (h>k.G))then some 6 else bnd (Xb f.e g) λl=>bif (decide (h<l.G))then some 8 else bnd (Xb f.e g) λo=>bif (!o.V)then some 8 else some 0
def Qg1(N:Nat)(f:Wr)(g:Int)(j:Int):Option (Int×Int):=bnd (QfU N f g j) λh=>bif (h != 0)then some (0,h)else bnd (Xb f.e g) λk=>some (k.a,0)
def Qav(N:Nat)(f:WI)(o:Int):Option (Int×Int):=bnd (QaJ N f) λp=>bif (!p)then some (0,19)else bnd (QdW N o) λe=>bif (e.2==5)then some (0,0)else bif (e.2 != 0)then some (0,e.2)else bif (e.1.Tag==1)then(bnd (QhI N f.l e.1.Index e.1.J) λh=>some (h.1,h.2))else bif (e.1.Tag==2)then(bnd (Qg1 N f.g e.1.Index e.1.J) λj=>some (j.1,j.2))else bnd (Qg1 N f.v e.1.Index e.1.J) λk=>some (k.1,k.2)
def Qc6(N:Nat)(f:Wo)(g:Int):Option (WC×Int):=bnd (QbK N f) λh=>bif (!h)then some ((WC.mk 0 0 0),1)else bif (g==0)then some ((WC.mk 0 0 0),5)else bnd (Qeo N f g) λe=>bif (e.2 != 0)then some ((WC.mk 0 0 0),e.2)else bif (e.1.k==0)then some ((WC.mk 0 0 0),4)else some (e.1,0)
def Qdd(N:Nat)(o:WI)(u:Int)(y:Int)(z:Int):Option (WI×Int×Int):=bnd (QaJ N o) λv=>bif (!v)then some ((WI.mk zHp (Wm.mk [] [] []) (Wr.mk []) (Wr.mk []) [] []),0,19)else bnd (Qat N o) λg=>jn (λ(A:Int) (p:Int) (B:Int) (j:Int) (w:Int)=>bif (p != 0)then some ((WI.mk zHp (Wm.mk [] [] []) (Wr.mk []) (Wr.mk []) [] []),0,p)else some (g,(wU j),0)) λq=>jn (λ(r:Int) (s:Int)=>bif (s != 0)then q 0 s 0 0 0 else bnd (Qc6 N g.h r) λe=>q r e.2 e.1.k e.1.n e.1.Map) λl=>bnd (Qav N g u) λf=>bif (f.2 != 0)then l 0 f.2 else bif (f.1==0)then l 0 5 else l f.1 0
def Qde(N:Nat)(l:WI)(s:Int)(z:Int)(A:Int):Option (WI×Int×Int):=bnd (QaJ N l) λu=>bif (!u)then some ((WI.mk zHp (Wm.mk [] [] []) (Wr.mk []) (Wr.mk []) [] []),0,19)else bnd (Qat N l) λg=>jn (λ(B:Int) (o:Int) (v:Int) (w:Int) (y:Int)=>bif (o != 0)then some ((WI.mk zHp (Wm.mk [] [] []) (Wr.mk []) (Wr.mk []) [] []),0,o)else some (g,(wU v),0)) λp=>jn (λ(q:Int) (r:Int)=>bif (r != 0)then p 0 r 0 0 0 else bnd (Qc6 N g.h q) λe=>p q e.2 e.1.k e.1.n e.1.Map) λj=>bnd (Qav N g s) λf=>bif (f.2 != 0)then j 0 f.2 else bif (f.1==0)then j 0 5 else j f.1 0
def Qf9(N:Nat)(h:Wo)(g:Int)(e:Int):Option (Int×Int):=bnd (Qc6 N h g) λf=>bif (f.2 != 0)then some (0,f.2)else bif (decide (e<0))then some (0,2)else bif (decide (e>=f.1.n))then some (0,2)else some ((wU ((wU (g+1))+(wU e))),0)
def Qga(N:Nat)(f:Wo)(h:Int)(j:Int):Option (Int×Int):=bnd (Qf9 N f h j) λe=>bif (e.2 != 0)then some (0,e.2)else bnd (Qgq N f.w e.1) λg=>some (g.1,g.2)
def Qdf(N:Nat)(A:WI)(I:Int)(r:Int)(M:Int):Option (WI×Int×Int):=bnd (QaJ N A) λJ=>bif (!J)then some ((WI.mk zHp (Wm.mk [] [] []) (Wr.mk []) (Wr.mk []) [] []),0,19)else bnd (Qat N A) λl=>jn (λ(s:Int) (e:Int)=>bif (e != 0)then some ((WI.mk zHp (Wm.mk [] [] []) (Wr.mk []) (Wr.mk []) [] []),0,e)else some (l,s,0)) λB=>jn (λ(u:Int) (v:Int) (f:Int)=>bif (f != 0)then B 0 f else bnd (Qga N l.h u v) λg=>B g.1 g.2) λo=>jn (λ(K:Int) (D:Int) (L:Int) (j:Int) (w:Int)=>bif (D != 0)then o 0 0 D else bif (decide (r>=(wU j)))then o 0 0 2 else bnd (Qcq N (WC.mk L j w) (wI r)) λy=>bif (!(y==false))then o 0 0 4 else o K (wI r) 0) λE=>jn (λ(G:Int) (H:Int)=>bif (H != 0)then E 0 H 0 0 0 else bnd (Qc6 N l.h G) λp=>E G p.2 p.1.k p.1.n p.1.Map) λz=>bnd (Qav N l I) λq=>bif (q.2 != 0)then z 0 q.2 else bif (q.1==0)then z 0 5 else z q.1 0
def Qhv(N:Nat)(f:List Int)(g:Int)(h:Int):Option (List Int×Int):=bnd (QgM N f g [h]) λe=>some (e.1,e.2)
def Qeu(N:Nat)(e:Wo)(j:Int)(k:Int)(l:Int):Option (Wo×Int):=bnd (Qf9 N e j k) λf=>bif (f.2 != 0)then some (zHp,f.2)else bnd (Qhv N e.w f.1 l) λg=>bnd (Qe8 N e g.1 g.2) λh=>some (h.1,h.2)
def Qdg(N:Nat)(Z:WI)(a2:Int)(z:Int)(a4:Int):Option (WI×Int×Int):=bnd (QaJ N Z) λy1=>bif (!y1)then some ((WI.mk zHp (Wm.mk [] [] []) (Wr.mk []) (Wr.mk []) [] []),0,19)else bnd (Qat N Z) λe=>jn (λ(j:Int) (A:Int) (B:Int) (D:List Int) (E:List Wv) (G:Int) (H:Int)=>bif (j != 0)then some ((WI.mk zHp (Wm.mk [] [] []) (Wr.mk []) (Wr.mk []) [] []),0,j)else some ((WI.mk (Wo.mk (WV.mk A B) D E G H) e.l e.g e.v e.P e.R),0,0)) λj5=>jn (λ(I:Int) (J:Int) (o:Int)=>bif (o != 0)then j5 o e.h.c.W e.h.c.p e.h.w e.h.p e.h.s e.h.b else bnd (Qeu N e.h I J a4) λf=>jn (λ(K:Int) (L:Int) (M:List Int) (O:List Wv) (S:Int) (T:Int)=>j5 f.2 K L M O S T) λj4=>bif (f.2==0)then j4 f.1.c.W f.1.c.p f.1.w f.1.p f.1.s f.1.b else j4 e.h.c.W e.h.c.p e.h.w e.h.p e.h.s e.h.b) λr=>jn (λ(x7:Int) (x8:Int) (x9:Int) (q:Int) (U:Int)=>bif (x8 != 0)then r 0 0 x8 else bif (decide (z>=(wU q)))then r 0 0 2 else bnd (Qcq N (WC.mk x9 q U) (wI z)) λV=>bif (!(V==false))then r 0 0 4 else r x7 (wI z) 0) λj2=>jn (λ(x4:Int) (x5:Int)=>bif (x5 != 0)then j2 0 x5 0 0 0 else bnd (Qc6 N e.h x4) λu=>j2 x4 u.2 u.1.k u.1.n u.1.Map) λY=>bnd (Qav N e a2) λy=>bif (y.2 != 0)then Y 0 y.2 else bif (y.1==0)then Y 0 5 else Y y.1 0
def Qdh(N:Nat)(Y:WI)(a2:Int)(A:Int)(a4:Int):Option (WI×Int×Int):=bnd (QaJ N Y) λy1=>bif (!y1)then some ((WI.mk zHp (Wm.mk [] [] []) (Wr.mk []) (Wr.mk []) [] []),0,19)else bnd (Qat N Y) λe=>jn (λ(B:Int) (j:Int) (D:List UA) (E:List UG) (G:List Int)=>bif (j != 0)then some ((WI.mk zHp (Wm.mk [] [] []) (Wr.mk []) (Wr.mk []) [] []),0,j)else some ((WI.mk e.h (Wm.mk D E G) e.g e.v e.P e.R),B,0)) λZ=>jn (λ(o:Int) (p:Int)=>bif (p != 0)then Z 0 p e.l.S e.l.x e.l.i else jn (λ(H:Int) (I:Int) (J:List UA) (K:List UG) (L:List Int)=>Z H I J K L) λM=>bif (o==0)then M 0 0 e.l.S e.l.x e.l.i else bnd (QcJ N e.l o) λf=>bif (f.2.2.2 != 0)then M 0 f.2.2.2 e.l.S e.l.x e.l.i else bnd (Qba N (UM.mk 1 f.2.1 f.2.2.1)) λq=>M q.1 q.2 f.1.S f.1.x f.1.i) λj4=>jn (λ(O:Int) (T:Int) (r:Int)=>bif (r != 0)then j4 0 r else bnd (Qga N e.h O T) λs=>j4 s.1 s.2) λw=>jn (λ(x7:Int) (x8:Int) (x9:Int) (u:Int) (U:Int)=>bif (x8 != 0)then w 0 0 x8 else bif (decide (A>=(wU u)))then w 0 0 2 else bnd (Qcq N (WC.mk x9 u U) (wI A)) λV=>bif (!(V==true))then w 0 0 4 else w x7 (wI A) 0) λj2=>jn (λ(x4:Int) (x5:Int)=>bif (x5 != 0)then j2 0 x5 0 0 0 else bnd (Qc6 N e.h x4) λy=>j2 x4 y.2 y.1.k y.1.n y.1.Map) λW=>bnd (Qav N e a2) λz=>bif (z.2 != 0)then W 0 z.2 else bif (z.1==0)then W 0 5 else W z.1 0
def Qdi(N:Nat)(a0:WI)(a2:Int)(A:Int)(a4:Int):Option (WI×Int×Int):=bnd (QaJ N a0) λy1=>bif (!y1)then some ((WI.mk zHp (Wm.mk [] [] []) (Wr.mk []) (Wr.mk []) [] []),0,19)else bnd (Qat N a0) λe=>jn (λ(o:Int) (B:Int) (D:Int) (E:List Int) (G:List Wv) (H:Int) (I:Int)=>bif (o != 0)then some ((WI.mk zHp (Wm.mk [] [] []) (Wr.mk []) (Wr.mk []) [] []),0,o)else some ((WI.mk (Wo.mk (WV.mk B D) E G H I) e.l e.g e.v e.P e.R),0,0)) λJ=>jn (λ(K:Int) (L:Int) (q:Int)=>bif (q != 0)then J q e.h.c.W e.h.c.p e.h.w e.h.p e.h.s e.h.b else bnd (Qav N e a4) λj=>bif (j.2 != 0)then J j.2 e.h.c.W e.h.c.p e.h.w e.h.p e.h.s e.h.b else bnd (Qeu N e.h K L j.1) λf=>jn (λ(M:Int) (O:Int) (S:List Int) (T:List Wv) (U:Int) (V:Int)=>J f.2 M O S T U V) λj4=>bif (f.2==0)then j4 f.1.c.W f.1.c.p f.1.w f.1.p f.1.s f.1.b else j4 e.h.c.W e.h.c.p e.h.w e.h.p e.h.s e.h.b) λu=>jn (λ(x7:Int) (x8:Int) (x9:Int) (r:Int) (Y:Int)=>bif (x8 != 0)then u 0 0 x8 else bif (decide (A>=(wU r)))then u 0 0 2 else bnd (Qcq N (WC.mk x9 r Y) (wI A)) λZ=>bif (!(Z==true))then u 0 0 4 else u x7 (wI A) 0) λj2=>jn (λ(x4:Int) (x5:Int)=>bif (x5 != 0)then j2 0 x5 0 0 0 else bnd (Qc6 N e.h x4) λy=>j2 x4 y.2 y.1.k y.1.n y.1.Map) λj1=>bnd (Qav N e a2) λz=>bif (z.2 != 0)then j1 0 z.2 else bif (z.1==0)then j1 0 5 else j1 z.1 0
def Qcu(N:Nat)(j:WI)(l:Int)(o:Int)(r:Int):Option (WI×Int×Int):=bnd (QaJ N j) λp=>bif (!p)then some ((WI.mk zHp (Wm.mk [] [] []) (Wr.mk []) (Wr.mk []) [] []),0,19)else bnd (Qat N j) λg=>jn (λ(q:Int) (k:Int)=>bif (k != 0)then some ((WI.mk zHp (Wm.mk [] [] []) (Wr.mk []) (Wr.mk []) [] []),0,k)else some (g,q,0)) λe=>bnd (Qav N g l) λh=>bif (h.2 != 0)then e 0 h.2 else bnd (Qav N g o) λf=>bif (f.2 != 0)then e 0 f.2 else bif (h.1 != f.1)then e 0 f.2 else e 1 0
def Qcv(N:Nat)(w:WI)(A:Int)(I:Int)(J:Int):Option (WI×Int×Int):=bnd (QaJ N w) λB=>bif (!B)then some ((WI.mk zHp (Wm.mk [] [] []) (Wr.mk []) (Wr.mk []) [] []),0,19)else bnd (Qat N w) λe=>jn (λ(o:Int) (j:Int) (p:List UA) (q:List UG) (r:List Int)=>bif (j != 0)then some ((WI.mk zHp (Wm.mk [] [] []) (Wr.mk []) (Wr.mk []) [] []),0,j)else some ((WI.mk e.h (Wm.mk p q r) e.g e.v e.P e.R),o,0)) λy=>bnd (Qav N e A) λk=>bif (k.2 != 0)then y 0 k.2 e.l.S e.l.x e.l.i else jn (λ(D:Int) (E:Int) (G:List UA) (H:List UG) (s:List Int)=>y D E G H s) λu=>bif (k.1==0)then u 0 0 e.l.S e.l.x e.l.i else bnd (QcJ N e.l k.1) λf=>bif (f.2.2.2 != 0)then u 0 f.2.2.2 e.l.S e.l.x e.l.i else bnd (Qba N (UM.mk 1 f.2.1 f.2.2.1)) λz=>u z.1 z.2 f.1.S f.1.x f.1.i
def Qg2(N:Nat)(h:Wm)(e:Int)(l:Int):Option (Wm×Int):=bnd (QhI N h e l) λj=>bif (j.2 != 0)then some ((Wm.mk [] [] []),j.2)else bnd (QdB N h) λf=>bnd (Xb f.S e) λg=>bnd (Xb (f.S.set e.toNat (UA.mk g.J 0 g.V)) e) λk=>some ((Wm.mk ((f.S.set e.toNat (UA.mk g.J 0 g.V)).set e.toNat (UA.mk k.J k.a false)) f.x f.i),0)
def Qcw(N:Nat)(u:WI)(p:Int)(E:Int)(G:Int):Option (WI×Int×Int):=bnd (QaJ N u) λA=>bif (!A)then some ((WI.mk zHp (Wm.mk [] [] []) (Wr.mk []) (Wr.mk []) [] []),0,19)else bnd (Qat N u) λe=>jn (λ(j:Int) (q:List UA) (r:List UG) (s:List Int)=>bif (j != 0)then some ((WI.mk zHp (Wm.mk [] [] []) (Wr.mk []) (Wr.mk []) [] []),0,j)else some ((WI.mk e.h (Wm.mk q r s) e.g e.v e.P e.R),0,0)) λw=>jn (λ(y:Int) (H:Int) (B:Int) (D:Int)=>bif (y != 0)then w y e.l.S e.l.x e.l.i else bnd (Qg2 N e.l B D) λo=>w o.2 o.1.S o.1.x o.1.i) λk=>bif (p==0)then k 5 0 0 0 else bnd (Qav N e p) λz=>bif (z.2 != 0)then k z.2 0 0 0 else bnd (QdW N p) λf=>bif (f.2 != 0)then k f.2 0 0 0 else bif (f.1.Tag != 1)then k 4 0 0 0 else k 0 f.1.Tag f.1.Index f.1.J
def QiC(N:Nat)(f:Wr):Option (Int×Bool):=some ((((f.e.findIdx? λe=>!(e.V||(e.G==4294967295))).getD f.e.length:Nat):Int),((f.e.findIdx? λe=>!(e.V||(e.G==4294967295))).isSome))
def Qg3(N:Nat)(h:Wr)(k:Int):Option (Wr×Int×Int×Int):=bnd (QdA N h) λq=>bif (!q)then some ((Wr.mk []),0,0,1)else bnd (QiC N h) λf=>jn (λ(_:Unit)=>bnd (Qe3 N h) λj=>jn (λ(l:List WQ)=>bnd (Xb l f.1) λg=>some ((Wr.mk (((l.set f.1.toNat (WQ.mk (wI (g.G+1)) g.a g.V)).set f.1.toNat (WQ.mk (wI (g.G+1)) k g.V)).set f.1.toNat (WQ.mk (wI (g.G+1)) k true))),f.1,(wI (g.G+1)),0)) λo=>bif (!f.2)then(grd ((j.e.length+1)*24<=140737488355328) <| o (j.e++[(WQ.mk 0 0 false)]))else o j.e) λp=>bif (!f.2)then(bif (decide ((h.e.length:Int)>=64))then some ((Wr.mk []),0,0,18)else p ())else p ()
def Qcx(N:Nat)(r:WI)(y:Int)(D:Int)(E:Int):Option (WI×Int×Int):=bnd (QaJ N r) λz=>bif (!z)then some ((WI.mk zHp (Wm.mk [] [] []) (Wr.mk []) (Wr.mk []) [] []),0,19)else bnd (Qat N r) λf=>jn (λ(A:Int) (s:Int) (o:List WQ)=>bif (s != 0)then some ((WI.mk zHp (Wm.mk [] [] []) (Wr.mk []) (Wr.mk []) [] []),0,s)else some ((WI.mk f.h f.l (Wr.mk o) f.v f.P f.R),A,0)) λp=>jn (λ(B:Int) (u:Int)=>bif (u != 0)then p 0 u f.g.e else bnd (Qg3 N f.g B) λj=>bif (j.2.2.2 != 0)then p 0 j.2.2.2 f.g.e else bnd (Qba N (UM.mk 2 j.2.1 j.2.2.1)) λw=>p w.1 w.2 j.1.e) λq=>bnd (Qav N f y) λk=>bif (k.2 != 0)then q 0 k.2 else bif (k.1==0)then q 0 5 else q k.1 0
def Qgb(N:Nat)(j:Wr)(f:Int)(o:Int):Option (Wr×Int):=bnd (QfU N j f o) λk=>bif (k != 0)then some ((Wr.mk []),k)else bnd (Qe3 N j) λh=>bnd (Xb h.e f) λg=>bnd (Xb (h.e.set f.toNat (WQ.mk g.G 0 g.V)) f) λl=>some ((Wr.mk ((h.e.set f.toNat (WQ.mk g.G 0 g.V)).set f.toNat (WQ.mk l.G l.a false))),0)
def Qcy(N:Nat)(r:WI)(p:Int)(D:Int)(E:Int):Option (WI×Int×Int):=bnd (QaJ N r) λz=>bif (!z)then some ((WI.mk zHp (Wm.mk [] [] []) (Wr.mk []) (Wr.mk []) [] []),0,19)else bnd (Qat N r) λf=>jn (λ(k:Int) (q:List WQ)=>bif (k != 0)then some ((WI.mk zHp (Wm.mk [] [] []) (Wr.mk []) (Wr.mk []) [] []),0,k)else some ((WI.mk f.h f.l (Wr.mk q) f.v f.P f.R),0,0)) λs=>jn (λ(u:Int) (G:Int) (A:Int) (B:Int)=>bif (u != 0)then s u f.g.e else bnd (Qgb N f.g A B) λw=>s w.2 w.1.e) λo=>bif (p==0)then o 5 0 0 0 else bnd (Qav N f p) λy=>bif (y.2 != 0)then o y.2 0 0 0 else bnd (QdW N p) λj=>bif (j.2 != 0)then o j.2 0 0 0 else bif (j.1.Tag != 2)then o 4 0 0 0 else o 0 j.1.Tag j.1.Index j.1.J
def Qcz(N:Nat)(r:WI)(y:Int)(D:Int)(E:Int):Option (WI×Int×Int):=bnd (QaJ N r) λz=>bif (!z)then some ((WI.mk zHp (Wm.mk [] [] []) (Wr.mk []) (Wr.mk []) [] []),0,19)else bnd (Qat N r) λf=>jn (λ(A:Int) (s:Int) (o:List WQ)=>bif (s != 0)then some ((WI.mk zHp (Wm.mk [] [] []) (Wr.mk []) (Wr.mk []) [] []),0,s)else some ((WI.mk f.h f.l f.g (Wr.mk o) f.P f.R),A,0)) λp=>jn (λ(B:Int) (u:Int)=>bif (u != 0)then p 0 u f.v.e else bnd (Qg3 N f.v B) λj=>bif (j.2.2.2 != 0)then p 0 j.2.2.2 f.v.e else bnd (Qba N (UM.mk 3 j.2.1 j.2.2.1)) λw=>p w.1 w.2 j.1.e) λq=>bnd (Qav N f y) λk=>bif (k.2 != 0)then q 0 k.2 else bif (k.1==0)then q 0 5 else q k.1 0
def QcA(N:Nat)(r:WI)(p:Int)(D:Int)(E:Int):Option (WI×Int×Int):=bnd (QaJ N r) λz=>bif (!z)then some ((WI.mk zHp (Wm.mk [] [] []) (Wr.mk []) (Wr.mk []) [] []),0,19)else bnd (Qat N r) λf=>jn (λ(k:Int) (q:List WQ)=>bif (k != 0)then some ((WI.mk zHp (Wm.mk [] [] []) (Wr.mk []) (Wr.mk []) [] []),0,k)else some ((WI.mk f.h f.l f.g (Wr.mk q) f.P f.R),0,0)) λs=>jn (λ(u:Int) (G:Int) (A:Int) (B:Int)=>bif (u != 0)then s u f.v.e else bnd (Qgb N f.v A B) λw=>s w.2 w.1.e) λo=>bif (p==0)then o 5 0 0 0 else bnd (Qav N f p) λy=>bif (y.2 != 0)then o y.2 0 0 0 else bnd (QdW N p) λj=>bif (j.2 != 0)then o j.2 0 0 0 else bif (j.1.Tag != 3)then o 4 0 0 0 else o 0 j.1.Tag j.1.Index j.1.J
def Qiv(N:Nat)(f:Wm)(g:Int)(h:Bool):Option (Wm×Int):=bnd (QcW N f) λk=>bif (!k)then some ((Wm.mk [] [] []),1)else bif (decide (g<0))then some ((Wm.mk [] [] []),1)else bif (decide (g>64))then some ((Wm.mk [] [] []),1)else jn (λ(_:Unit)=>bif (decide ((f.x.length:Int)>=64))then some ((Wm.mk [] [] []),17)else bnd (QdB N f) λe=>grd (e.S.length<=140737488355328) <| grd ((e.x.length+1)*24<=140737488355328) <| some ((Wm.mk e.S (e.x++[(UG.mk (e.S.length:Int) g h)]) e.i),0)) λj=>bif (!h)then(bif ((f.x.length:Int)==0)then some ((Wm.mk [] [] []),9)else j ())else j ()
def QhY(N:Nat)(f:Wm)(g:Int):Option (Wm×Int):=bnd (Qiv N f g false) λe=>some (e.1,e.2)
def QcB(N:Nat)(k:WI)(o:Int)(B:Int)(D:Int):Option (WI×Int×Int):=bnd (QaJ N k) λs=>bif (!s)then some ((WI.mk zHp (Wm.mk [] [] []) (Wr.mk []) (Wr.mk []) [] []),0,19)else bnd (Qat N k) λe=>jn (λ(p:Int) (u:List UA) (w:List UG) (j:List Int)=>bif (p != 0)then some ((WI.mk zHp (Wm.mk [] [] []) (Wr.mk []) (Wr.mk []) [] []),0,p)else some ((WI.mk e.h (Wm.mk u w j) e.g e.v e.P e.R),0,0)) λq=>bif (decide (o>64))then q 1 e.l.S e.l.x e.l.i else bnd (QhY N e.l (wI o)) λf=>jn (λ(y:List UA) (z:List UG) (A:List Int)=>q f.2 y z A) λr=>bif (f.2==0)then r f.1.S f.1.x f.1.i else r e.l.S e.l.x e.l.i
def QhZ(N:Nat)(h:Wm)(f:Int):Option Wm:=bnd (QdB N h) λe=>bnd (Xb e.x f) λg=>grd (0<=0/\0<=g.O/\g.O<=(e.S.length:Int)) <| grd (0<=0/\0<=f/\f<=(e.x.length:Int)) <| some (Wm.mk (e.S.take g.O.toNat) (e.x.take f.toNat) e.i)
def Qil(N:Nat)(e:Wm):Option (Wm×Int):=bnd (QcW N e) λf=>bif (!f)then some ((Wm.mk [] [] []),1)else bif (decide ((wI ((e.x.length:Int)-1))<0))then some ((Wm.mk [] [] []),9)else bnd (Xb e.x (wI ((e.x.length:Int)-1))) λg=>bif g.B0 then some ((Wm.mk [] [] []),9)else bnd (QhZ N e (wI ((e.x.length:Int)-1))) λh=>some (h,0)
def QcC(N:Nat)(A:WI)(D:Int)(J:Int)(K:Int):Option (WI×Int×Int):=bnd (QaJ N A) λE=>bif (!E)then some ((WI.mk zHp (Wm.mk [] [] []) (Wr.mk []) (Wr.mk []) [] []),0,19)else bnd (Qat N A) λe=>jn (λ(p:Int) (k:Int) (q:List UA) (r:List UG) (s:List Int)=>bif (k != 0)then some ((WI.mk zHp (Wm.mk [] [] []) (Wr.mk []) (Wr.mk []) [] []),0,k)else some ((WI.mk e.h (Wm.mk q r s) e.g e.v e.P e.R),p,0)) λu=>bnd (Qav N e D) λo=>bif (o.2 != 0)then u 0 o.2 e.l.S e.l.x e.l.i else bnd (Qil N e.l) λf=>bif (f.2 != 0)then u 0 f.2 e.l.S e.l.x e.l.i else jn (λ(G:Int) (H:Int) (I:List UA) (w:List UG) (y:List Int)=>u G H I w y) λz=>bif (o.1==0)then z 0 0 f.1.S f.1.x f.1.i else bnd (QcJ N f.1 o.1) λj=>bif (j.2.2.2 != 0)then z 0 j.2.2.2 f.1.S f.1.x f.1.i else bnd (Qba N (UM.mk 1 j.2.1 j.2.2.1)) λB=>z B.1 B.2 j.1.S j.1.x j.1.i
def Qfv(N:Nat)(f:Wo)(g:Int):Option Bool:=bnd (QdK N f) λe=>bif (e.2 != 0)then some false else bnd (Qau N e.1 g) λh=>some h.2
def Qds(N:Nat)(e:Wo):Nat->Int->Int->Option Int
 |0,_,_=>none
 |n+1,g,f=>
  bif (decide (f<(e.p.length:Int)))then(bnd (Xb e.p f) λh=>
   bif (h.k==1)then(bif (decide (h.P>0))then Qds N e n (wI (g+1)) (wI (f+1))
    else Qds N e n g (wI (f+1)))
   else Qds N e n g (wI (f+1)))
  else some g
def Qe4(N:Nat)(e:Wo)(f:Int):Option Bool:=bnd (QfH N e) λh=>bif (!h)then some false else bnd (Qfv N e f) λj=>bif (!j)then some false else bnd (Qb2 N e.c f) λl=>bnd (Xb e.p l.1) λg=>bif (g.k != 1)then some false else bif (decide (g.P>0))then some false else bnd (Qds N e N 0 0) λo=>some (decide (o>=(wI (e.c.p.tdiv 4))))
def QgE(N:Nat)(g:Wo)(e:Int):Option (Int×Int×Int):=bnd (Qc6 N g e) λf=>bif (f.2 != 0)then some (0,0,f.2)else some ((wU (e+1)),(wU ((wU (e+1))+(wU f.1.n))),0)
def QfJ(N:Nat)(e:Wo)(j:Int)(l:Int):Option Wo:=bnd (Qb2 N e.c j) λf=>bnd (Qab N e.w) λo=>bnd (Qaa N e.p) λg=>bnd (Xb g f.1) λq=>bnd (Xb g f.1) λh=>some (Wo.mk e.c o (g.set f.1.toNat (Wv.mk h.k h.s h.u (wI (q.P+l)))) e.s e.b)
def Qi4(N:Nat)(g:Wo)(k:List Uz)(f:Int):Option (Wo×List Uz×Int×Int):=bnd (QgY N g k) λv=>bif (!v)then some (zHp,[],0,19)else bnd (QeB N k f) λl=>bif (f==0)then some (zHp,[],0,5)else bnd (Qfv N g f) λw=>bif (!w)then some (zHp,[],0,1)else jn (λ(_:Unit)=>bnd (QgE N g f) λp=>bif (p.2.2 != 0)then some (zHp,[],0,p.2.2)else bnd (Qaq N k) λe=>jn (λ(h:Int) (j:List Uz)=>bnd (Xb j h) λq=>bnd (Xb j h) λr=>bnd (QfJ N g f 1) λs=>some (s,(j.set h.toNat (Uz.mk r.a (wI (q.M+1)))),p.1,0)) λu=>bif (l==(-1))then(grd (e.length<=140737488355328) <| grd ((e.length+1)*16<=140737488355328) <| u (e.length:Int) (e++[(Uz.mk f 0)]))else u l e) λo=>bif (l != (-1))then(bnd (Xb k l) λy=>bif (decide (y.M>=1000))then some (zHp,[],0,18)else bif (l==(-1))then(bif (decide ((k.length:Int)>=64))then some (zHp,[],0,18)else bnd (Qe4 N g f) λz=>bif z then some (zHp,[],0,18)else o ())else bnd (Qe4 N g f) λA=>bif A then some (zHp,[],0,18)else o ())else bif (l==(-1))then(bif (decide ((k.length:Int)>=64))then some (zHp,[],0,18)else bnd (Qe4 N g f) λB=>bif B then some (zHp,[],0,18)else o ())else bnd (Qe4 N g f) λD=>bif D then some (zHp,[],0,18)else o ()
def QcD(N:Nat)(p:WI)(q:Int)(u:Int)(w:Int):Option (WI×Int×Int):=bnd (QaJ N p) λr=>bif (!r)then some ((WI.mk zHp (Wm.mk [] [] []) (Wr.mk []) (Wr.mk []) [] []),0,19)else bnd (Qat N p) λe=>jn (λ(s:Int) (k:Int)=>bif (k != 0)then(bif (k != 0)then some ((WI.mk zHp (Wm.mk [] [] []) (Wr.mk []) (Wr.mk []) [] []),0,k)else some (e,0,0))else bnd (Qi4 N e.h e.P s) λf=>bif (f.2.2.2 != 0)then(bif (f.2.2.2 != 0)then some ((WI.mk zHp (Wm.mk [] [] []) (Wr.mk []) (Wr.mk []) [] []),0,f.2.2.2)else some (e,0,0))else some ((WI.mk f.1 e.l e.g e.v f.2.1 e.R),f.2.2.1,0)) λo=>bnd (Qav N e q) λj=>bif (j.2 != 0)then o 0 j.2 else bif (j.1==0)then o 0 5 else o j.1 0
def Qhw(N:Nat)(k:Wo)(l:List Uz)(j:Int):Option (Wo×List Uz×Int):=bnd (QeB N l j) λe=>bnd (QgY N k l) λq=>bif (!q)then some (zHp,[],19)else bif (j==0)then some (zHp,[],5)else bif (e==(-1))then some (zHp,[],12)else bnd (Qaq N l) λf=>bnd (Xb f e) λg=>bnd (Xb f e) λh=>bnd (Xb (f.set e.toNat (Uz.mk h.a (wI (g.M-1)))) e) λr=>bif (r.M==0)then(grd (f.length<=140737488355328) <| grd (0<=e/\e<=(wI (e+1))/\(wI (e+1))<=(f.length:Int)/\(f.length:Int)<=(f.length:Int)) <| bif (e==(wI (e+1)))then(bnd (QfJ N k j (-1)) λs=>some (s,(f.set e.toNat (Uz.mk h.a (wI (g.M-1)))),0))else grd (f.length<=140737488355328) <| grd (0<=e/\e<=(f.length:Int)) <| grd (0<=(wI (e+1))/\(wI (e+1))<=(f.length:Int)/\(f.length:Int)<=(f.length:Int)) <| grd (e.toNat≠f.length/\(e.toNat+(f.length-(wI (e+1)).toNat))<=f.length) <| grd ((e.toNat+(f.length-(wI (e+1)).toNat))<=140737488355328) <| grd ((e.toNat+(f.length-(wI (e+1)).toNat))≠(((min e.toNat f.length)+(f.length-(wI (e+1)).toNat))+(f.length-(e.toNat+(f.length-(wI (e+1)).toNat))))/\0<=(((e.toNat+(f.length-(wI (e+1)).toNat)):Nat):Int)/\(((e.toNat+(f.length-(wI (e+1)).toNat)):Nat):Int)<=(f.length:Int)/\(f.length:Int)<=(((((min e.toNat f.length)+(f.length-(wI (e+1)).toNat))+(f.length-(e.toNat+(f.length-(wI (e+1)).toNat)))):Nat):Int)) <| bnd (QfJ N k j (-1)) λo=>some (o,((((((((f.set e.toNat (Uz.mk h.a (wI (g.M-1)))).take e.toNat)++(((f.set e.toNat (Uz.mk h.a (wI (g.M-1)))).drop (wI (e+1)).toNat).take (f.length-(wI (e+1)).toNat)))++((f.set e.toNat (Uz.mk h.a (wI (g.M-1)))).drop (e.toNat+(f.length-(wI (e+1)).toNat)))).take (((e.toNat+(f.length-(wI (e+1)).toNat)):Nat):Int).toNat)++(List.replicate ((f.length:Int).toNat-(((e.toNat+(f.length-(wI (e+1)).toNat)):Nat):Int).toNat) (Uz.mk 0 0)))++(((((f.set e.toNat (Uz.mk h.a (wI (g.M-1)))).take e.toNat)++(((f.set e.toNat (Uz.mk h.a (wI (g.M-1)))).drop (wI (e+1)).toNat).take (f.length-(wI (e+1)).toNat)))++((f.set e.toNat (Uz.mk h.a (wI (g.M-1)))).drop (e.toNat+(f.length-(wI (e+1)).toNat)))).drop ((((e.toNat+(f.length-(wI (e+1)).toNat)):Nat):Int).toNat+((f.length:Int).toNat-(((e.toNat+(f.length-(wI (e+1)).toNat)):Nat):Int).toNat)))).take (e.toNat+(f.length-(wI (e+1)).toNat))),0))else bnd (QfJ N k j (-1)) λp=>some (p,(f.set e.toNat (Uz.mk h.a (wI (g.M-1)))),0)
def QcE(N:Nat)(p:WI)(q:Int)(u:Int)(w:Int):Option (WI×Int×Int):=bnd (QaJ N p) λr=>bif (!r)then some ((WI.mk zHp (Wm.mk [] [] []) (Wr.mk []) (Wr.mk []) [] []),0,19)else bnd (Qat N p) λe=>jn (λ(s:Int) (k:Int)=>bif (k != 0)then(bif (k != 0)then some ((WI.mk zHp (Wm.mk [] [] []) (Wr.mk []) (Wr.mk []) [] []),0,k)else some (e,0,0))else bnd (Qhw N e.h e.P s) λf=>bif (f.2.2 != 0)then(bif (f.2.2 != 0)then some ((WI.mk zHp (Wm.mk [] [] []) (Wr.mk []) (Wr.mk []) [] []),0,f.2.2)else some (e,0,0))else some ((WI.mk f.1 e.l e.g e.v f.2.1 e.R),0,0)) λo=>bnd (Qav N e q) λj=>bif (j.2 != 0)then o 0 j.2 else bif (j.1==0)then o 0 5 else o j.1 0
def Qc7(N:Nat)(e:WI)(f:Int)(g:Int)(h:Int)(j:Int):Option (WI×Int×Int):=bif (f==1)then Qda N e g h j else bif (f==2)then Qdb N e g h j else bif (f==3)then Qdc N e g h j else bif (f==4)then Qdd N e g h j else bif (f==5)then Qde N e g h j else bif (f==6)then Qdf N e g h j else bif (f==7)then Qdg N e g h j else bif (f==8)then Qdh N e g h j else bif (f==9)then Qdi N e g h j else bif (f==10)then Qcu N e g h j else bif (f==11)then Qcv N e g h j else bif (f==12)then Qcw N e g h j else bif (f==13)then Qcx N e g h j else bif (f==14)then Qcy N e g h j else bif (f==15)then Qcz N e g h j else bif (f==16)then QcA N e g h j else bif (f==17)then QcB N e g h j else bif (f==18)then QcC N e g h j else bif (f==19)then QcD N e g h j else bif (f==20)then QcE N e g h j else Qfg N e f g h j
def Qce(N:Nat)(h:List Wv)(j:List Wv):Nat->Int->Option (Ex Bool Unit)
 |0,_=>none
 |n+1,e=>
  bif (decide (e<(h.length:Int)))then(bnd (Xb h e) λf=>
   bnd (Xb j e) λg=>
   bif (!((f.k==g.k)&&((f.s==g.s)&&((f.u==g.u)&&(f.P==g.P)))))then some (.ret false)
   else Qce N h j n (wI (e+1)))
  else some (.nxt ())
def QfK(N:Nat)(f:List Wv)(g:List Wv):Option Bool:=bif ((f.length:Int) != (g.length:Int))then some false else bnd (Qce N f g N 0) λe=>exK e (λr=>some r) λh=>some true
def QeI(N:Nat)(f:Wo)(g:Wo):Nat->Int->Option (Ex Bool Unit)
 |0,_=>none
 |n+1,e=>
  bif (decide (e<(f.w.length:Int)))then(bnd (Xb f.w e) λh=>
   bnd (Xb g.w e) λj=>
   bif (h != j)then some (.ret false)
   else QeI N f g n (wI (e+1)))
  else some (.nxt ())
def Qh0(N:Nat)(f:Wo)(g:Wo):Option Bool:=bif (!((f.c.W==g.c.W)&&(f.c.p==g.c.p)))then some false else bif (f.s != g.s)then some false else bif (f.b != g.b)then some false else bnd (QfK N f.p g.p) λh=>bif (!h)then some false else bif ((f.w.length:Int) != (g.w.length:Int))then some false else bnd (QeI N f g N 0) λe=>exK e (λr=>some r) λj=>some true
def QeJ(N:Nat)(f:Wm)(j:Wm):Nat->Int->Option (Ex Bool Unit)
 |0,_=>none
 |n+1,e=>
  bif (decide (e<(f.S.length:Int)))then(bnd (Xb f.S e) λg=>
   bnd (Xb j.S e) λh=>
   bif (!((g.J==h.J)&&((g.a==h.a)&&(g.V==h.V))))then some (.ret false)
   else QeJ N f j n (wI (e+1)))
  else some (.nxt ())
def QeK(N:Nat)(f:Wm)(j:Wm):Nat->Int->Option (Ex Bool Unit)
 |0,_=>none
 |n+1,e=>
  bif (decide (e<(f.x.length:Int)))then(bnd (Xb f.x e) λg=>
   bnd (Xb j.x e) λh=>
   bif (!((g.O==h.O)&&((g.C0==h.C0)&&(g.B0==h.B0))))then some (.ret false)
   else QeK N f j n (wI (e+1)))
  else some (.nxt ())
def QeL(N:Nat)(f:Wm)(j:Wm):Nat->Int->Option (Ex Bool Unit)
 |0,_=>none
 |n+1,e=>
  bif (decide (e<(f.i.length:Int)))then(bnd (Xb f.i e) λg=>
   bnd (Xb j.i e) λh=>
   bif (g != h)then some (.ret false)
   else QeL N f j n (wI (e+1)))
  else some (.nxt ())
def Qh1(N:Nat)(f:Wm)(g:Wm):Option Bool:=bif ((f.S.length:Int) != (g.S.length:Int))then some false else bif ((f.x.length:Int) != (g.x.length:Int))then some false else bif ((f.i.length:Int) != (g.i.length:Int))then some false else bnd (QeJ N f g N 0) λe=>exK e (λr=>some r) λj=>bnd (QeK N f g N 0) λe=>exK e (λr=>some r) λk=>bnd (QeL N f g N 0) λe=>exK e (λr=>some r) λh=>some true
def QeM(N:Nat)(g:Wr)(k:Wr):Nat->Int->Option (Ex Bool Unit)
 |0,_=>none
 |n+1,f=>
  bif (decide (f<(g.e.length:Int)))then(bnd (Xb g.e f) λh=>
   bnd (Xb k.e f) λj=>
   bif (!((h.G==j.G)&&((h.a==j.a)&&(h.V==j.V))))then some (.ret false)
   else QeM N g k n (wI (f+1)))
  else some (.nxt ())
def Qhh(N:Nat)(f:Wr)(g:Wr):Option Bool:=bif ((f.e.length:Int) != (g.e.length:Int))then some false else bnd (QeM N f g N 0) λe=>exK e (λr=>some r) λh=>some true
def QeN(N:Nat)(f:List Uz)(g:List Uz):Nat->Int->Option (Ex Bool Unit)
 |0,_=>none
 |n+1,e=>
  bif (decide (e<(f.length:Int)))then(bnd (Xb f e) λh=>
   bnd (Xb g e) λj=>
   bif (!((h.a==j.a)&&(h.M==j.M)))then some (.ret false)
   else QeN N f g n (wI (e+1)))
  else some (.nxt ())
def Qh2(N:Nat)(f:List Uz)(g:List Uz):Option Bool:=bif ((f.length:Int) != (g.length:Int))then some false else bnd (QeN N f g N 0) λe=>exK e (λr=>some r) λh=>some true
def QeO(N:Nat)(f:List Int)(g:List Int):Nat->Int->Option (Ex Bool Unit)
 |0,_=>none
 |n+1,e=>
  bif (decide (e<(f.length:Int)))then(bnd (Xb f e) λh=>
   bnd (Xb g e) λj=>
   bif (h != j)then some (.ret false)
   else QeO N f g n (wI (e+1)))
  else some (.nxt ())
def Qh3(N:Nat)(f:List Int)(g:List Int):Option Bool:=bif ((f.length:Int) != (g.length:Int))then some false else bnd (QeO N f g N 0) λe=>exK e (λr=>some r) λh=>some true
def Qh4(N:Nat)(e:WI)(f:WI):Option Bool:=bnd (Qh0 N e.h f.h) λj=>bif j then(bnd (Qh1 N e.l f.l) λk=>bif k then(bnd (Qhh N e.g f.g) λo=>bif o then(bnd (Qhh N e.v f.v) λp=>bif p then(bnd (Qh2 N e.P f.P) λq=>bif q then(bnd (Qh3 N e.R f.R) λr=>some r)else some false)else some false)else some false)else some false)else some false
def Qij(N:Nat):Option Bool:=bnd (QjJ N [] 0) λg=>bnd (Qc7 N g.N 3 3 0 0) λe=>bnd (Qc7 N e.1 4 e.2.1 0 0) λf=>bif (e.2.2==0)then(bif (f.2.2==0)then(bif (e.2.1==262145)then some (f.2.1==3)else some false)else some false)else some false
def Qbg(N:Nat):Nat->Int->(List Int)->Int->Int->Int->(List Int)->(List Wv)->Int->Int->(List UA)->(List UG)->(List Int)->(List WQ)->(List WQ)->(List Uz)->(List Int)->Int->Int->(List Ii)->(List UA)->(List UG)->(List Int)->(List WQ)->(List WQ)->(List Is)->(List Int)->(List Int)->Int->Int->(List Int)->(List Wv)->Int->Int->(List UA)->(List UG)->(List Int)->(List WQ)->(List WQ)->(List Uz)->(List Int)->Option (Ex Bool Unit)
 |0,_,_,_,_,_,_,_,_,_,_,_,_,_,_,_,_,_,_,_,_,_,_,_,_,_,_,_,_,_,_,_,_,_,_,_,_,_,_,_,_=>none
 |n+1,v2,v3,v4,v5,v6,v7,v8,v9,o,q,r,u,y,D,E,G,H,I,J,K,M,O,U,V,Y,Z,v28,v29,v30,v31,v32,v33,v34,v35,v36,v37,v38,v39,v40,v41=>
  bif (decide (v2<120))then(bnd (Qf1 N (Ig.mk v3 v4)) λy42=>
   bif (!y42)then(bnd (Qdk N (Ik.mk (WI.mk (Wo.mk (WV.mk v5 v6) v7 v8 v9 o) (Wm.mk q r u) (Wr.mk y) (Wr.mk D) E G) (WU.mk (WV.mk H I) J (Wm.mk K M O) (Wr.mk U) (Wr.mk V) Y Z) v28) (Ig.mk v3 v4)) λk=>
    bnd (QbG N (Ik.mk (WI.mk (Wo.mk (WV.mk v5 v6) v7 v8 v9 o) (Wm.mk q r u) (Wr.mk y) (Wr.mk D) E G) (WU.mk (WV.mk H I) J (Wm.mk K M O) (Wr.mk U) (Wr.mk V) Y Z) v28) k.1) λf=>
    jn (λ(x59:Int) (x60:Int) (x61:List Int) (x62:List Wv) (x63:Int) (x64:Int) (x65:List UA) (x66:List UG) (x67:List Int) (x68:List WQ) (x69:List WQ) (x70:List Uz) (x71:List Int)=>
     bnd (Qh4 N (WI.mk (Wo.mk (WV.mk x59 x60) x61 x62 x63 x64) (Wm.mk x65 x66 x67) (Wr.mk x68) (Wr.mk x69) x70 x71) f.1.N) λy72=>
     bif (!y72)then some (.ret false)
     else Qbg N n (wI (v2+1)) k.2.L k.2.at_ f.1.N.h.c.W f.1.N.h.c.p f.1.N.h.w f.1.N.h.p f.1.N.h.s f.1.N.h.b f.1.N.l.S f.1.N.l.x f.1.N.l.i f.1.N.g.e f.1.N.v.e f.1.N.P f.1.N.R f.1.z.c.W f.1.z.c.p f.1.z.T f.1.z.l.S f.1.z.l.x f.1.z.l.i f.1.z.g.e f.1.z.v.e f.1.z.m f.1.z.R f.1.w x59 x60 x61 x62 x63 x64 x65 x66 x67 x68 x69 x70 x71) λj2=>
    bif (k.1.Op==0)then j2 f.1.N.h.c.W f.1.N.h.c.p f.1.N.h.w f.1.N.h.p f.1.N.h.s f.1.N.h.b f.1.N.l.S f.1.N.l.x f.1.N.l.i f.1.N.g.e f.1.N.v.e f.1.N.P f.1.N.R
    else bnd (Qc7 N (WI.mk (Wo.mk (WV.mk v29 v30) v31 v32 v33 v34) (Wm.mk v35 v36 v37) (Wr.mk v38) (Wr.mk v39) v40 v41) k.1.Op k.1.A k.1.B k.1.C) λj=>
    bif (f.2.2 != j.2.2)then some (.ret false)
    else bif (f.2.1 != j.2.1)then some (.ret false)
    else jn (λ(x46:Int) (x47:Int) (x48:List Int) (x49:List Wv) (x50:Int) (x51:Int) (x52:List UA) (x53:List UG) (x54:List Int) (x55:List WQ) (x56:List WQ) (x57:List Uz) (x58:List Int)=>
     j2 x46 x47 x48 x49 x50 x51 x52 x53 x54 x55 x56 x57 x58) λj1=>
    bif (j.2.2==0)then j1 j.1.h.c.W j.1.h.c.p j.1.h.w j.1.h.p j.1.h.s j.1.h.b j.1.l.S j.1.l.x j.1.l.i j.1.g.e j.1.v.e j.1.P j.1.R
    else j1 v29 v30 v31 v32 v33 v34 v35 v36 v37 v38 v39 v40 v41)
   else some (.nxt ()))
  else some (.nxt ())
def Qdt(N:Nat)(k:List Int):Option Bool:=bnd (Qca N (Ig.mk k 0)) λf=>bnd (Qbg N N 0 f.2.L f.2.at_ f.1.N.h.c.W f.1.N.h.c.p f.1.N.h.w f.1.N.h.p f.1.N.h.s f.1.N.h.b f.1.N.l.S f.1.N.l.x f.1.N.l.i f.1.N.g.e f.1.N.v.e f.1.N.P f.1.N.R f.1.z.c.W f.1.z.c.p f.1.z.T f.1.z.l.S f.1.z.l.x f.1.z.l.i f.1.z.g.e f.1.z.v.e f.1.z.m f.1.z.R f.1.w f.1.N.h.c.W f.1.N.h.c.p f.1.N.h.w f.1.N.h.p f.1.N.h.s f.1.N.h.b f.1.N.l.S f.1.N.l.x f.1.N.l.i f.1.N.g.e f.1.N.v.e f.1.N.P f.1.N.R) λe=>exK e (λr=>some r) λo=>bnd (Qij N) λj=>some j
end Go.Sx
