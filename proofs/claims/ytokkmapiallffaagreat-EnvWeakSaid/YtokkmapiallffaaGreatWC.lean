import Derived.Test.YtokkmapiallffaaGreatWA
set_option linter.all false
namespace Go.Sx
structure WR where
 W:Int
 p:Int
structure Wr where
 k:Int
 s:Int
 u:Int
 P:Int
structure Wh where
 c:WR
 w:List Int
 p:List Wr
 s:Int
 b:Int
structure UI where
 J:Int
 a:Int
 V:Bool
structure UU where
 O:Int
 C0:Int
 B0:Bool
structure Ws where
 S:List UI
 x:List UU
 i:List Int
structure W8 where
 G:Int
 a:Int
 V:Bool
structure WG where
 e:List W8
structure UE where
 a:Int
 M:Int
structure Um where
 h:Wh
 l:Ws
 g:WG
 v:WG
 P:List UE
 R:List Int
structure Wx where
 k:Int
 n:Int
 Map:Int
structure In where
 H:Wx
 D:List Int
structure IA where
 I:Int
 M:Int
 B0:Int
structure WQ where
 c:WR
 T:List In
 l:Ws
 g:WG
 v:WG
 m:List IA
 R:List Int
structure Io where
 N:Um
 z:WQ
 w:List Int
structure WV where
 j:Int
 K:Int
 F:Int
 E:Int
 f:Int
 y:Int
structure IB where
 L:List Int
 at_:Int
structure Ou where
 Op:Int
 A:Int
 B:Int
 C:Int
structure OA where
 Failed:Bool
 Collected:Bool
 B0:Int
structure Oy where
 page:Int
 offset:Int
structure IM where
 l:Ws
structure Wu where
 h:Wh
 o:List Int
 t:List Int
 q:List Int
 d:Int
 r:WV
structure Iu where
 Tag:Int
 Index:Int
 J:Int
structure Us where
 Fault:Int
 Page:Int
 Addr:Int
structure UV where
 addr:Int
 hd:Wx
structure Ih where
 Width:Int
 Value:Int
structure Ox where
 O:Int
 Len:Int
@[simp] abbrev zWd:WQ:=WQ.mk (WR.mk 0 0) [] (Ws.mk [] [] []) (WG.mk []) (WG.mk []) [] []
@[simp] abbrev zHp:Wh:=Wh.mk (WR.mk 0 0) [] [] 0 0
def Qaj(N:Nat)(e:IB)(f:Int):Option (Int×IB):=bif (decide (f<1))then some (0,e)else jn (λ(h:Int)=>grd (f≠0) <| grd (f≠0) <| some (((wI ((h.tmod f)+f)).tmod f),(IB.mk e.L (wI (e.at_+1))))) λg=>bif (decide (e.at_<(e.L.length:Int)))then(bnd (Xd e.L e.at_) λj=>g j)else g (wI ((wI (e.at_*7))+3))
def Qfb(N:Nat)(g:IB):Option (WR×IB):=bnd (Qaj N g 4) λe=>bnd (Xd [16,16,20,32] e.1) λh=>bnd (Qaj N e.2 5) λf=>bnd (Xd [8,12,16,20,24] f.1) λj=>some ((WR.mk h j),f.2)
def QaQ(N:Nat)(e:WR):Option Bool:=bif (decide (e.W>=16))then(bif (decide (e.W<=64))then(bif ((e.W.tmod 4)==0)then(bif (decide (e.p>=8))then some (decide (e.p<=64))else some false)else some false)else some false)else some false
def QfV(N:Nat)(e:WR):Option (Wh×Int):=bnd (QaQ N e) λf=>bif (!f)then some (zHp,1)else grd (0<=(wI (e.p*e.W))/\(wI (e.p*e.W)).toNat*8<=140737488355328) <| grd (0<=e.p/\e.p.toNat*32<=140737488355328) <| some ((Wh.mk e (List.replicate (wI (e.p*e.W)).toNat (0:Int)) (List.replicate e.p.toNat (Wr.mk 0 0 0 0)) 0 (-1)),0)
def QeJ(N:Nat)(f:WR):Option (Um×Int):=bnd (QfV N f) λe=>some ((Um.mk e.1 (Ws.mk [] [] []) (WG.mk []) (WG.mk []) [] []),e.2)
def QfW(N:Nat)(e:WR):Option (WQ×Int):=bnd (QaQ N e) λf=>bif (!f)then some (zWd,1)else some ((WQ.mk e [] (Ws.mk [] [] []) (WG.mk []) (WG.mk []) [] []),0)
def Qbh(N:Nat)(o:IB):Option (Io×IB):=bnd (Qfb N o) λj=>bnd (QeJ N j.1) λf=>bnd (QfW N j.1) λe=>bnd (Qaj N j.2 40) λk=>some ((Io.mk (Um.mk f.1.h (Ws.mk f.1.l.S [(UU.mk 0 (wI (4+k.1)) true)] f.1.l.i) f.1.g f.1.v f.1.P f.1.R) (WQ.mk e.1.c e.1.T (Ws.mk e.1.l.S [(UU.mk 0 (wI (4+k.1)) true)] e.1.l.i) e.1.g e.1.v e.1.m e.1.R) [0]),k.2)
def Qf6(N:Nat)(e:IB):Option Bool:=some (decide (e.at_>=(e.L.length:Int)))
def QcP(N:Nat)(f:WG):Nat->Int->Option (Ex Bool Unit)
 |0,_=>none
 |n+1,g=>
  bif (decide (g<(f.e.length:Int)))then(bnd (Xd f.e g) λh=>
   bif (decide (h.G<1))then some (.ret false)
   else bif (decide (h.G>4294967295))then some (.ret false)
   else bif (!h.V)then(bif (h.a != 0)then some (.ret false)
    else QcP N f n (wI (g+1)))
   else QcP N f n (wI (g+1)))
  else some (.nxt ())
def Qcc(N:Nat)(f:WG):Option Bool:=bnd (QcP N f N 0) λe=>exK e (λr=>some r) λg=>some (decide ((f.e.length:Int)<=64))
def QbL(N:Nat)(f:WG):Nat->Int->(List Int)->Option (List Int)
 |0,_,_=>none
 |n+1,g,h=>
  bif (decide (g<(f.e.length:Int)))then(bnd (Qcc N f) λj=>
   bif j then(bnd (Xd f.e g) λk=>
    bif k.V then(bnd (Xd f.e g) λo=>
     grd ((h.length+1)*8<=140737488355328) <|
     QbL N f n (wI (g+1)) (h++[o.a]))
    else QbL N f n (wI (g+1)) h)
   else some h)
  else some h
def Qa7(N:Nat)(e:WG):Option (List Int):=bnd (QbL N e N 0 []) λf=>some f
def QdT(N:Nat)(f:Ws)(g:Int):Nat->Int->Int->Option Int
 |0,_,_=>none
 |n+1,h,e=>
  bif (decide (e<g))then(bnd (Xd f.S e) λj=>
   bif j.V then QdT N f g n (wI (h+1)) (wI (e+1))
   else QdT N f g n h (wI (e+1)))
  else some h
def Qf7(N:Nat)(e:Ws)(f g:Int):Option Int:=bnd (QdT N e g N 0 f) λh=>some h
def Qhb(N:Nat)(e:Ws)(f:Int):Option Int:=bif (decide ((wI (f+1))<(e.x.length:Int)))then(bnd (Xd e.x (wI (f+1))) λg=>some g.O)else some (e.S.length:Int)
def Qdp(N:Nat)(e:Ws):Nat->Int->Option (Ex Bool Unit)
 |0,_=>none
 |n+1,f=>
  bif (decide (f<(e.i.length:Int)))then(bnd (Xd e.i f) λg=>
   bif (decide (g<0))then some (.ret false)
   else bnd (Xd e.i f) λh=>
   bif (decide (h>4095))then some (.ret false)
   else Qdp N e n (wI (f+1)))
  else some (.nxt ())
def Qaw(N:Nat)(f:Ws):Nat->Int->Int->Option (Ex Bool Unit)
 |0,_,_=>none
 |n+1,g,v6=>
  bif (decide (v6<(f.S.length:Int)))then(bnd (Xd f.S v6) λe=>
   bif (decide (e.J<=g))then some (.ret false)
   else bif (decide (e.J>(f.i.length:Int)))then some (.ret false)
   else bnd (Xd f.i (wI (e.J-1))) λh=>
   bif (h != v6)then some (.ret false)
   else bif (!(e.V==(e.a != 0)))then some (.ret false)
   else Qaw N f n e.J (wI (v6+1)))
  else some (.nxt ())
def Qat(N:Nat)(f:Ws):Nat->Int->Int->Option (Ex Bool Unit)
 |0,_,_=>none
 |n+1,v10,v11=>
  bif (decide (v11<(f.x.length:Int)))then(bnd (Xd f.x v11) λe=>
   bif (v11==0)then(bif (e.O != 0)then some (.ret false)
    else bif (!e.B0)then some (.ret false)
    else bif (decide (e.O<v10))then some (.ret false)
    else bif (decide (e.O>(f.S.length:Int)))then some (.ret false)
    else bif (decide (e.C0<0))then some (.ret false)
    else bif (decide (e.C0>64))then some (.ret false)
    else Qat N f n e.O (wI (v11+1)))
   else bif (decide (e.O<v10))then some (.ret false)
   else bif (decide (e.O>(f.S.length:Int)))then some (.ret false)
   else bif (decide (e.C0<0))then some (.ret false)
   else bif (decide (e.C0>64))then some (.ret false)
   else Qat N f n e.O (wI (v11+1)))
  else some (.nxt ())
def QcQ(N:Nat)(f:Ws):Nat->Int->Option (Ex Bool Unit)
 |0,_=>none
 |n+1,e=>
  bif (decide (e<(f.x.length:Int)))then(bnd (Xd f.x e) λg=>
   bnd (Qhb N f e) λh=>
   bnd (Qf7 N f g.O h) λj=>
   bnd (Xd f.x e) λk=>
   bif (decide (j>k.C0))then some (.ret false)
   else QcQ N f n (wI (e+1)))
  else some (.nxt ())
def Qcd(N:Nat)(f:Ws):Option Bool:=jn (λ(_:Unit)=>bnd (Qdp N f N 0) λe=>exK e (λr=>some r) λk=>bnd (Qaw N f N 0 0) λe=>exK e (λr=>some r) λo=>bnd (Qat N f N 0 0) λe=>exK e (λr=>some r) λh=>bnd (QcQ N f N 0) λe=>exK e (λr=>some r) λj=>some true) λg=>bif (decide ((f.i.length:Int)>4096))then some false else bif (decide ((f.x.length:Int)>64))then some false else bif ((f.x.length:Int)==0)then(bif (decide ((f.S.length:Int)>0))then some false else g ())else g ()
def QbM(N:Nat)(e:Ws):Nat->Int->(List Int)->Option (List Int)
 |0,_,_=>none
 |n+1,f,g=>
  bif (decide (f<(e.S.length:Int)))then(bnd (Qcd N e) λh=>
   bif h then(bnd (Xd e.S f) λj=>
    bif j.V then(bnd (Xd e.S f) λk=>
     grd ((g.length+1)*8<=140737488355328) <|
     QbM N e n (wI (f+1)) (g++[k.a]))
    else QbM N e n (wI (f+1)) g)
   else some g)
  else some g
def QcG(N:Nat)(e:Ws):Option (List Int):=bnd (QbM N e N 0 []) λf=>some f
def QbE(N:Nat)(e:Um):Nat->Int->(List Int)->Option (List Int)
 |0,_,_=>none
 |n+1,f,g=>
  bif (decide (f<(e.P.length:Int)))then(bnd (Xd e.P f) λh=>
   grd ((g.length+1)*8<=140737488355328) <|
   QbE N e n (wI (f+1)) (g++[h.a]))
  else some g
def Qc5(N:Nat)(e:Um):Option (List Int):=grd (e.R.length*8<=140737488355328) <| bnd (QcG N e.l) λf=>grd ((e.R.length+f.length)*8<=140737488355328) <| bnd (Qa7 N e.g) λh=>grd (((e.R.length+f.length)+h.length)*8<=140737488355328) <| bnd (QbE N e N 0 ((e.R++f)++h)) λj=>some j
def Qfc(N:Nat)(e:List Int)(g:Int):Nat->Int->Option (Ex Bool Unit)
 |0,_=>none
 |n+1,f=>
  bif (decide (f<(e.length:Int)))then(bnd (Xd e f) λh=>
   bif (h==g)then some (.ret true)
   else Qfc N e g n (wI (f+1)))
  else some (.nxt ())
def Qbs(N:Nat)(f:List Int)(g:Int):Option Bool:=bnd (Qfc N f g N 0) λe=>exK e (λr=>some r) λh=>some false
def Qdq(N:Nat)(e:WR):Option Int:=bnd (QaQ N e) λf=>bif (!f)then some 0 else some (wI (e.W.tdiv 4))
def QcH(N:Nat)(f:WR)(g:Int):Nat->Int->Option (Ex Int Unit)
 |0,_=>none
 |n+1,e=>
  bif (decide (e<=4))then(bif (decide ((wI (e*f.W))>=g))then some (.ret e)
   else QcH N f g n (wI (e+1)))
  else some (.nxt ())
def QeK(N:Nat)(f:WR)(g:Int):Option Int:=bnd (QaQ N f) λh=>bif (!h)then some (-1)else bif (decide (g<1))then some (-1)else bnd (Qdq N f) λj=>bif (decide (g<=j))then some 0 else bnd (QcH N f g N 1) λe=>exK e (λr=>some r) λk=>some (-1)
def QgG(N:Nat)(e:Int):Option Bool:=bif (decide (e>=0))then some (decide (e<=2147483647))else some false
def Qdr(N:Nat)(e:List Wr)(h:Int):Nat->Int->Int->Option Int
 |0,_,_=>none
 |n+1,f,g=>
  bif (decide (g<(e.length:Int)))then(bnd (Xd e g) λj=>
   bif (j.k==3)then(bnd (Xd e g) λo=>
    bif (o.s==h)then Qdr N e h n (wI (f+1)) (wI (g+1))
    else some f)
   else some f)
  else some f
def QeV(N:Nat)(e:List Wr)(f g:Int):Option Int:=bnd (Qdr N e g N 0 (wI (f+1))) λh=>some h
def Qaz(N:Nat)(f:Wh):Nat->Int->Int->Option (Ex Bool Unit)
 |0,_,_=>none
 |n+1,h,j=>
  bif (decide (j<(f.p.length:Int)))then(bnd (Xd f.p j) λe=>
   bif (!((e.k==3)==(decide (h>0))))then some (.ret false)
   else bif (decide (e.s<0))then some (.ret false)
   else bif (decide (e.s>1))then some (.ret false)
   else bnd (QgG N e.P) λx=>
   bif (!x)then some (.ret false)
   else jn (λ(g:Int)=>
    Qaz N f n (if 0<(wI (g-1))then(wI (g-1))else 0) (wI (j+1))) λr=>
   bif (e.k==0)then(bif (!((e.k==0)&&((e.s==0)&&((e.u==0)&&(e.P==0)))))then some (.ret false)
    else r h)
   else jn (λ(o:Int)=>
    r o) λv=>
   bif (e.k==1)then(bif (decide (e.u<0))then some (.ret false)
    else bif (decide (e.u>f.c.W))then some (.ret false)
    else v h)
   else jn (λ(y:Int)=>
    v y) λw=>
   bif (e.k==2)then(bnd (QeK N f.c e.u) λq=>
    bif (decide (q<1))then some (.ret false)
    else bnd (QeV N f.p j e.s) λz=>
    bif (decide (z<(wI (q-1))))then some (.ret false)
    else w q)
   else bif (e.k==3)then(bif (e.u != 0)then some (.ret false)
    else bif (e.P != 0)then some (.ret false)
    else w h)
   else some (.ret false))
  else some (.nxt ())
def Qaa(N:Nat)(f:Wh):Option Bool:=bnd (QaQ N f.c) λh=>bif (!h)then some false else bif ((f.w.length:Int) != (wI (f.c.p*f.c.W)))then some false else bif ((f.p.length:Int) != f.c.p)then some false else bif (decide (f.s<0))then some false else bif (decide (f.s>1))then some false else jn (λ(_:Unit)=>bnd (Qaz N f N 0 0) λe=>exK e (λr=>some r) λj=>some true) λg=>bif (f.b != (-1))then(bif (decide (f.b<0))then some false else bif (decide (f.b>=(f.p.length:Int)))then some false else bnd (Xd f.p f.b) λo=>bif (o.k != 1)then some false else g ())else g ()
def Qb6(N:Nat)(e:WR)(f:Int):Option (Int×Int×Int):=bnd (QaQ N e) λg=>bif (!g)then some (0,0,1)else bif (decide (f<4096))then some (0,0,2)else bif (decide (f>=(wU (wI (4096+(wI (e.p*e.W)))))))then some (0,0,2)else grd (e.W≠0) <| grd (e.W≠0) <| some ((wI ((wI (wU (f-4096))).tdiv e.W)),((wI (wU (f-4096))).tmod e.W),0)
def QdC(N:Nat)(f:List Int)(e g:Int):Option (Int×Bool):=bif (decide (e<4096))then some (0,false)else bif (decide (e>(wU (4096+(wU (f.length:Int))))))then some (0,false)else some ((wI (wU (e-4096))),(decide (g<=(wI ((f.length:Int)-(wI (wU (e-4096))))))))
def QfK(N:Nat)(f:List Int)(g:Int):Option (Int×Int):=bnd (QdC N f g 1) λe=>bif (!e.2)then some (0,2)else some (e.1,0)
def Qbi(N:Nat)(f:List Int)(g:Int):Option (Int×Int):=bnd (QfK N f g) λe=>bif (e.2 != 0)then some (0,e.2)else bnd (Xd f e.1) λh=>some (h,0)
def QcW(N:Nat)(e:Wx):Option Bool:=bif (decide (e.k<0))then some false else bif (decide (e.k>3))then some false else bif (decide (e.n<0))then some false else bif (decide (e.n>255))then some false else bif (e.k != 1)then some (e.Map==0)else bif (decide (e.n<=32))then(grd (0<=(wU e.n)) <| some (decide ((wU e.Map)<(Kj .u64 1 (wU e.n)))))else some false
def Qcv(N:Nat)(e:Wx):Option (Int×Int):=bnd (QcW N e) λf=>bif (!f)then some (0,1)else some ((wU ((wU ((wU (1+(wU (4*(wU e.k)))))+(wU (16*(wU e.n)))))+(Kj .u64 (wU e.Map) 16))),0)
def Qcw(N:Nat)(e:Int):Option (Wx×Bool):=bnd (Qcv N (Wx.mk (wI (Zu .u64 (YL .u64 e 2) 3)) (wI (Zu .u64 (YL .u64 e 4) 4095)) (wW (YL .u64 e 16)))) λf=>bif (f.2 != 0)then some ((Wx.mk 0 0 0),false)else bif (f.1 != e)then some ((Wx.mk 0 0 0),false)else some ((Wx.mk (wI (Zu .u64 (YL .u64 e 2) 3)) (wI (Zu .u64 (YL .u64 e 4) 4095)) (wW (YL .u64 e 16))),true)
def QcI(N:Nat)(e:Wx):Option Int:=bnd (QcW N e) λf=>bif (!f)then some 0 else some (wI (e.n+1))
def Qao(N:Nat)(h:Wh)(o:Int):Option (Wx×Int):=bnd (Qaa N h) λr=>bif (!r)then some ((Wx.mk 0 0 0),1)else bnd (Qb6 N h.c o) λf=>bif (f.2.2 != 0)then some ((Wx.mk 0 0 0),2)else bnd (Xd h.p f.1) λe=>bnd (Qbi N h.w o) λs=>bnd (Qcw N s.1) λg=>jn (λ(_:Unit)=>bnd (QcI N g.1) λj=>bif (e.k==1)then(bif (decide ((wI (f.2.1+j))>e.u))then some ((Wx.mk 0 0 0),19)else bif (e.k==2)then(bif (f.2.1 != 0)then some ((Wx.mk 0 0 0),19)else bif (j != e.u)then some ((Wx.mk 0 0 0),19)else some (g.1,0))else some (g.1,0))else bif (e.k==2)then(bif (f.2.1 != 0)then some ((Wx.mk 0 0 0),19)else bif (j != e.u)then some ((Wx.mk 0 0 0),19)else some (g.1,0))else some (g.1,0)) λq=>bif (e.k != 1)then(bif (e.k != 2)then some ((Wx.mk 0 0 0),19)else bif (decide (f.2.1>=e.u))then some ((Wx.mk 0 0 0),19)else bif (!g.2)then some ((Wx.mk 0 0 0),19)else q ())else bif (decide (f.2.1>=e.u))then some ((Wx.mk 0 0 0),19)else bif (!g.2)then some ((Wx.mk 0 0 0),19)else q ()
def Qbv(N:Nat)(e:WR)(f g:Int):Option (Int×Int):=bnd (QaQ N e) λh=>bif (!h)then some (0,1)else bif (decide (f<0))then some (0,2)else bif (decide (f>=e.p))then some (0,2)else bif (decide (g<0))then some (0,2)else bif (decide (g>=e.W))then some (0,2)else some ((wU (wI ((wI (4096+(wI (f*e.W))))+g))),0)
def Qah(N:Nat)(f:Wh)(o:Int)(g:Wr):Nat->Int->(List Int)->Option (Ex (List Int×Int) (List Int))
 |0,_,_=>none
 |n+1,h,e=>
  bif (decide (h<g.u))then(bnd (Qbv N f.c o h) λj=>
   bnd (Qao N f j.1) λp=>
   bif (p.2 != 0)then some (.ret ([],19))
   else grd ((e.length+1)*8<=140737488355328) <|
   bif (g.k==2)then some (.nxt (e++[j.1]))
   else bnd (QcI N p.1) λq=>
   Qah N f o g n (wI (h+q)) (e++[j.1]))
  else some (.nxt e)
def Qaf(N:Nat)(f:Wh)(g:Int):Option (List Int×Int):=bnd (Qaa N f) λj=>bif (!j)then some ([],1)else bif (decide (g<0))then some ([],2)else bif (decide (g>=(f.p.length:Int)))then some ([],2)else bnd (Xd f.p g) λh=>bif (h.k==0)then some ([],0)else bif (h.k==3)then some ([],0)else bnd (Qah N f g h N 0 []) λe=>exK e (λr=>some r) λo=>some (o,0)
def QaG(N:Nat)(f:Wh):Nat->Int->(List Int)->Option (Ex (List Int×Int) (List Int))
 |0,_,_=>none
 |n+1,g,h=>
  bif (decide (g<(f.p.length:Int)))then(bnd (Qaf N f g) λe=>
   bif (e.2 != 0)then some (.ret ([],e.2))
   else grd ((h.length+e.1.length)*8<=140737488355328) <|
   QaG N f n (wI (g+1)) (h++e.1))
  else some (.nxt h)
def Qby(N:Nat)(f:Wh):Option (List Int×Int):=bnd (Qaa N f) λg=>bif (!g)then some ([],1)else bnd (QaG N f N 0 []) λe=>exK e (λr=>some r) λh=>some (h,0)
def Qa6(N:Nat)(h:Wh)(e:List Int×Int):Nat->Int->(List Int)->Option (List Int)
 |0,_,_=>none
 |n+1,f,g=>
  bif (decide (f<(e.1.length:Int)))then(bnd (Xd e.1 f) λj=>
   bnd (Qao N h j) λo=>
   bif (o.1.k != 0)then(bnd (Xd e.1 f) λp=>
    grd ((g.length+1)*8<=140737488355328) <|
    Qa6 N h e n (wI (f+1)) (g++[p]))
   else Qa6 N h e n (wI (f+1)) g)
  else some g
def Qal(N:Nat)(e:Wh):Option (List Int×Int):=bnd (Qby N e) λf=>bnd (Qa6 N e f N 0 []) λg=>some (g,f.2)
def QaR(N:Nat)(e:Wh)(h:Int)(f:List Int):Nat->Int->Option (Ex Int Unit)
 |0,_=>none
 |n+1,g=>
  bif (decide (g<(f.length:Int)))then(bnd (Xd f g) λr=>
   bnd (Qao N e r) λj=>
   bnd (QcI N j.1) λs=>
   bnd (Qdq N e.c) λu=>
   bnd (Xd e.p h) λv=>
   bif (v.k==1)then(bif (!(decide (s<=u)))then(bnd (Xd f g) λw=>
       some (.ret w))
    else bnd (Xd e.p h) λx=>
    bif (x.k==2)then(bif (j.1.k==0)then(bnd (Xd f g) λo=>
        some (.ret o))
     else QaR N e h f n (wI (g+1)))
    else QaR N e h f n (wI (g+1)))
   else bnd (Xd e.p h) λy=>
   bif (y.k==2)then(bif (j.1.k==0)then(bnd (Xd f g) λq=>
       some (.ret q))
    else QaR N e h f n (wI (g+1)))
   else QaR N e h f n (wI (g+1)))
  else some (.nxt ())
def Qeg(N:Nat)(f:Wh)(g:Int)(h:List Int):Option Int:=bnd (QaR N f g h N 0) λe=>exK e (λr=>some r) λj=>some 0
def QcJ(N:Nat)(f:Wh):Nat->Int->Option Int
 |0,_=>none
 |n+1,e=>
  bnd (Xd f.p e) λg=>
  bif (g.k==3)then QcJ N f n (wI (e-1))
  else some e
def QeL(N:Nat)(e:Wh)(f:Int):Option Int:=bnd (QcJ N e N f) λg=>some g
def QbN(N:Nat)(e:Wh)(f:Int)(g:List Int)(h j:Int):Nat->Int->(List Bool)->Option (List Bool)
 |0,_,_=>none
 |n+1,v7,v8=>
  bif (decide (v7<j))then(bnd (Xd g h) λk=>
   bif (decide ((wI ((wI ((wI ((wI k)-4096))+v7))-(wI (f*e.c.W))))>=0))then(grd (v8.length<=140737488355328) <|
    bif (decide ((wI ((wI ((wI ((wI k)-4096))+v7))-(wI (f*e.c.W))))<(v8.length:Int)))then(bnd (Xd v8 (wI ((wI ((wI ((wI k)-4096))+v7))-(wI (f*e.c.W))))) λo=>
     QbN N e f g h j n (wI (v7+1)) (v8.set (wI ((wI ((wI ((wI k)-4096))+v7))-(wI (f*e.c.W)))).toNat true))
    else QbN N e f g h j n (wI (v7+1)) v8)
   else QbN N e f g h j n (wI (v7+1)) v8)
  else some v8
def Qdh(N:Nat)(g:Wh)(j:Int)(e:List Int):Nat->Int->(List Bool)->Option (List Bool)
 |0,_,_=>none
 |n+1,f,o=>
  bif (decide (f<(e.length:Int)))then(bnd (Xd e f) λr=>
   bnd (Qao N g r) λp=>
   bnd (QcI N p.1) λs=>
   jn (λ(u:Int)=>
    bnd (QbN N g j e f u N 0 o) λh=>
    Qdh N g j e n (wI (f+1)) h) λq=>
   bif (p.1.k==0)then q 1
   else q s)
  else some o
def QgH(N:Nat)(e:Wh)(g:Int)(h:List Int):Option (List Bool):=grd (0<=e.c.W/\e.c.W.toNat<=140737488355328) <| bnd (Qdh N e g h N 0 (List.replicate e.c.W.toNat false)) λf=>some f
def QgI(N:Nat)(e:Wh)(f g:Int):Option Int:=bnd (Qbv N e.c f g) λh=>bnd (Qbi N e.w h.1) λj=>some j.1
def Qfn(N:Nat)(e:Wh)(f g:Int):Option Int:=bnd (QgI N e f g) λh=>some h
def Qfy(N:Nat)(e:Wh)(f g:Int):Option Int:=some (wU (wI ((wI (4096+(wI (f*e.c.W))))+g)))
def QcK(N:Nat)(f:Wh)(g:Int)(h:List Bool):Nat->Int->Option (Ex Int Unit)
 |0,_=>none
 |n+1,e=>
  bif (decide (e<(h.length:Int)))then(bnd (Xd h e) λj=>
   bif (!j)then(bnd (Qfn N f g e) λk=>
    bif (k != 0)then(bnd (Qfy N f g e) λo=>
     some (.ret o))
    else QcK N f g h n (wI (e+1)))
   else QcK N f g h n (wI (e+1)))
  else some (.nxt ())
def Qd8(N:Nat)(f:Wh)(g:Int):Option Int:=bnd (QeL N f g) λh=>bnd (Qaf N f h) λj=>bnd (QgH N f g j.1) λk=>bnd (QcK N f g k N 0) λe=>exK e (λr=>some r) λo=>some 0
def Qd9(N:Nat)(f:Wh)(e:Int):Option Us:=jn (λ(_:Unit)=>bnd (Qaf N f e) λg=>bif (g.2 != 0)then some (Us.mk 3 e 0)else bnd (Qeg N f e g.1) λh=>bif (h != 0)then some (Us.mk 5 e h)else bnd (Qd8 N f e) λj=>bif (j != 0)then some (Us.mk 4 e j)else some (Us.mk 0 0 0)) λo=>bnd (Xd f.p e) λq=>bif (q.k != 0)then(bnd (Xd f.p e) λr=>bif (r.s != f.s)then some (Us.mk 2 e 0)else o ())else o ()
def Qb7(N:Nat)(f:Wh)(g:Int):Option (Wx×Int):=bnd (Qaa N f) λh=>bif (!h)then some ((Wx.mk 0 0 0),1)else bif (g==0)then some ((Wx.mk 0 0 0),5)else bnd (Qao N f g) λe=>bif (e.2==0)then(bif (e.1.k==0)then some ((Wx.mk 0 0 0),4)else some (e.1,e.2))else some (e.1,e.2)
def Qc6(N:Nat)(g:List Int)(h f:Int):Option (List Int×Int):=bif (decide (f<0))then some ([],1)else bnd (QdC N g h f) λe=>bif (!e.2)then some ([],2)else grd (0<=e.1/\e.1<=(wI (e.1+f))/\(wI (e.1+f))<=(g.length:Int)) <| grd ((min ((wI (e.1+f)).toNat-e.1.toNat) (g.length-e.1.toNat))*8<=140737488355328) <| some (((g.drop e.1.toNat).take ((wI (e.1+f)).toNat-e.1.toNat)),0)
def Qeu(N:Nat)(f:Wh)(g:Int):Option (List Int×Int):=bnd (Qb7 N f g) λe=>bif (e.2 != 0)then some ([],e.2)else bnd (Qc6 N f.w (wU (g+1)) e.1.n) λh=>some (h.1,h.2)
def QbO(N:Nat)(e:Wx)(f:Int):Option Bool:=bnd (QcW N e) λg=>bif (!g)then some false else bif (decide (f<0))then some false else bif (decide (f>=e.n))then some false else bif (e.k==2)then some true else bif (e.k==1)then(grd (0<=(wU f)) <| some ((Zu .u32 (YL .u32 e.Map (wU f)) 1)==1))else some false
def Qav(N:Nat)(h:Wh)(f e:List Int×Int)(j:Int)(k:Wx×Int):Nat->Int->Option (Ex Us Unit)
 |0,_=>none
 |n+1,v7=>
  bif (decide (v7<(e.1.length:Int)))then(bnd (QbO N k.1 v7) λr=>
   bif r then(bnd (Xd e.1 v7) λs=>
    bif (s != 0)then(bnd (Xd e.1 v7) λo=>
     bnd (Qbs N f.1 o) λp=>
     bif (!p)then(bnd (Xd f.1 j) λg=>
      bnd (Qb6 N h.c (wU ((wU (g+1))+(wU v7)))) λq=>
      some (.ret (Us.mk 6 q.1 (wU ((wU (g+1))+(wU v7))))))
     else Qav N h f e j k n (wI (v7+1)))
    else Qav N h f e j k n (wI (v7+1)))
   else Qav N h f e j k n (wI (v7+1)))
  else some (.nxt ())
def Qbt(N:Nat)(h:Wh)(f:List Int×Int):Nat->Int->Option (Ex Us Unit)
 |0,_=>none
 |n+1,g=>
  bif (decide (g<(f.1.length:Int)))then(bnd (Xd f.1 g) λj=>
   bnd (Qb7 N h j) λk=>
   bnd (Xd f.1 g) λo=>
   bnd (Qeu N h o) λp=>
   bnd (Qav N h f p g k N 0) λe=>exK e (λr=>some (.ret r)) λq=>
   Qbt N h f n (wI (g+1)))
  else some (.nxt ())
def Qds(N:Nat)(f:Wh):Option Us:=bnd (Qal N f) λg=>bnd (Qbt N f g N 0) λe=>exK e (λr=>some r) λh=>some (Us.mk 0 0 0)
def Qbb(N:Nat)(e:Wh):Nat->Int->Option (Ex Us Unit)
 |0,_=>none
 |n+1,f=>
  bif (decide (f<(e.p.length:Int)))then(bnd (Qd9 N e f) λg=>
   bif (g.Fault != 0)then some (.ret g)
   else Qbb N e n (wI (f+1)))
  else some (.nxt ())
def Qa2(N:Nat)(e:Wh):Nat->Int->Int->Option Int
 |0,_,_=>none
 |n+1,v6,v7=>
  bif (decide (v7<(e.p.length:Int)))then(bnd (Xd e.p v7) λf=>
   bif (f.k==1)then(bnd (Xd e.p v7) λg=>
    bif (decide (g.P>0))then Qa2 N e n (wI (v6+1)) (wI (v7+1))
    else Qa2 N e n v6 (wI (v7+1)))
   else Qa2 N e n v6 (wI (v7+1)))
  else some v6
def QeW(N:Nat)(f:Wh):Option Us:=bnd (Qaa N f) λj=>bif (!j)then some (Us.mk 1 0 0)else bnd (Qbb N f N 0) λe=>exK e (λr=>some r) λk=>bnd (Qds N f) λh=>bif (h.Fault != 0)then some h else bnd (Qa2 N f N 0 0) λg=>bif (decide (g>(wI (f.c.p.tdiv 4))))then some (Us.mk 7 0 0)else some (Us.mk 0 0 0)
def Qbj(N:Nat)(f:Wh):Option Bool:=bnd (QeW N f) λe=>some ((e.Fault==0)&&((e.Page==0)&&(e.Addr==0)))
def QeX(N:Nat)(f:List UE)(g:Int):Nat->Int->Option (Ex Int Unit)
 |0,_=>none
 |n+1,e=>
  bif (decide (e<(f.length:Int)))then(bnd (Xd f e) λh=>
   bif (h.a==g)then some (.ret e)
   else QeX N f g n (wI (e+1)))
  else some (.nxt ())
def Qgw(N:Nat)(f:List UE)(g:Int):Option Int:=bnd (QeX N f g N 0) λe=>exK e (λr=>some r) λh=>some (-1)
def Qfo(N:Nat)(e:Wh)(f:Int):Option Int:=bnd (Qb6 N e.c f) λg=>some g.1
def Qbc(N:Nat)(q:Wh)(e:List UE)(r:List Int×Int):Nat->Int->(List Int)->Option (Ex Bool (List Int))
 |0,_,_=>none
 |n+1,f,h=>
  bif (decide (f<(e.length:Int)))then(bnd (Xd e f) λs=>
   bnd (Qbs N r.1 s.a) λu=>
   bif (!u)then some (.ret false)
   else bnd (Xd e f) λv=>
   bnd (Qgw N e v.a) λw=>
   bif (w != f)then some (.ret false)
   else bnd (Xd e f) λx=>
   bif (decide (x.M<1))then some (.ret false)
   else bnd (Xd e f) λj=>
   bif (decide (j.M>1000))then some (.ret false)
   else bnd (Xd e f) λk=>
   bnd (Qfo N q k.a) λg=>
   bnd (Xd h g) λo=>
   bnd (Xd e f) λp=>
   bnd (Xd h g) λy=>
   Qbc N q e r n (wI (f+1)) (h.set g.toNat (wI (o+p.M))))
  else some (.nxt h)
def Qbz(N:Nat)(f:Wh)(e:List Int):Nat->Int->Option (Ex Bool Unit)
 |0,_=>none
 |n+1,v17=>
  bif (decide (v17<(f.p.length:Int)))then(bnd (Xd f.p v17) λg=>
   bnd (Xd e v17) λh=>
   bif (g.P != h)then some (.ret false)
   else Qbz N f e n (wI (v17+1)))
  else some (.nxt ())
def Qce(N:Nat)(f:Wh)(h:List UE):Option Bool:=bnd (Qbj N f) λj=>bif (!j)then some false else bif (decide ((h.length:Int)>64))then some false else bnd (Qal N f) λk=>grd (0<=(f.p.length:Int)/\(f.p.length:Int).toNat*8<=140737488355328) <| bnd (Qbc N f h k N 0 (List.replicate (f.p.length:Int).toNat (0:Int))) λe=>exK e (λr=>some r) λg=>bnd (Qbz N f g N 0) λe=>exK e (λr=>some r) λo=>some true
def QaA(N:Nat)(e:List Int)(g:List Int×Int):Nat->Int->Option (Ex Bool Unit)
 |0,_=>none
 |n+1,f=>
  bif (decide (f<(e.length:Int)))then(bnd (Xd e f) λh=>
   bif (h != 0)then(bnd (Xd e f) λj=>
    bnd (Qbs N g.1 j) λk=>
    bif (!k)then some (.ret false)
    else QaA N e g n (wI (f+1)))
   else QaA N e g n (wI (f+1)))
  else some (.nxt ())
def QbA(N:Nat)(f:Wh)(g:List Int):Option Bool:=bnd (Qbj N f) λh=>bif (!h)then some false else bnd (Qal N f) λj=>bnd (QaA N g j N 0) λe=>exK e (λr=>some r) λk=>some true
def QbF(N:Nat)(e:Um):Option Bool:=bnd (Qce N e.h e.P) λo=>bif (!o)then some false else bnd (Qcd N e.l) λp=>bif (!p)then some false else bnd (Qcc N e.g) λq=>bif (!q)then some false else bnd (Qcc N e.v) λr=>bif (!r)then some false else bnd (Qa7 N e.g) λf=>bnd (Qbs N f 0) λs=>bif s then some false else grd (e.R.length*8<=140737488355328) <| bnd (QcG N e.l) λj=>grd ((e.R.length+j.length)*8<=140737488355328) <| grd (((e.R.length+j.length)+f.length)*8<=140737488355328) <| bnd (Qa7 N e.v) λk=>grd ((((e.R.length+j.length)+f.length)+k.length)*8<=140737488355328) <| bnd (QbA N e.h (((e.R++j)++f)++k)) λu=>some u
def QbB(N:Nat)(g:Wh)(h:List Int×Int):Nat->Int->(List Wr)->Option (List Wr)
 |0,_,_=>none
 |n+1,f,e=>
  grd (e.length<=140737488355328) <|
  bif (decide (f<(e.length:Int)))then(bnd (Xd e f) λo=>
   bif (o.k==1)then(bif (decide (o.P>0))then(bnd (Xd e f) λj=>
       QbB N g h n (wI (f+1)) (e.set f.toNat (Wr.mk j.k (wI (1-g.s)) j.u j.P)))
    else QbB N g h n (wI (f+1)) e)
   else QbB N g h n (wI (f+1)) e)
  else some e
def QcX(N:Nat)(e:Wh):Option (Wu×Int):=bnd (Qaa N e) λg=>bif (!g)then some ((Wu.mk zHp [] [] [] 0 (WV.mk 0 0 0 0 0 0)),1)else bnd (Qbj N e) λh=>bif (!h)then some ((Wu.mk zHp [] [] [] 0 (WV.mk 0 0 0 0 0 0)),19)else bnd (Qal N e) λf=>grd (e.p.length*32<=140737488355328) <| bnd (QbB N e f N 0 e.p) λj=>some ((Wu.mk (Wh.mk e.c e.w j e.s e.b) f.1 [] [] 0 (WV.mk 0 0 0 0 0 0)),0)
def Qcx(N:Nat)(e:Int):Option (Int×Bool):=bif ((e.tmod 4) != 2)then some (0,false)else bif (decide ((YL .u64 e 2)>=4294967296))then some (0,false)else some ((YL .u64 e 2),true)
def QcR(N:Nat)(e:Wu)(g:Int):Nat->Int->Option (Ex Bool Unit)
 |0,_=>none
 |n+1,f=>
  bif (decide (f<(e.t.length:Int)))then(bnd (Xd e.t f) λh=>
   bif (h==g)then some (.ret true)
   else QcR N e g n (wI (f+1)))
  else some (.nxt ())
def Qgk(N:Nat)(f:Wu)(g:Int):Option Bool:=bnd (QcR N f g N 0) λe=>exK e (λr=>some r) λh=>some false
def QbT(N:Nat)(e:Wu)(f:Int):Option Bool:=bif (decide (f<0))then some false else bif (decide (f>=(e.h.p.length:Int)))then some false else bnd (Xd e.h.p f) λg=>bif (g.k==1)then(bif (g.s != e.h.s)then(bnd (Qgk N e f) λj=>some (!j))else some false)else some false
def Qch(N:Nat)(f:List Int)(g:Int×Bool):Nat->Int->(List Int)->Option (List Int)
 |0,_,_=>none
 |n+1,e,h=>
  bif (decide (e<(f.length:Int)))then(bnd (Xd f e) λj=>
   bnd (Xd h (wI (g.1+e))) λk=>
   Qch N f g n (wI (e+1)) (h.set (wI (g.1+e)).toNat j))
  else some h
def Qcf(N:Nat)(e:List Int)(h:Int)(f:List Int):Option (List Int×Int):=bnd (QdC N e h (f.length:Int)) λg=>bif (!g.2)then some ([],2)else grd (e.length*8<=140737488355328) <| bnd (Qch N f g N 0 e) λj=>some (j,0)
def QdD(N:Nat)(f:List Int)(g h:Int):Option (List Int×Int):=bnd (Qcf N f g [h]) λe=>some (e.1,e.2)
def QcL(N:Nat)(e:Wu)(g:Int):Option Wu:=grd (e.q.length*8<=140737488355328) <| grd ((e.q.length+1)*8<=140737488355328) <| some (Wu.mk e.h e.o e.t (e.q++[g]) e.d (WV.mk e.r.j (wI (e.r.K+1)) e.r.F e.r.E e.r.f e.r.y))
def Qbw(N:Nat)(g:List Wr):Nat->Int->(List Ox)->Option (List Ox)
 |0,_,_=>none
 |n+1,f,e=>
  bif (decide (f<(g.length:Int)))then(bnd (Xd g f) λj=>
   bif (j.k != 0)then Qbw N g n (wI (f+1)) e
   else grd (e.length<=140737488355328) <|
   jn (λ(_:Unit)=>
    grd ((e.length+1)*16<=140737488355328) <|
    Qbw N g n (wI (f+1)) (e++[(Ox.mk f 1)])) λh=>
   bif (decide ((e.length:Int)>0))then(bnd (Xd e (wI ((e.length:Int)-1))) λo=>
    bnd (Xd e (wI ((e.length:Int)-1))) λp=>
    bif ((wI (o.O+p.Len))==f)then(bnd (Xd e (wI ((e.length:Int)-1))) λq=>
     bnd (Xd e (wI ((e.length:Int)-1))) λr=>
     Qbw N g n (wI (f+1)) (e.set (wI ((e.length:Int)-1)).toNat (Ox.mk r.O (wI (q.Len+1)))))
    else h ())
   else h ())
  else some e
def Qf8(N:Nat)(e:List Wr):Option (List Ox):=bnd (Qbw N e N 0 []) λf=>some f
def QbC(N:Nat)(g:Int)(e:List Ox):Nat->Int->Option (Ex Int Unit)
 |0,_=>none
 |n+1,f=>
  bif (decide (f<(e.length:Int)))then(bif (decide (g>=1))then(bnd (Xd e f) λh=>
      bif (decide (h.Len>=g))then(bnd (Xd e f) λj=>
       some (.ret j.O))
      else QbC N g e n (wI (f+1)))
   else QbC N g e n (wI (f+1)))
  else some (.nxt ())
def Qbn(N:Nat)(f:List Wr)(g:Int):Option Int:=bnd (Qf8 N f) λh=>bnd (QbC N g h N 0) λe=>exK e (λr=>some r) λj=>some (-1)
def QdU(N:Nat)(f h:Int)(o j:Wr):Nat->Int->(List Wr)->Option (Ex (List Wr×Int) (List Wr))
 |0,_,_=>none
 |n+1,e,g=>
  bif (decide (e<h))then(bnd (Xd g (wI (f+e))) λp=>
   bif (p.k != 0)then some (.ret ([],20))
   else bnd (Xd g (wI (f+e))) λq=>
   QdU N f h o j n (wI (e+1)) (g.set (wI (f+e)).toNat j))
  else some (.nxt g)
def QdE(N:Nat)(g:List Wr)(f h:Int)(j o:Wr):Option (List Wr×Int):=bif (decide (f<0))then some ([],2)else bif (decide (f>=(g.length:Int)))then some ([],2)else bif (decide (h>(wI ((g.length:Int)-f))))then some ([],2)else grd (g.length*32<=140737488355328) <| bnd (QdU N f h j o N 0 g) λe=>exK e (λr=>some r) λk=>bnd (Xd k f) λp=>some ((k.set f.toNat j),0)
def QbU(N:Nat)(g:List Wr)(h e:Int):Option (List Wr×Int):=bif (decide (e<0))then some ([],1)else bif (decide (e>1))then some ([],1)else bnd (QdE N g h 1 (Wr.mk 1 e 0 0) (Wr.mk 0 0 0 0)) λf=>some (f.1,f.2)
def Qcy(N:Nat)(e:Wu)(y:Int):Option (Wu×Int×Bool):=grd (e.h.p.length*32<=140737488355328) <| jn (λ(_:Unit)=>bnd (Qbn N e.h.p 1) λf=>bif (decide (f<0))then some ((Wu.mk zHp [] [] [] 0 (WV.mk 0 0 0 0 0 0)),0,false)else bnd (QbU N e.h.p f (wI (1-e.h.s))) λx=>grd (e.t.length*8<=140737488355328) <| grd ((e.t.length+1)*8<=140737488355328) <| bnd (Xd x.1 f) λz=>bnd (Xd x.1 f) λA=>bnd (Xd x.1 f) λg=>some ((Wu.mk (Wh.mk e.h.c e.h.w (x.1.set f.toNat (Wr.mk g.k g.s (wI (A.u+y)) g.P)) e.h.s e.h.b) e.o (e.t++[f]) e.q e.d e.r),(wU (wI ((wI (4096+(wI (f*e.h.c.W))))+z.u))),true)) λE=>bif (decide ((e.t.length:Int)>0))then(bnd (Xd e.t (wI ((e.t.length:Int)-1))) λG=>bnd (Xd e.h.p G) λH=>bif (decide ((wI (H.u+y))<=e.h.c.W))then(bnd (Xd e.t (wI ((e.t.length:Int)-1))) λv=>bnd (Xd e.h.p v) λB=>bnd (Xd e.h.p v) λD=>bnd (Xd e.h.p v) λj=>some ((Wu.mk (Wh.mk e.h.c e.h.w (e.h.p.set v.toNat (Wr.mk j.k j.s (wI (D.u+y)) j.P)) e.h.s e.h.b) e.o e.t e.q e.d e.r),(wU (wI ((wI (4096+(wI (v*e.h.c.W))))+B.u))),true))else E ())else E ()
def Qfp(N:Nat)(f:List Int)(h j k:Int):Option (List Int×Int):=bnd (Qc6 N f j k) λe=>bif (e.2 != 0)then some ([],e.2)else bnd (Qcf N f h e.1) λg=>some (g.1,g.2)
def QcM(N:Nat)(e:Int):Option (Int×Int):=bif (decide (e>=4294967296))then some (0,1)else some ((wU ((wU (4*e))+2)),0)
def QaH(N:Nat)(g:Wu)(j:Int):Nat->Int->(List Wr)->Option (List Wr)
 |0,_,_=>none
 |n+1,v10,v11=>
  grd (v11.length<=140737488355328) <|
  bif (decide (v10<(v11.length:Int)))then(bnd (Xd v11 v10) λf=>
   bif (f.k==3)then(bnd (Xd v11 v10) λe=>
    QaH N g j n (wI (v10+1)) (v11.set v10.toNat (Wr.mk e.k (wI (1-g.h.s)) e.u e.P)))
   else some v11)
  else some v11
def QaD(N:Nat)(g:Wu)(v:Int):Option (Wu×Int×Int):=bif (v==0)then some (g,v,0)else bnd (Qbs N g.q v) λO=>bif O then some (g,v,0)else bnd (Qbs N g.o v) λR=>bif (!R)then some ((Wu.mk zHp [] [] [] 0 (WV.mk 0 0 0 0 0 0)),0,19)else bnd (Qbi N g.h.w v) λL=>bnd (Qcx N L.1) λM=>bif M.2 then some (g,M.1,0)else bnd (Qb6 N g.h.c v) λx=>bif (x.2.2 != 0)then some ((Wu.mk zHp [] [] [] 0 (WV.mk 0 0 0 0 0 0)),0,19)else bif (decide (x.1>=(g.h.p.length:Int)))then some ((Wu.mk zHp [] [] [] 0 (WV.mk 0 0 0 0 0 0)),0,19)else bnd (QbT N g x.1) λS=>bif S then(bnd (QcL N g v) λT=>some (T,v,0))else bnd (Xd g.h.p x.1) λU=>bif (U.k==2)then(grd (g.h.p.length*32<=140737488355328) <| bnd (Xd g.h.p x.1) λA=>bnd (QaH N g v N (wI (x.1+1)) (g.h.p.set x.1.toNat (Wr.mk A.k (wI (1-g.h.s)) A.u A.P))) λB=>bnd (QcL N (Wu.mk (Wh.mk g.h.c g.h.w B g.h.s g.h.b) g.o g.t g.q g.d g.r) v) λD=>some (D,v,0))else bnd (Qcw N L.1) λG=>bnd (QcI N G.1) λz=>bnd (Qcy N g z) λe=>bif (!e.2.2)then some ((Wu.mk zHp [] [] [] 0 (WV.mk 0 0 0 0 0 0)),0,3)else bnd (Qfp N e.1.h.w e.2.1 v z) λH=>bnd (QcM N e.2.1) λI=>bnd (QdD N H.1 v I.1) λJ=>grd (e.1.q.length*8<=140737488355328) <| grd ((e.1.q.length+1)*8<=140737488355328) <| some ((Wu.mk (Wh.mk e.1.h.c J.1 e.1.h.p e.1.h.s e.1.h.b) e.1.o e.1.t (e.1.q++[e.2.1]) e.1.d (WV.mk (wI (e.1.r.j+1)) e.1.r.K e.1.r.F e.1.r.E e.1.r.f e.1.r.y)),e.2.1,0)
def Qa3(N:Nat)(v:List Int):Nat->Int->Int->Int->(List Int)->(List Wr)->Int->Int->(List Int)->(List Int)->(List Int)->Int->Int->Int->Int->Int->Int->Int->(List Int)->Option (Ex (Wu×List Int×Int) (Int×Int×List Int×List Wr×Int×Int×List Int×List Int×List Int×Int×Int×Int×Int×Int×Int×Int×List Int))
 |0,_,_,_,_,_,_,_,_,_,_,_,_,_,_,_,_,_,_=>none
 |n+1,x,A,B,D,G,v6,v7,v8,v9,v10,v11,g,v13,k,v15,u,v17,v18=>
  bif (decide (x<(v.length:Int)))then(bnd (Xd v x) λz=>
   bnd (QaD N (Wu.mk (Wh.mk (WR.mk A B) D G v6 v7) v8 v9 v10 v11 (WV.mk g v13 k v15 u v17)) z) λe=>
   bif (e.2.2 != 0)then some (.ret ((Wu.mk zHp [] [] [] 0 (WV.mk 0 0 0 0 0 0)),[],e.2.2))
   else grd ((v18.length+1)*8<=140737488355328) <|
   Qa3 N v n (wI (x+1)) e.1.h.c.W e.1.h.c.p e.1.h.w e.1.h.p e.1.h.s e.1.h.b e.1.o e.1.t e.1.q e.1.d e.1.r.j e.1.r.K e.1.r.F e.1.r.E e.1.r.f e.1.r.y (v18++[e.2.1]))
  else some (.nxt (A,B,D,G,v6,v7,v8,v9,v10,v11,g,v13,k,v15,u,v17,v18))
def QcY(N:Nat)(k:Wu)(u:List Int):Option (Wu×List Int×Int):=bnd (Qa3 N u N 0 k.h.c.W k.h.c.p k.h.w k.h.p k.h.s k.h.b k.o k.t k.q k.d k.r.j k.r.K k.r.F k.r.E k.r.f k.r.y []) λe=>exK e (λr=>some r) λg=>some ((Wu.mk (Wh.mk (WR.mk g.1 g.2.1) g.2.2.1 g.2.2.2.1 g.2.2.2.2.1 g.2.2.2.2.2.1) g.2.2.2.2.2.2.1 g.2.2.2.2.2.2.2.1 g.2.2.2.2.2.2.2.2.1 g.2.2.2.2.2.2.2.2.2.1 (WV.mk g.2.2.2.2.2.2.2.2.2.2.1 g.2.2.2.2.2.2.2.2.2.2.2.1 g.2.2.2.2.2.2.2.2.2.2.2.2.1 g.2.2.2.2.2.2.2.2.2.2.2.2.2.1 g.2.2.2.2.2.2.2.2.2.2.2.2.2.2.1 g.2.2.2.2.2.2.2.2.2.2.2.2.2.2.2.1)),g.2.2.2.2.2.2.2.2.2.2.2.2.2.2.2.2,0)
def Qdi(N:Nat)(e:Wu)(f:Int):Option Wx:=bnd (Qbi N e.h.w f) λg=>bnd (Qcw N g.1) λj=>some j.1
def Qb2(N:Nat)(e:Wx):Nat->Int->(List Int)->Option (List Int)
 |0,_,_=>none
 |n+1,f,g=>
  bif (decide (f<e.n))then(bnd (QcW N e) λh=>
   bif h then(bnd (QbO N e f) λj=>
    bif j then(grd ((g.length+1)*8<=140737488355328) <|
     Qb2 N e n (wI (f+1)) (g++[f]))
    else Qb2 N e n (wI (f+1)) g)
   else some g)
  else some g
def Qfd(N:Nat)(e:Wx):Option (List Int):=bnd (Qb2 N e N 0 []) λf=>some f
def Qbd(N:Nat)(x:Int)(z:List Int):Nat->Int->Int->Int->(List Int)->(List Wr)->Int->Int->(List Int)->(List Int)->(List Int)->Int->Int->Int->Int->Int->Int->Int->Option (Ex (Wu×Bool×Int) (Int×Int×List Int×List Wr×Int×Int×List Int×List Int×List Int×Int×Int×Int×Int×Int×Int×Int))
 |0,_,_,_,_,_,_,_,_,_,_,_,_,_,_,_,_,_=>none
 |n+1,A,G,v6,v7,v8,v9,v10,v11,g,v13,k,v15,u,v17,v18,v19,v20=>
  bif (decide (A<(z.length:Int)))then(bnd (Xd z A) λv=>
   bnd (Qbi N v7 (wU ((wU (x+1))+(wU v)))) λB=>
   bnd (QaD N (Wu.mk (Wh.mk (WR.mk G v6) v7 v8 v9 v10) v11 g v13 k (WV.mk v15 u v17 v18 v19 v20)) B.1) λe=>
   bif (e.2.2 != 0)then some (.ret ((Wu.mk zHp [] [] [] 0 (WV.mk 0 0 0 0 0 0)),false,e.2.2))
   else bnd (QdD N e.1.h.w (wU ((wU (x+1))+(wU v))) e.2.1) λD=>
   Qbd N x z n (wI (A+1)) e.1.h.c.W e.1.h.c.p D.1 e.1.h.p e.1.h.s e.1.h.b e.1.o e.1.t e.1.q e.1.d e.1.r.j e.1.r.K e.1.r.F e.1.r.E e.1.r.f e.1.r.y)
  else some (.nxt (G,v6,v7,v8,v9,v10,v11,g,v13,k,v15,u,v17,v18,v19,v20))
def Qea(N:Nat)(k:Wu):Option (Wu×Bool×Int):=bif (decide (k.d>=(k.q.length:Int)))then some (k,false,0)else bnd (Xd k.q k.d) λu=>bnd (Qdi N k u) λx=>bnd (Qfd N x) λv=>bnd (Qbd N u v N 0 k.h.c.W k.h.c.p k.h.w k.h.p k.h.s k.h.b k.o k.t k.q k.d k.r.j k.r.K k.r.F k.r.E k.r.f k.r.y) λe=>exK e (λr=>some r) λg=>some ((Wu.mk (Wh.mk (WR.mk g.1 g.2.1) g.2.2.1 g.2.2.2.1 g.2.2.2.2.1 g.2.2.2.2.2.1) g.2.2.2.2.2.2.1 g.2.2.2.2.2.2.2.1 g.2.2.2.2.2.2.2.2.1 (wI (g.2.2.2.2.2.2.2.2.2.1+1)) (WV.mk g.2.2.2.2.2.2.2.2.2.2.1 g.2.2.2.2.2.2.2.2.2.2.2.1 g.2.2.2.2.2.2.2.2.2.2.2.2.1 g.2.2.2.2.2.2.2.2.2.2.2.2.2.1 g.2.2.2.2.2.2.2.2.2.2.2.2.2.2.1 (wI ((wI (g.2.2.2.2.2.2.2.2.2.2.2.2.2.2.2+1))+(v.length:Int))))),true,0)
def QbP(N:Nat):Nat->Int->Int->(List Int)->(List Wr)->Int->Int->(List Int)->(List Int)->(List Int)->Int->Int->Int->Int->Int->Int->Int->Option (Wu×Int)
 |0,_,_,_,_,_,_,_,_,_,_,_,_,_,_,_,_=>none
 |n+1,v,x,z,A,B,v6,v7,v8,v9,v10,v11,g,v13,k,v15,u=>
  bnd (Qea N (Wu.mk (Wh.mk (WR.mk v x) z A B v6) v7 v8 v9 v10 (WV.mk v11 g v13 k v15 u))) λe=>
  bif (e.2.2 != 0)then some ((Wu.mk zHp [] [] [] 0 (WV.mk 0 0 0 0 0 0)),e.2.2)
  else bif (!e.2.1)then some (e.1,0)
  else QbP N n e.1.h.c.W e.1.h.c.p e.1.h.w e.1.h.p e.1.h.s e.1.h.b e.1.o e.1.t e.1.q e.1.d e.1.r.j e.1.r.K e.1.r.F e.1.r.E e.1.r.f e.1.r.y
def Qeh(N:Nat)(e:Wu):Option (Wu×Int):=bnd (QbP N N e.h.c.W e.h.c.p e.h.w e.h.p e.h.s e.h.b e.o e.t e.q e.d e.r.j e.r.K e.r.F e.r.E e.r.f e.r.y) λr=>some r
def Qcz(N:Nat)(f:Wu)(e:Int):Option Int:=bnd (Qbs N f.q e) λg=>bif g then some e else bnd (Qbi N f.h.w e) λj=>bnd (Qcx N j.1) λk=>some k.1
def Qbe(N:Nat)(e:Wu)(g:List Wr)(j:Wr)(f k:Int):Nat->Int->(List Int)->Option (List Int)
 |0,_,_=>none
 |n+1,v7,v8=>
  bif (decide (v7<e.h.c.W))then(bnd (Xd v8 (wI ((wI (f*e.h.c.W))+v7))) λo=>
   Qbe N e g j f k n (wI (v7+1)) (v8.set (wI ((wI (f*e.h.c.W))+v7)).toNat 0))
  else some v8
def QaL(N:Nat)(g:Wu):Nat->Int->Int->(List Int)->(List Wr)->Option (Int×List Int×List Wr)
 |0,_,_,_,_=>none
 |n+1,f,j,o,e=>
  grd (e.length<=140737488355328) <|
  bif (decide (f<(e.length:Int)))then(bnd (Xd e f) λp=>
   bif (p.k==0)then QaL N g n (wI (f+1)) j o e
   else bif (p.s != g.h.s)then QaL N g n (wI (f+1)) j o e
   else bnd (Xd e f) λr=>
   bnd (Qbe N g e p f j N 0 o) λq=>
   QaL N g n (wI (f+1)) (wI (j+1)) q (e.set f.toNat (Wr.mk 0 0 0 0)))
  else some (j,o,e)
def Qeb(N:Nat)(e:Wu):Option Wu:=grd (e.h.p.length*32<=140737488355328) <| grd (e.h.w.length*8<=140737488355328) <| bnd (QaL N e N 0 e.r.E e.h.w e.h.p) λg=>some (Wu.mk (Wh.mk e.h.c g.2.1 g.2.2 e.h.s e.h.b) e.o e.t e.q e.d (WV.mk e.r.j e.r.K e.r.F g.1 e.r.f e.r.y))
def QaB(N:Nat)(e:Wu):Nat->Int->(List Int)->Int->Option (List Int×Int)
 |0,_,_,_=>none
 |n+1,k,u,v=>
  bif (decide (k<(e.o.length:Int)))then(bnd (Xd e.o k) λA=>
   bnd (Qb6 N e.h.c A) λB=>
   bnd (QbT N (Wu.mk (Wh.mk e.h.c u e.h.p e.h.s e.h.b) e.o e.t e.q e.d (WV.mk e.r.j e.r.K v e.r.E e.r.f e.r.y)) B.1) λD=>
   bif (!D)then QaB N e n (wI (k+1)) u v
   else bnd (Xd e.o k) λG=>
   bnd (Qbs N e.q G) λH=>
   bif H then QaB N e n (wI (k+1)) u v
   else bnd (Xd e.o k) λI=>
   bnd (Qdi N (Wu.mk (Wh.mk e.h.c u e.h.p e.h.s e.h.b) e.o e.t e.q e.d (WV.mk e.r.j e.r.K v e.r.E e.r.f e.r.y)) I) λg=>
   bnd (Qcv N (Wx.mk 0 g.n 0)) λw=>
   bnd (Xd e.o k) λx=>
   grd (0<=g.n/\g.n.toNat*8<=140737488355328) <|
   grd ((1+g.n.toNat)*8<=140737488355328) <|
   bnd (Qcf N u x ([w.1]++(List.replicate g.n.toNat (0:Int)))) λz=>
   QaB N e n (wI (k+1)) z.1 (wI (v+1)))
  else some (u,v)
def Qec(N:Nat)(e:Wu):Option Wu:=bnd (QaB N e N 0 e.h.w e.r.F) λg=>some (Wu.mk (Wh.mk e.h.c g.1 e.h.p e.h.s e.h.b) e.o e.t e.q e.d (WV.mk e.r.j e.r.K g.2 e.r.E e.r.f e.r.y))
def QaI(N:Nat)(g:List Int)(z:Wu×List Int×Int)(e:Wu×Int):Nat->Int->Int->(List Int)->Option (Int×List Int)
 |0,_,_,_=>none
 |n+1,v7,v8,v9=>
  bif (decide (v7<(g.length:Int)))then(bnd (Xd g v7) λk=>
   jn (λ(p s:Int)=>
    grd ((v9.length+1)*8<=140737488355328) <|
    QaI N g z e n (wI (v7+1)) s (v9++[p])) λw=>
   bif (k != 0)then(bnd (Xd g v7) λu=>
    bnd (Qcz N (Wu.mk e.1.h e.1.o e.1.t e.1.q e.1.d (WV.mk e.1.r.j e.1.r.K e.1.r.F e.1.r.E v8 e.1.r.y)) u) λf=>
    jn (λ(v:Int)=>
     w f v) λx=>
    bif (f==0)then x (wI (v8+1))
    else x v8)
   else w 0 v8)
  else some (v8,v9)
def Qcg(N:Nat)(v:Wh)(B D:List Int):Option (Wh×List Int×List Int×WV×Int):=bnd (Qaa N v) λI=>bif (!I)then some (zHp,[],[],(WV.mk 0 0 0 0 0 0),1)else jn (λ(_:Unit)=>some (zHp,[],[],(WV.mk 0 0 0 0 0 0),19)) λG=>bnd (QbA N v B) λJ=>bif (!J)then G ()else bnd (QbA N v D) λL=>bif (!L)then G ()else bnd (QcX N v) λM=>bnd (QcY N M.1 B) λk=>bif (k.2.2 != 0)then some (zHp,[],[],(WV.mk 0 0 0 0 0 0),k.2.2)else bnd (Qeh N k.1) λg=>bif (g.2 != 0)then some (zHp,[],[],(WV.mk 0 0 0 0 0 0),g.2)else bnd (QaI N D k g N 0 g.1.r.f []) λu=>bnd (Qec N (Wu.mk g.1.h g.1.o g.1.t g.1.q g.1.d (WV.mk g.1.r.j g.1.r.K g.1.r.F g.1.r.E u.1 g.1.r.y))) λx=>bnd (Qeb N x) λe=>jn (λ(z:Int)=>some ((Wh.mk e.h.c e.h.w e.h.p (wI (1-e.h.s)) z),k.2.1,u.2,e.r,0)) λH=>bif (decide ((e.t.length:Int)>0))then(bnd (Xd e.t (wI ((e.t.length:Int)-1))) λA=>H A)else H (-1)
def Qbf(N:Nat)(j:Ws)(g:List Int):Nat->Int->Int->(List UI)->Option (Ex (Ws×Int) (List UI))
 |0,_,_,_=>none
 |n+1,h,f,e=>
  grd (e.length<=140737488355328) <|
  bif (decide (f<(e.length:Int)))then(bnd (Xd e f) λo=>
   bif (!o.V)then Qbf N j g n h (wI (f+1)) e
   else bnd (Xd g h) λp=>
   bif (p==0)then some (.ret ((Ws.mk [] [] []),1))
   else bnd (Xd g h) λq=>
   bnd (Xd e f) λk=>
   Qbf N j g n (wI (h+1)) (wI (f+1)) (e.set f.toNat (UI.mk k.J q k.V)))
  else some (.nxt e)
def Qc7(N:Nat)(f:Ws)(h:List Int):Option (Ws×Int):=bnd (Qcd N f) λj=>bif (!j)then some ((Ws.mk [] [] []),1)else bnd (QcG N f) λk=>bif ((h.length:Int) != (k.length:Int))then some ((Ws.mk [] [] []),1)else grd (f.S.length*24<=140737488355328) <| bnd (Qbf N f h N 0 0 f.S) λe=>exK e (λr=>some r) λg=>some ((Ws.mk g f.x f.i),0)
def Qbg(N:Nat)(g:List Int):Nat->Int->Int->(List W8)->Option (List W8)
 |0,_,_,_=>none
 |n+1,h,f,e=>
  grd (e.length<=140737488355328) <|
  bif (decide (f<(e.length:Int)))then(bnd (Xd e f) λk=>
   bif k.V then(bnd (Xd g h) λo=>
    bnd (Xd e f) λj=>
    Qbg N g n (wI (h+1)) (wI (f+1)) (e.set f.toNat (W8.mk j.G o j.V)))
   else Qbg N g n h (wI (f+1)) e)
  else some e
def Qb5(N:Nat)(f:WG)(g:List Int):Option (WG×Int):=bnd (Qcc N f) λj=>bif (!j)then some ((WG.mk []),1)else bnd (Qa7 N f) λh=>grd (h.length<=140737488355328) <| bif ((g.length:Int) != (h.length:Int))then some ((WG.mk []),1)else grd (f.e.length*24<=140737488355328) <| bnd (Qbg N g N 0 0 f.e) λk=>some ((WG.mk k),0)
def QaX(N:Nat)(e:Um)(h:Wh×List Int×List Int×WV×Int)(j k:List Int)(o:Ws×Int)(p q:WG×Int):Nat->Int->(List UE)->Option (List UE)
 |0,_,_=>none
 |n+1,v10,v11=>
  bif (decide (v10<(e.P.length:Int)))then(bnd (Xd h.2.1 (wI ((wI ((wI ((e.R.length:Int)+(j.length:Int)))+(k.length:Int)))+v10))) λf=>
   bnd (Xd e.P v10) λg=>
   grd ((v11.length+1)*16<=140737488355328) <|
   QaX N e h j k o p q n (wI (v10+1)) (v11++[(UE.mk f g.M)]))
  else some v11
def Qbx(N:Nat)(e:Um):Option (Um×WV×Int):=bnd (QbF N e) λs=>bif (!s)then some ((Um.mk zHp (Ws.mk [] [] []) (WG.mk []) (WG.mk []) [] []),(WV.mk 0 0 0 0 0 0),19)else bnd (Qc5 N e) λu=>bnd (Qa7 N e.v) λw=>bnd (Qcg N e.h u w) λf=>bif (f.2.2.2.2 != 0)then some ((Um.mk zHp (Ws.mk [] [] []) (WG.mk []) (WG.mk []) [] []),(WV.mk 0 0 0 0 0 0),f.2.2.2.2)else bnd (QcG N e.l) λj=>bnd (Qa7 N e.g) λk=>grd (k.length<=140737488355328) <| grd (0<=0/\0<=(e.R.length:Int)/\(e.R.length:Int)<=(f.2.1.length:Int)) <| grd ((min ((e.R.length:Int).toNat) f.2.1.length)*8<=140737488355328) <| grd (0<=(e.R.length:Int)/\(e.R.length:Int)<=(wI ((e.R.length:Int)+(j.length:Int)))/\(wI ((e.R.length:Int)+(j.length:Int)))<=(f.2.1.length:Int)) <| bnd (Qc7 N e.l ((f.2.1.drop (e.R.length:Int).toNat).take ((wI ((e.R.length:Int)+(j.length:Int))).toNat-(e.R.length:Int).toNat))) λp=>grd (0<=(wI ((e.R.length:Int)+(j.length:Int)))/\(wI ((e.R.length:Int)+(j.length:Int)))<=(wI ((wI ((e.R.length:Int)+(j.length:Int)))+(k.length:Int)))/\(wI ((wI ((e.R.length:Int)+(j.length:Int)))+(k.length:Int)))<=(f.2.1.length:Int)) <| bnd (Qb5 N e.g ((f.2.1.drop (wI ((e.R.length:Int)+(j.length:Int))).toNat).take ((wI ((wI ((e.R.length:Int)+(j.length:Int)))+(k.length:Int))).toNat-(wI ((e.R.length:Int)+(j.length:Int))).toNat))) λq=>bnd (Qb5 N e.v f.2.2.1) λr=>bnd (QaX N e f j k p q r N 0 []) λo=>some ((Um.mk f.1 p.1 q.1 r.1 o (f.2.1.take (e.R.length:Int).toNat)),f.2.2.2.1,0)
def Qc8(N:Nat)(g:WQ)(e:List Int):Nat->Int->Option (Ex Bool Unit)
 |0,_=>none
 |n+1,f=>
  bif (decide (f<(e.length:Int)))then(bnd (Xd e f) λh=>
   bif (decide (h>(wU (g.T.length:Int))))then some (.ret false)
   else Qc8 N g e n (wI (f+1)))
  else some (.nxt ())
def Qc9(N:Nat)(f:WQ)(g:List Int):Option Bool:=bnd (Qc8 N f g N 0) λe=>exK e (λr=>some r) λh=>some true
def QdV(N:Nat)(e:In):Nat->Int->(List Int)->Option (List Int)
 |0,_,_=>none
 |n+1,f,g=>
  bif (decide (f<(e.D.length:Int)))then(bnd (QbO N e.H f) λh=>
   bif h then(bnd (Xd e.D f) λj=>
    grd ((g.length+1)*8<=140737488355328) <|
    QdV N e n (wI (f+1)) (g++[j]))
   else QdV N e n (wI (f+1)) g)
  else some g
def Qf9(N:Nat)(e:In):Option (List Int):=bnd (QdV N e N 0 []) λf=>some f
def QeD(N:Nat)(f:WQ)(g:Int):Nat->Int->Option (Ex Int Unit)
 |0,_=>none
 |n+1,e=>
  bif (decide (e<(f.m.length:Int)))then(bnd (Xd f.m e) λh=>
   bif (h.I==g)then some (.ret e)
   else QeD N f g n (wI (e+1)))
  else some (.nxt ())
def Qfq(N:Nat)(f:WQ)(g:Int):Option Int:=bnd (QeD N f g N 0) λe=>exK e (λr=>some r) λh=>some (-1)
def Qdt(N:Nat)(f:WQ):Nat->Int->Option (Ex Bool Unit)
 |0,_=>none
 |n+1,g=>
  bif (decide (g<(f.T.length:Int)))then(bnd (Xd f.T g) λe=>
   bnd (QcW N e.H) λh=>
   bif (!h)then some (.ret false)
   else bif (e.H.k==0)then some (.ret false)
   else bif ((e.D.length:Int) != e.H.n)then some (.ret false)
   else bnd (Qf9 N e) λj=>
   bnd (Qc9 N f j) λo=>
   bif (!o)then some (.ret false)
   else Qdt N f n (wI (g+1)))
  else some (.nxt ())
def Qdu(N:Nat)(h:WQ)(e:List Int):Nat->Int->Option (Ex Bool Unit)
 |0,_=>none
 |n+1,f=>
  grd (e.length<=140737488355328) <|
  bif (decide (f<(e.length:Int)))then(bnd (Xd e f) λg=>
   bif (g==0)then some (.ret false)
   else Qdu N h e n (wI (f+1)))
  else some (.nxt ())
def Qdv(N:Nat)(f:WQ)(g:List Int):Nat->Int->Option (Ex Bool Unit)
 |0,_=>none
 |n+1,v15=>
  bif (decide (v15<(f.m.length:Int)))then(bnd (Xd f.m v15) λe=>
   bif (decide (e.I<1))then some (.ret false)
   else bif (decide (e.I>(wU (f.T.length:Int))))then some (.ret false)
   else bnd (Qfq N f e.I) λh=>
   bif (h != v15)then some (.ret false)
   else bif (decide (e.M<1))then some (.ret false)
   else bif (decide (e.M>1000))then some (.ret false)
   else Qdv N f g n (wI (v15+1)))
  else some (.nxt ())
def Qei(N:Nat)(f:WQ):Option Bool:=bnd (QaQ N f.c) λu=>bif (!u)then some false else bnd (Qcd N f.l) λw=>bif (!w)then some false else bnd (Qcc N f.g) λx=>bif (!x)then some false else bnd (Qcc N f.v) λy=>bif (!y)then some false else bif (decide ((f.m.length:Int)>64))then some false else bnd (Qdt N f N 0) λe=>exK e (λr=>some r) λz=>bnd (Qa7 N f.g) λh=>bnd (Qdu N f h N 0) λe=>exK e (λr=>some r) λA=>bnd (Qdv N f h N 0) λe=>exK e (λr=>some r) λB=>bnd (Qc9 N f f.R) λj=>bif j then(bnd (QcG N f.l) λk=>bnd (Qc9 N f k) λo=>bif o then(bnd (Qc9 N f h) λp=>bif p then(bnd (Qa7 N f.v) λq=>bnd (Qc9 N f q) λs=>some s)else some false)else some false)else some false
def QeM(N:Nat)(e:WQ):Nat->Int->(List Int)->Option (List Int)
 |0,_,_=>none
 |n+1,f,g=>
  bif (decide (f<(e.m.length:Int)))then(bnd (Xd e.m f) λh=>
   grd ((g.length+1)*8<=140737488355328) <|
   QeM N e n (wI (f+1)) (g++[h.I]))
  else some g
def QgJ(N:Nat)(e:WQ):Option (List Int):=grd (e.R.length*8<=140737488355328) <| bnd (QcG N e.l) λf=>grd ((e.R.length+f.length)*8<=140737488355328) <| bnd (Qa7 N e.g) λh=>grd (((e.R.length+f.length)+h.length)*8<=140737488355328) <| bnd (QeM N e N 0 ((e.R++f)++h)) λj=>some j
def QcO(N:Nat)(j:WQ):Nat->Int->(List Bool)->(List Int)->Option (List Bool)
 |0,_,_,_=>none
 |n+1,f,g,e=>
  grd (e.length<=140737488355328) <|
  bif (decide (f<(e.length:Int)))then(bnd (Xd e f) λq=>
   bif (q==0)then QcO N j n (wI (f+1)) g e
   else bnd (Xd e f) λr=>
   bnd (Xd g (wU (r-1))) λs=>
   bif s then QcO N j n (wI (f+1)) g e
   else bnd (Xd e f) λp=>
   bnd (Xd g (wU (p-1))) λu=>
   bnd (Xd e f) λk=>
   bnd (Xd j.T (wU (k-1))) λo=>
   bnd (Qf9 N o) λh=>
   grd ((e.length+h.length)*8<=140737488355328) <|
   QcO N j n (wI (f+1)) (g.set (wU (p-1)).toNat true) (e++h))
  else some g
def Qfz(N:Nat)(e:WQ):Option (List Bool):=bnd (Qei N e) λg=>bif (!g)then some []else grd (0<=(e.T.length:Int)/\(e.T.length:Int).toNat<=140737488355328) <| bnd (QgJ N e) λh=>bnd (QcO N e N 0 (List.replicate (e.T.length:Int).toNat false) h) λf=>some f
def Qbo(N:Nat)(h:WQ)(g:List Bool):Nat->Int->(List Int)->Option (List Int)
 |0,_,_=>none
 |n+1,f,e=>
  grd (e.length<=140737488355328) <|
  bif (decide (f<(e.length:Int)))then(bnd (Xd e f) λj=>
   bif (j != 0)then(bnd (Xd e f) λk=>
    bnd (Xd g (wU (k-1))) λo=>
    bif (!o)then(bnd (Xd e f) λp=>
     Qbo N h g n (wI (f+1)) (e.set f.toNat 0))
    else Qbo N h g n (wI (f+1)) e)
   else Qbo N h g n (wI (f+1)) e)
  else some e
def Qdj(N:Nat)(e:WQ):Option (WQ×Int):=bnd (Qei N e) λj=>bif (!j)then some (zWd,19)else bnd (Qfz N e) λk=>bnd (Qa7 N e.v) λo=>bnd (Qbo N e k N 0 o) λf=>bnd (Qb5 N e.v f) λh=>some ((WQ.mk e.c e.T e.l e.g h.1 e.m e.R),0)
def Qab(N:Nat)(e:Int):Option (Um×Int×Int):=some ((Um.mk zHp (Ws.mk [] [] []) (WG.mk []) (WG.mk []) [] []),0,e)
def QcA(N:Nat)(f e g:Int):Option (Wx×Bool):=bif (f==1)then(bif (decide (e<=2147483647))then some ((Wx.mk f (wI (Zu .u64 e 2147483647)) (wW g)),(decide (g<=4294967295)))else some ((Wx.mk f (wI (Zu .u64 e 2147483647)) (wW g)),false))else some ((Wx.mk f (wI (Zu .u64 e 2147483647)) 0),(decide (e<=2147483647)))
def Qda(N:Nat)(f:WR)(e:Wx):Option Bool:=bnd (QcW N e) λg=>bif g then(bif (e.k != 0)then(bnd (QcI N e) λh=>bnd (QeK N f h) λj=>some (j != (-1)))else some false)else some false
def Qej(N:Nat)(e:Ws)(f:Int):Option (Ws×Int×Int×Int):=bnd (Qcd N e) λg=>bif (!g)then some ((Ws.mk [] [] []),0,0,1)else bif (f==0)then some ((Ws.mk [] [] []),0,0,1)else bif ((e.x.length:Int)==0)then some ((Ws.mk [] [] []),0,0,9)else bnd (Xd e.x (wI ((e.x.length:Int)-1))) λh=>bnd (Qf7 N e h.O (e.S.length:Int)) λj=>bnd (Xd e.x (wI ((e.x.length:Int)-1))) λk=>bif (decide (j>=k.C0))then some ((Ws.mk [] [] []),0,0,10)else bif ((e.i.length:Int)==4096)then some ((Ws.mk [] [] []),0,0,18)else grd (e.i.length*8<=140737488355328) <| grd ((e.i.length+1)*8<=140737488355328) <| grd (e.S.length*24<=140737488355328) <| grd ((e.S.length+1)*24<=140737488355328) <| some ((Ws.mk (e.S++[(UI.mk (wI ((e.i.length:Int)+1)) f true)]) e.x (e.i++[(e.S.length:Int)])),(e.S.length:Int),(wI ((e.i.length:Int)+1)),0)
def QfL(N:Nat)(e:WR):Option Int:=bnd (QaQ N e) λf=>bif (!f)then some 0 else some (wI (e.p.tdiv 4))
def QbD(N:Nat)(e:List Wr):Nat->Int->Int->Option Int
 |0,_,_=>none
 |n+1,g,f=>
  bif (decide (f<(e.length:Int)))then(bnd (Xd e f) λh=>
   bif (h.k != 0)then QbD N e n (wI (g+1)) (wI (f+1))
   else QbD N e n g (wI (f+1)))
  else some g
def QcZ(N:Nat)(e:List Wr):Option Int:=bnd (QbD N e N 0 0) λf=>some f
def Qek(N:Nat)(e:Wh)(q:Int):Option (Wh×Int×Bool):=grd (e.p.length*32<=140737488355328) <| bnd (QfL N e.c) λz=>bnd (QcZ N e.p) λA=>jn (λ(_:Unit)=>bnd (Qbn N e.p 1) λf=>bif (decide (f<0))then some (zHp,0,false)else bif (decide (A>=z))then some (zHp,0,false)else bnd (QbU N e.p f e.s) λj=>bnd (Xd j.1 f) λr=>bnd (Xd j.1 f) λv=>bnd (Xd j.1 f) λg=>some ((Wh.mk e.c e.w (j.1.set f.toNat (Wr.mk g.k g.s (wI (v.u+q)) g.P)) e.s f),(wU (wI ((wI (4096+(wI (f*e.c.W))))+r.u))),true)) λo=>bif (decide (e.b<0))then o ()else bnd (Xd e.p e.b) λB=>bif (B.s != e.s)then o ()else bnd (Xd e.p e.b) λD=>bif (decide ((wI (D.u+q))>e.c.W))then o ()else bif (decide (A>z))then o ()else bnd (Xd e.p e.b) λx=>bnd (Xd e.p e.b) λy=>bnd (Xd e.p e.b) λh=>some ((Wh.mk e.c e.w (e.p.set e.b.toNat (Wr.mk h.k h.s (wI (y.u+q)) h.P)) e.s e.b),(wU (wI ((wI (4096+(wI (e.b*e.c.W))))+x.u))),true)
def QeY(N:Nat)(j:WR)(k:List Wr)(o e f:Int):Option (List Wr×Int):=bnd (QeK N j f) λg=>bif (decide (g<1))then some ([],1)else bif (decide (e<0))then some ([],1)else bif (decide (e>1))then some ([],1)else bnd (QdE N k o g (Wr.mk 2 e f 0) (Wr.mk 3 e 0 0)) λh=>some (h.1,h.2)
def QeZ(N:Nat)(e:Wh)(h g:Int):Option (Wh×Int×Bool):=bnd (Qbn N e.p g) λf=>bif (decide (f<0))then some (zHp,0,false)else bnd (QcZ N e.p) λj=>bnd (QfL N e.c) λk=>bif (decide ((wI (j+g))>k))then some (zHp,0,false)else bnd (QeY N e.c e.p f e.s h) λo=>some ((Wh.mk e.c e.w o.1 e.s e.b),(wU (wI (4096+(wI (f*e.c.W))))),true)
def QbJ(N:Nat)(e:Wh)(j:Int)(f:Wx):Option (Wh×Int):=bnd (Qcv N f) λh=>bnd (Qaa N e) λk=>bif (!k)then some (zHp,1)else bif (h.2 != 0)then some (zHp,1)else grd (0<=f.n/\f.n.toNat*8<=140737488355328) <| grd ((1+f.n.toNat)*8<=140737488355328) <| bnd (Qcf N e.w j ([h.1]++(List.replicate f.n.toNat (0:Int)))) λg=>bif (g.2 != 0)then some (zHp,g.2)else some ((Wh.mk e.c g.1 e.p e.s e.b),0)
def QeN(N:Nat)(g:Wh)(h:Wx):Option (Wh×Int×Int):=bnd (Qaa N g) λA=>bif (!A)then some (zHp,0,1)else bnd (Qda N g.c h) λB=>bif (!B)then some (zHp,0,1)else bnd (QcI N h) λj=>bnd (QeK N g.c j) λx=>bnd (Qek N g j) λe=>jn (λ(y:Int) (D:Bool) (E k:Int) (o:List Int) (q:List Wr) (r u:Int)=>bif (!D)then some (zHp,0,3)else bnd (QbJ N (Wh.mk (WR.mk E k) o q r u) y h) λv=>some (v.1,y,0)) λz=>bif (decide (x>0))then(bnd (QeZ N g j x) λf=>z f.2.1 f.2.2 f.1.c.W f.1.c.p f.1.w f.1.p f.1.s f.1.b)else z e.2.1 e.2.2 e.1.c.W e.1.c.p e.1.w e.1.p e.1.s e.1.b
def Qel(N:Nat)(f:Um)(K:Wx):Option (Um×Int×Int):=bnd (QbF N f) λO=>bif (!O)then some ((Um.mk zHp (Ws.mk [] [] []) (WG.mk []) (WG.mk []) [] []),0,19)else bnd (QeN N f.h K) λk=>jn (λ(T L Z x8:Int) (x9:List Int) (U:List Wr) (V Y:Int) (q:List UI) (r:List UU) (u:List Int) (y z:List W8) (A:List UE) (B:List Int) (D E:Int) (G:List Int) (H:List Wr) (I J:Int)=>bif (L != 0)then some ((Um.mk zHp (Ws.mk [] [] []) (WG.mk []) (WG.mk []) [] []),0,L)else some ((Um.mk (Wh.mk (WR.mk D E) G H I J) (Ws.mk q r u) (WG.mk y) (WG.mk z) A B),T,0)) λM=>bif (k.2.2==3)then(bnd (Qbx N f) λj=>bif (j.2.2 != 0)then some ((Um.mk zHp (Ws.mk [] [] []) (WG.mk []) (WG.mk []) [] []),0,j.2.2)else bnd (QeN N j.1.h K) λo=>M o.2.1 o.2.2 j.1.h.c.W j.1.h.c.p j.1.h.w j.1.h.p j.1.h.s j.1.h.b j.1.l.S j.1.l.x j.1.l.i j.1.g.e j.1.v.e j.1.P j.1.R o.1.c.W o.1.c.p o.1.w o.1.p o.1.s o.1.b)else M k.2.1 k.2.2 f.h.c.W f.h.c.p f.h.w f.h.p f.h.s f.h.b f.l.S f.l.x f.l.i f.g.e f.v.e f.P f.R k.1.c.W k.1.c.p k.1.w k.1.p k.1.s k.1.b
def QgX(N:Nat)(e:Iu):Option Bool:=bif (decide (e.Tag>=1))then(bif (decide (e.Tag<=3))then(bif (decide (e.Index>=0))then(bif (decide (e.Index<=65535))then(bif (decide (e.J>=1))then some (decide (e.J<=4294967295))else some false)else some false)else some false)else some false)else some false
def Qb8(N:Nat)(e:Iu):Option (Int×Int):=bnd (QgX N e) λf=>bif (!f)then some (0,1)else some ((wU ((wU ((wU e.Tag)+(Kj .u64 (wU e.Index) 2)))+(Kj .u64 (wU e.J) 18))),0)
def QcB(N:Nat)(e:Um)(k:Int):Option (Um×Int×Int):=bif (k==0)then some (e,0,0)else bnd (Qej N e.l k) λf=>bif (f.2.2.2 != 0)then(bnd (Qab N f.2.2.2) λj=>some (j.1,j.2.1,j.2.2))else bnd (Qb8 N (Iu.mk 1 f.2.1 f.2.2.1)) λo=>some ((Um.mk e.h f.1 e.g e.v e.P e.R),o.1,0)
def QdH(N:Nat)(e:Um)(u v w:Int):Option (Um×Int×Int):=bif (decide ((e.P.length:Int)>0))then(bnd (Qab N 15) λg=>some (g.1,g.2.1,g.2.2))else bnd (QcA N u v w) λj=>jn (λ(_:Unit)=>bnd (Qab N 1) λk=>some (k.1,k.2.1,k.2.2)) λr=>bif (!j.2)then r ()else bnd (Qda N e.h.c j.1) λx=>bif (!x)then r ()else bnd (Qej N e.l 1) λs=>bif (s.2.2.2 != 0)then(bnd (Qab N s.2.2.2) λo=>some (o.1,o.2.1,o.2.2))else bnd (Qel N e j.1) λf=>bif (f.2.2 != 0)then(bnd (Qab N f.2.2) λp=>some (p.1,p.2.1,p.2.2))else bnd (QcB N f.1 f.2.1) λq=>some (q.1,q.2.1,q.2.2)
def QcC(N:Nat)(e:Int):Option (Iu×Int):=bif (e==0)then some ((Iu.mk 0 0 0),5)else bnd (Qb8 N (Iu.mk (wI (Zu .u64 e 3)) (wI (Zu .u64 (YL .u64 e 2) 65535)) (wI (YL .u64 e 18)))) λf=>bif (f.2 != 0)then some ((Iu.mk 0 0 0),6)else bif (f.1 != e)then some ((Iu.mk 0 0 0),6)else some ((Iu.mk (wI (Zu .u64 e 3)) (wI (Zu .u64 (YL .u64 e 2) 65535)) (wI (YL .u64 e 18))),0)
def QeO(N:Nat)(e:Ws)(f g:Int):Option (Int×Int):=bnd (Qcd N e) λh=>bif (!h)then some (0,1)else bif (decide (g<1))then some (0,6)else bif (decide (g>(e.i.length:Int)))then some (0,6)else bnd (Xd e.i (wI (g-1))) λj=>bif (j != f)then some (0,6)else bif (decide (f>=(e.S.length:Int)))then some (0,7)else bnd (Xd e.S f) λk=>bif (k.J != g)then some (0,7)else bnd (Xd e.S f) λo=>bif (!o.V)then some (0,8)else bnd (Xd e.S f) λp=>some (p.a,0)
def QdI(N:Nat)(f:WG)(g h:Int):Option (Int×Int):=bnd (Qcc N f) λj=>bif (!j)then some (0,1)else bif (decide (g<0))then some (0,6)else bif (decide (g>=(f.e.length:Int)))then some (0,6)else bif (decide (h<1))then some (0,6)else bnd (Xd f.e g) λk=>bif (decide (h>k.G))then some (0,6)else bnd (Xd f.e g) λo=>bif (decide (h<o.G))then some (0,8)else bnd (Xd f.e g) λp=>bif (!p.V)then some (0,8)else bnd (Xd f.e g) λq=>some (q.a,0)
def QaY(N:Nat)(f:Um)(h:Int):Option (Int×Int):=bnd (QbF N f) λp=>bif (!p)then some (0,19)else bif (h==0)then some (0,0)else bnd (QcC N h) λe=>bif (e.2 != 0)then some (0,e.2)else bif (e.1.Tag==1)then(bnd (QeO N f.l e.1.Index e.1.J) λj=>some (j.1,j.2))else bif (e.1.Tag==2)then(bnd (QdI N f.g e.1.Index e.1.J) λk=>some (k.1,k.2))else bnd (QdI N f.v e.1.Index e.1.J) λo=>some (o.1,o.2)
def QbV(N:Nat)(f:Um)(g:Int):Option (Int×Int):=bnd (QaY N f g) λe=>bif (e.2==0)then(bif (e.1==0)then some (0,5)else some (e.1,e.2))else some (e.1,e.2)
def Qc0(N:Nat)(g:Um)(k f:Int)(o:Bool):Option (Int×Int×Int):=bnd (QbV N g k) λe=>bif (e.2 != 0)then some (0,0,e.2)else bnd (Qb7 N g.h e.1) λj=>bif (decide (f>=(wU j.1.n)))then some (0,0,2)else bnd (QbO N j.1 (wI f)) λp=>bif (!(p==o))then some (0,0,4)else some (e.1,(wI f),0)
def Qc1(N:Nat)(g:Wh)(h e:Int):Option (Int×Int):=bnd (Qb7 N g h) λf=>bif (f.2 != 0)then some (0,f.2)else bif (decide (e<0))then some (0,2)else bif (decide (e>=f.1.n))then some (0,2)else bnd (Qbi N g.w (wU ((wU (h+1))+(wU e)))) λj=>some (j.1,j.2)
def Qci(N:Nat)(e:Wh)(f g j:Int):Option (Wh×Int):=bnd (Qc1 N e f g) λh=>bif (h.2 != 0)then some (zHp,h.2)else bnd (QdD N e.w (wU ((wU (f+1))+(wU g))) j) λk=>some ((Wh.mk e.c k.1 e.p e.s e.b),0)
def Qc2(N:Nat)(e:Um)(j w x y:Int):Option (Um×Int×Int):=jn (λ(z A B:Int)=>bif (B != 0)then(bnd (Qab N B) λk=>some (k.1,k.2.1,k.2.2))else bnd (Qc1 N e.h z A) λD=>bif (j==6)then some (e,D.1,0)else bif (j==8)then(bnd (QcB N e D.1) λo=>some (o.1,o.2.1,o.2.2))else jn (λ(p:Int)=>bnd (Qci N e.h z A p) λq=>some ((Um.mk q.1 e.l e.g e.v e.P e.R),0,0)) λE=>bif (j==9)then(bnd (QaY N e y) λr=>bif (r.2 != 0)then(bnd (Qab N r.2) λf=>some (f.1,f.2.1,f.2.2))else E r.1)else E y) λG=>bif (j==8)then(bnd (Qc0 N e w x true) λs=>G s.1 s.2.1 s.2.2)else bnd (Qc0 N e w x (j==9)) λu=>G u.1 u.2.1 u.2.2
def QcD(N:Nat)(e:Um)(j o z:Int):Option (Um×Int×Int):=jn (λ(A:Bool)=>bif A then(bnd (QbV N e o) λp=>bif (p.2 != 0)then(bnd (Qab N p.2) λq=>some (q.1,q.2.1,q.2.2))else bnd (Qb7 N e.h p.1) λx=>bif (j==4)then some (e,(wU x.1.n),0)else some (e,(wU x.1.k),0))else bif (j==10)then(bnd (QaY N e o) λr=>bif (r.2 != 0)then(bnd (Qab N r.2) λs=>some (s.1,s.2.1,s.2.2))else bnd (QaY N e z) λu=>bif (u.2 != 0)then(bnd (Qab N u.2) λv=>some (v.1,v.2.1,v.2.2))else bif (r.1==u.1)then some (e,1,0)else some (e,0,0))else bnd (QaY N e o) λw=>bif (w.2 != 0)then(bnd (Qab N w.2) λf=>some (f.1,f.2.1,f.2.2))else bnd (QcB N e w.1) λg=>some (g.1,g.2.1,g.2.2)) λy=>bif (j==4)then y true else y (j==5)
def Qb9(N:Nat)(g:WG)(h:Int):Nat->Int->Option (Ex (WG×Int×Int×Int) Unit)
 |0,_=>none
 |n+1,f=>
  grd (g.e.length<=140737488355328) <|
  bif (decide (f<(g.e.length:Int)))then(bnd (Xd g.e f) λk=>
   bif (!k.V)then(bnd (Xd g.e f) λo=>
    bif (decide (o.G<4294967295))then(bnd (Xd g.e f) λj=>
     bnd (Xd g.e f) λq=>
     bnd (Xd (g.e.set f.toNat (W8.mk (wI (j.G+1)) h true)) f) λp=>
     some (.ret ((WG.mk (g.e.set f.toNat (W8.mk (wI (j.G+1)) h true))),f,p.G,0)))
    else Qb9 N g h n (wI (f+1)))
   else Qb9 N g h n (wI (f+1)))
  else some (.nxt ())
def QcS(N:Nat)(f:WG)(g:Int):Option (WG×Int×Int×Int):=bnd (Qcc N f) λh=>bif (!h)then some ((WG.mk []),0,0,1)else grd (f.e.length*24<=140737488355328) <| bnd (Qb9 N f g N 0) λe=>exK e (λr=>some r) λj=>grd (f.e.length<=140737488355328) <| bif ((f.e.length:Int)==64)then some ((WG.mk []),0,0,18)else grd ((f.e.length+1)*24<=140737488355328) <| grd (f.e.length<=140737488355328) <| some ((WG.mk (f.e++[(W8.mk 1 g true)])),(f.e.length:Int),1,0)
def Qdk(N:Nat)(f:Um)(q u:Int):Option (Um×Int×Int):=bnd (QbV N f u) λk=>bif (k.2 != 0)then(bnd (Qab N k.2) λo=>some (o.1,o.2.1,o.2.2))else jn (λ(w:Int) (x:List W8)=>bnd (QcS N (WG.mk x) k.1) λj=>bif (j.2.2.2 != 0)then(bnd (Qab N j.2.2.2) λp=>some (p.1,p.2.1,p.2.2))else jn (λ(y z:List W8)=>bnd (Qb8 N (Iu.mk w j.2.1 j.2.2.1)) λA=>some ((Um.mk f.h f.l (WG.mk y) (WG.mk z) f.P f.R),A.1,0)) λr=>bif (q==15)then r f.g.e j.1.e else r j.1.e f.v.e) λs=>bif (q==15)then s 3 f.v.e else s 2 f.g.e
def QdJ(N:Nat)(e:Ws)(f g:Int):Option (Ws×Int):=bnd (QeO N e f g) λh=>bif (h.2 != 0)then some ((Ws.mk [] [] []),h.2)else grd (e.S.length*24<=140737488355328) <| bnd (Xd e.S f) λj=>some ((Ws.mk (e.S.set f.toNat (UI.mk g 0 false)) e.x e.i),0)
def Qgz(N:Nat)(f:WG)(g:Int)(h:W8):Option WG:=grd (f.e.length*24<=140737488355328) <| bnd (Xd f.e g) λj=>some (WG.mk (f.e.set g.toNat h))
def QcE(N:Nat)(e:WG)(f g:Int):Option (WG×Int):=bnd (QdI N e f g) λh=>bif (h.2 != 0)then some ((WG.mk []),h.2)else bnd (Qgz N e f (W8.mk g 0 false)) λj=>some (j,0)
def QdK(N:Nat)(e:Um)(j p:Int):Option (Um×Int×Int):=bif (p==0)then(bnd (Qab N 5) λq=>some (q.1,q.2.1,q.2.2))else bnd (QaY N e p) λu=>bif (u.2 != 0)then(bnd (Qab N u.2) λr=>some (r.1,r.2.1,r.2.2))else bnd (QcC N p) λf=>jn (λ(_:Unit)=>bif (j==12)then(bnd (QdJ N e.l f.1.Index f.1.J) λw=>some ((Um.mk e.h w.1 e.g e.v e.P e.R),0,0))else bif (j==14)then(bnd (QcE N e.g f.1.Index f.1.J) λx=>some ((Um.mk e.h e.l x.1 e.v e.P e.R),0,0))else bnd (QcE N e.v f.1.Index f.1.J) λy=>some ((Um.mk e.h e.l e.g y.1 e.P e.R),0,0)) λk=>jn (λ(_:Unit)=>bnd (Qab N 4) λs=>some (s.1,s.2.1,s.2.2)) λo=>bif (j==12)then(bif (f.1.Tag != 1)then o ()else bif (j==14)then(bif (f.1.Tag != 2)then o ()else bif (j==16)then(bif (f.1.Tag != 3)then o ()else k ())else k ())else bif (j==16)then(bif (f.1.Tag != 3)then o ()else k ())else k ())else bif (j==14)then(bif (f.1.Tag != 2)then o ()else bif (j==16)then(bif (f.1.Tag != 3)then o ()else k ())else k ())else bif (j==16)then(bif (f.1.Tag != 3)then o ()else k ())else k ()
def Qga(N:Nat)(e:Ws)(f:Int)(g:Bool):Option (Ws×Int):=bnd (Qcd N e) λj=>bif (!j)then some ((Ws.mk [] [] []),1)else bif (decide (f<0))then some ((Ws.mk [] [] []),1)else bif (decide (f>64))then some ((Ws.mk [] [] []),1)else jn (λ(_:Unit)=>bif ((e.x.length:Int)==64)then some ((Ws.mk [] [] []),17)else grd (e.x.length*24<=140737488355328) <| grd ((e.x.length+1)*24<=140737488355328) <| some ((Ws.mk e.S (e.x++[(UU.mk (e.S.length:Int) f g)]) e.i),0)) λh=>bif (!g)then(bif ((e.x.length:Int)==0)then some ((Ws.mk [] [] []),9)else h ())else h ()
def Qed(N:Nat)(f:Ws)(g:Int):Option (Ws×Int):=bnd (Qga N f g false) λe=>some (e.1,e.2)
def QgA(N:Nat)(e:Ws)(f:Int):Option Ws:=bnd (Xd e.x f) λg=>grd (0<=0/\0<=g.O/\g.O<=(e.S.length:Int)) <| grd ((min g.O.toNat e.S.length)*24<=140737488355328) <| grd (0<=0/\0<=f/\f<=(e.x.length:Int)) <| grd ((min f.toNat e.x.length)*24<=140737488355328) <| some (Ws.mk (e.S.take g.O.toNat) (e.x.take f.toNat) e.i)
def QeP(N:Nat)(e:Ws):Option (Ws×Int):=bnd (Qcd N e) λf=>bif (!f)then some ((Ws.mk [] [] []),1)else bif ((e.x.length:Int)==0)then some ((Ws.mk [] [] []),9)else bnd (Xd e.x (wI ((e.x.length:Int)-1))) λg=>bif g.B0 then some ((Ws.mk [] [] []),9)else bnd (QgA N e (wI ((e.x.length:Int)-1))) λh=>some (h,0)
def QdL(N:Nat)(e:Um)(w f:Int):Option (Um×Int×Int):=bif (w==17)then(bif (decide (f>64))then(bnd (Qab N 1) λj=>some (j.1,j.2.1,j.2.2))else bnd (Qed N e.l (wI f)) λk=>bif (k.2 != 0)then(bnd (Qab N k.2) λo=>some (o.1,o.2.1,o.2.2))else some ((Um.mk e.h k.1 e.g e.v e.P e.R),0,0))else bnd (QaY N e f) λp=>bif (p.2 != 0)then(bnd (Qab N p.2) λq=>some (q.1,q.2.1,q.2.2))else bnd (QeP N e.l) λr=>bif (r.2 != 0)then(bnd (Qab N r.2) λs=>some (s.1,s.2.1,s.2.2))else bnd (QcB N (Um.mk e.h r.1 e.g e.v e.P e.R) p.1) λu=>some (u.1,u.2.1,u.2.2)
def QbW(N:Nat)(e:Wh)(h j:Int):Option Wh:=grd (e.p.length*32<=140737488355328) <| bnd (Qfo N e h) λf=>bnd (Xd e.p f) λo=>bnd (Xd e.p f) λg=>some (Wh.mk e.c e.w (e.p.set f.toNat (Wr.mk g.k g.s g.u (wI (o.P+j)))) e.s e.b)
def Qdl(N:Nat)(k:Wh)(f:List UE)(j:Int):Option (Wh×List UE×Int):=bnd (Qce N k f) λo=>bif (!o)then some (zHp,[],19)else bif (j==0)then some (zHp,[],5)else bnd (Qgw N f j) λe=>bif (decide (e<0))then some (zHp,[],12)else grd (f.length*16<=140737488355328) <| bnd (Xd f e) λg=>bnd (Xd f e) λh=>bnd (Xd (f.set e.toNat (UE.mk h.a (wI (g.M-1)))) e) λp=>bif (p.M==0)then(grd (0<=0/\0<=e/\e<=(f.length:Int)) <| grd (0<=(wI (e+1))/\(wI (e+1))<=(f.length:Int)/\(f.length:Int)<=(f.length:Int)) <| grd (e.toNat≠f.length/\(e.toNat+(f.length-(wI (e+1)).toNat))<=f.length) <| bnd (QbW N k j (-1)) λq=>some (q,(((((f.set e.toNat (UE.mk h.a (wI (g.M-1)))).take e.toNat)++(((f.set e.toNat (UE.mk h.a (wI (g.M-1)))).drop (wI (e+1)).toNat).take (f.length-(wI (e+1)).toNat)))++((f.set e.toNat (UE.mk h.a (wI (g.M-1)))).drop (e.toNat+(f.length-(wI (e+1)).toNat)))).take (e.toNat+(f.length-(wI (e+1)).toNat))),0))else bnd (QbW N k j (-1)) λr=>some (r,(f.set e.toNat (UE.mk h.a (wI (g.M-1)))),0)
def Qdw(N:Nat)(e:Wh)(f:Int):Option Bool:=bnd (Qal N e) λg=>bnd (Qbs N g.1 f) λh=>some h
def Qbp(N:Nat)(e:Wh)(h:Int):Nat->Int->Int->Option Int
 |0,_,_=>none
 |n+1,g,f=>
  bif (decide (f<(e.p.length:Int)))then(bnd (Xd e.p f) λj=>
   bif (j.k==1)then(bnd (Xd e.p f) λo=>
    bif (decide (o.P>0))then Qbp N e h n (wI (g+1)) (wI (f+1))
    else Qbp N e h n g (wI (f+1)))
   else Qbp N e h n g (wI (f+1)))
  else some g
def QcN(N:Nat)(e:Wh)(f:Int):Option Bool:=bnd (Qbj N e) λh=>bif (!h)then some false else bnd (Qdw N e f) λj=>bif (!j)then some false else bnd (Qbp N e f N 0 0) λo=>bnd (Qfo N e f) λq=>bnd (Xd e.p q) λg=>bif (g.k==1)then(bif (g.P==0)then some (decide (o>=(wI (e.c.p.tdiv 4))))else some false)else some false
def Qfl(N:Nat)(h:Wh)(e:List UE)(f:Int):Option (Wh×List UE×Int×Int):=bnd (Qce N h e) λr=>bif (!r)then some (zHp,[],0,19)else bif (f==0)then some (zHp,[],0,5)else bnd (Qdw N h f) λs=>bif (!s)then some (zHp,[],0,1)else bnd (Qgw N e f) λg=>jn (λ(_:Unit)=>grd (e.length*16<=140737488355328) <| jn (λ(k:List UE)=>bnd (QbW N h f 1) λo=>some (o,k,(wU (f+1)),0)) λq=>bif (decide (g>=0))then(bnd (Xd e g) λu=>bnd (Xd e g) λp=>q (e.set g.toNat (UE.mk p.a (wI (u.M+1)))))else grd ((e.length+1)*16<=140737488355328) <| q (e++[(UE.mk f 1)])) λj=>bif (decide (g>=0))then(bnd (Xd e g) λv=>bif (v.M==1000)then some (zHp,[],0,18)else bif (decide (g<0))then(bif ((e.length:Int)==64)then some (zHp,[],0,18)else bnd (QcN N h f) λw=>bif w then some (zHp,[],0,18)else j ())else bnd (QcN N h f) λx=>bif x then some (zHp,[],0,18)else j ())else bif (decide (g<0))then(bif ((e.length:Int)==64)then some (zHp,[],0,18)else bnd (QcN N h f) λy=>bif y then some (zHp,[],0,18)else j ())else bnd (QcN N h f) λz=>bif z then some (zHp,[],0,18)else j ()
def QeQ(N:Nat)(e:Um)(r s:Int):Option (Um×Int×Int):=bnd (QbV N e s) λj=>bif (j.2 != 0)then(bnd (Qab N j.2) λo=>some (o.1,o.2.1,o.2.2))else bif (r==20)then(bnd (Qdl N e.h e.P j.1) λk=>bif (k.2.2 != 0)then(bnd (Qab N k.2.2) λp=>some (p.1,p.2.1,p.2.2))else some ((Um.mk k.1 e.l e.g e.v k.2.1 e.R),0,0))else bnd (Qfl N e.h e.P j.1) λf=>bif (f.2.2.2 != 0)then(bnd (Qab N f.2.2.2) λq=>some (q.1,q.2.1,q.2.2))else some ((Um.mk f.1 e.l e.g e.v f.2.1 e.R),f.2.2.1,0)
def Qag(N:Nat)(f:Um)(e g w W:Int):Option (Um×Int×Int):=bnd (QbF N f) λY=>bif (!Y)then(bnd (Qab N 19) λx=>some (x.1,x.2.1,x.2.2))else jn (λ(Z:Bool)=>bif Z then(bnd (QdH N f e g w) λy=>some (y.1,y.2.1,y.2.2))else jn (λ(x8:Bool)=>bif x8 then(bnd (Qc2 N f e g w W) λz=>some (z.1,z.2.1,z.2.2))else jn (λ(A:Bool)=>bif A then(bnd (QcD N f e g w) λh=>some (h.1,h.2.1,h.2.2))else jn (λ(B:Bool)=>bif B then(bnd (Qdk N f e g) λj=>some (j.1,j.2.1,j.2.2))else jn (λ(D:Bool)=>bif D then(bnd (QdK N f e g) λk=>some (k.1,k.2.1,k.2.2))else jn (λ(E:Bool)=>bif E then(bnd (QdL N f e g) λo=>some (o.1,o.2.1,o.2.2))else jn (λ(G:Bool)=>bif G then(bnd (QeQ N f e g) λp=>some (p.1,p.2.1,p.2.2))else bnd (Qab N 1) λq=>some (q.1,q.2.1,q.2.2)) λr=>bif (e==19)then r true else r (e==20)) λs=>bif (e==17)then s true else s (e==18)) λu=>bif (e==12)then u true else jn (λ(H:Bool)=>u H) λv=>bif (e==14)then v true else v (e==16)) λK=>bif (e==13)then K true else K (e==15)) λL=>bif (e==4)then L true else jn (λ(I:Bool)=>L I) λM=>bif (e==5)then M true else jn (λ(J:Bool)=>M J) λO=>bif (e==10)then O true else O (e==11)) λR=>bif (e==6)then R true else jn (λ(x7:Bool)=>R x7) λS=>bif (e==7)then S true else jn (λ(x6:Bool)=>S x6) λT=>bif (e==8)then T true else T (e==9)) λU=>bif (e==1)then U true else jn (λ(x3:Bool)=>U x3) λV=>bif (e==2)then V true else V (e==3)
def QeE(N:Nat)(p q:Um)(k r e:Int):Option OA:=jn (λ(f:Bool)=>jn (λ(g:Bool)=>bif (k==19)then(bif (e==0)then some (OA.mk f g r)else some (OA.mk f g 0))else some (OA.mk f g 0)) λo=>bif (e==0)then o (p.h.s != q.h.s)else o false) λj=>bif (e==3)then j true else bif (e==18)then j (k==19)else j false
def Qc3(N:Nat)(f:Ws)(e:Int):Option Int:=bif (e==0)then some 0 else bnd (Qej N f e) λg=>some g.2.2.2
def QfA(N:Nat)(e:WQ)(h j k:Int)(o:Bool):Option Int:=bif (decide ((e.m.length:Int)>0))then some 15 else bnd (QcA N h j k) λf=>bif (!f.2)then some 1 else bnd (Qda N e.c f.1) λp=>bif (!p)then some 1 else bnd (Qc3 N e.l 1) λg=>bif (g != 0)then some g else bif o then some 3 else some 0
def QaE(N:Nat)(f:WQ)(h:Int):Option (Int×Int):=bnd (Qei N f) λp=>bif (!p)then some (0,19)else bif (h==0)then some (0,0)else bnd (QcC N h) λe=>bif (e.2 != 0)then some (0,e.2)else bif (e.1.Tag==1)then(bnd (QeO N f.l e.1.Index e.1.J) λj=>some (j.1,j.2))else bif (e.1.Tag==2)then(bnd (QdI N f.g e.1.Index e.1.J) λk=>some (k.1,k.2))else bnd (QdI N f.v e.1.Index e.1.J) λo=>some (o.1,o.2)
def Qem(N:Nat)(f:WQ)(g:Int):Option (Int×Int):=bnd (QaE N f g) λe=>bif (e.2==0)then(bif (e.1==0)then some (0,5)else some (e.1,e.2))else some (e.1,e.2)
def QfX(N:Nat)(e:WQ)(f o h p:Int):Option Int:=bnd (Qem N e o) λg=>bif (g.2 != 0)then some g.2 else bnd (Xd e.T (wU (g.1-1))) λj=>bif (decide (h>=(wU j.H.n)))then some 2 else jn (λ(q:Bool)=>bnd (QbO N j.H (wI h)) λr=>bif (!(r==q))then some 4 else bif (f==8)then(bnd (Xd j.D h) λs=>bnd (Qc3 N e.l s) λu=>some u)else bif (f==9)then(bnd (QaE N e p) λv=>some v.2)else some g.2) λk=>bif (f==8)then k true else k (f==9)
def QfB(N:Nat)(k:WQ)(f e:Int):Option Int:=bif (e==0)then some 5 else bnd (QaE N k e) λg=>bif (g.2 != 0)then some g.2 else bnd (QcC N e) λh=>jn (λ(o:Int)=>bif (f==16)then(bif (h.1.Tag != 3)then some 4 else some 0)else bif (h.1.Tag != o)then some 4 else some 0) λj=>bif (f==14)then j 2 else j 1
def Qgl(N:Nat)(f:WQ)(k o:Int):Option Int:=bnd (Qem N f o) λh=>bif (h.2 != 0)then some h.2 else jn (λ(p:List W8)=>bnd (QcS N (WG.mk p) h.1) λq=>some q.2.2.2) λj=>bif (k==15)then j f.v.e else j f.g.e
def QfY(N:Nat)(e:WQ)(j f:Int):Option Int:=bif (j==17)then(bif (decide (f>64))then some 1 else bnd (Qed N e.l (wI f)) λk=>some k.2)else bnd (QaE N e f) λg=>bif (g.2 != 0)then some g.2 else bnd (QeP N e.l) λh=>bif (h.2 != 0)then some h.2 else bnd (Qc3 N h.1 g.1) λo=>some o
def QgK(N:Nat)(e:WQ)(j k:Int)(g:Bool):Option Int:=bnd (Qem N e k) λh=>bif (h.2 != 0)then some h.2 else bnd (Qfq N e h.1) λf=>bif (j==20)then(bif (decide (f<0))then some 12 else some 0)else bif (decide (f>=0))then(bnd (Xd e.m f) λo=>bif (o.M==1000)then some 18 else bif (decide (f<0))then(bif ((e.m.length:Int)==64)then some 18 else bif g then some 18 else some 0)else bif g then some 18 else some 0)else bif (decide (f<0))then(bif ((e.m.length:Int)==64)then some 18 else bif g then some 18 else some 0)else bif g then some 18 else some 0
def Qgm(N:Nat)(e:WQ)(f h k:Int):Option Int:=jn (λ(_:Unit)=>bnd (Qem N e h) λo=>some o.2) λj=>bif (f==4)then j ()else bif (f==5)then j ()else bnd (QaE N e h) λg=>bif (g.2 != 0)then some g.2 else bif (f==10)then(bnd (QaE N e k) λp=>some p.2)else bnd (Qc3 N e.l g.1) λq=>some q
def QfC(N:Nat)(f:WQ)(e g p S:Int)(E:Bool):Option Int:=bnd (Qei N f) λT=>bif (!T)then some 19 else jn (λ(U:Bool)=>bif U then(bnd (QfA N f e g p E) λV=>some V)else jn (λ(W:Bool)=>bif W then(bnd (QfX N f e g p S) λY=>some Y)else jn (λ(q:Bool)=>bif q then(bnd (QfB N f e g) λr=>some r)else jn (λ(s:Bool)=>bif s then(bnd (Qgl N f e g) λu=>some u)else jn (λ(v:Bool)=>bif v then(bnd (QfY N f e g) λw=>some w)else jn (λ(x:Bool)=>bif x then(bnd (QgK N f e g E) λy=>some y)else jn (λ(z:Bool)=>bif z then(bnd (Qgm N f e g p) λA=>some A)else some 1) λh=>bif (e==4)then h true else jn (λ(B:Bool)=>h B) λj=>bif (e==5)then j true else jn (λ(D:Bool)=>j D) λk=>bif (e==10)then k true else k (e==11)) λo=>bif (e==19)then o true else o (e==20)) λG=>bif (e==17)then G true else G (e==18)) λH=>bif (e==13)then H true else H (e==15)) λI=>bif (e==12)then I true else jn (λ(Z:Bool)=>I Z) λJ=>bif (e==14)then J true else J (e==16)) λK=>bif (e==6)then K true else jn (λ(x6:Bool)=>K x6) λL=>bif (e==7)then L true else jn (λ(x5:Bool)=>L x5) λM=>bif (e==8)then M true else M (e==9)) λO=>bif (e==1)then O true else jn (λ(x2:Bool)=>O x2) λR=>bif (e==2)then R true else R (e==3)
def Qc4(N:Nat)(e:WQ)(h:Int):Option (WQ×Int):=bif (h==0)then some (e,0)else bnd (Qej N e.l h) λf=>bnd (Qb8 N (Iu.mk 1 f.2.1 f.2.2.1)) λj=>some ((WQ.mk e.c e.T f.1 e.g e.v e.m e.R),j.1)
def Qfm(N:Nat)(e:WQ)(h j k:Int):Option WQ:=grd (e.T.length*48<=140737488355328) <| bnd (Xd e.T (wU (h-1))) λf=>grd (f.D.length*8<=140737488355328) <| bnd (Xd f.D j) λo=>bnd (Xd e.T (wU (h-1))) λp=>some (WQ.mk e.c (e.T.set (wU (h-1)).toNat (In.mk f.H (f.D.set j.toNat k))) e.l e.g e.v e.m e.R)
def QeF(N:Nat)(f:WQ)(p k:Int):Option (WQ×Int):=jn (λ(q r:List W8) (s u w:Int)=>bnd (Qb8 N (Iu.mk s u w)) λx=>some ((WQ.mk f.c f.T f.l (WG.mk q) (WG.mk r) f.m f.R),x.1)) λo=>bif (p==15)then(bnd (QcS N f.v k) λh=>o f.g.e h.1.e 3 h.2.1 h.2.2.1)else bnd (QcS N f.g k) λj=>o j.1.e f.v.e 2 j.2.1 j.2.2.1
def Qfe(N:Nat)(e:WQ)(h:Int):Option WQ:=bnd (QcC N h) λf=>bif (f.1.Tag==1)then(bnd (QdJ N e.l f.1.Index f.1.J) λj=>some (WQ.mk e.c e.T j.1 e.g e.v e.m e.R))else bif (f.1.Tag==2)then(bnd (QcE N e.g f.1.Index f.1.J) λk=>some (WQ.mk e.c e.T e.l k.1 e.v e.m e.R))else bnd (QcE N e.v f.1.Index f.1.J) λo=>some (WQ.mk e.c e.T e.l e.g o.1 e.m e.R)
def QgL(N:Nat)(e:WQ)(f:Int):Option Int:=bnd (Qfq N e f) λg=>some g
def Qfr(N:Nat)(e:WQ)(r o p:Int):Option (WQ×Int):=bnd (QgL N e o) λf=>grd (e.m.length*24<=140737488355328) <| bif (r==20)then(bnd (Xd e.m f) λj=>bnd (Xd e.m f) λh=>bnd (Xd (e.m.set f.toNat (IA.mk h.I (wI (j.M-1)) h.B0)) f) λs=>bif (s.M==0)then(grd (0<=0/\0<=f/\f<=(e.m.length:Int)) <| grd (0<=(wI (f+1))/\(wI (f+1))<=(e.m.length:Int)/\(e.m.length:Int)<=(e.m.length:Int)) <| grd (f.toNat≠e.m.length/\(f.toNat+(e.m.length-(wI (f+1)).toNat))<=e.m.length) <| some ((WQ.mk e.c e.T e.l e.g e.v (((((e.m.set f.toNat (IA.mk h.I (wI (j.M-1)) h.B0)).take f.toNat)++(((e.m.set f.toNat (IA.mk h.I (wI (j.M-1)) h.B0)).drop (wI (f+1)).toNat).take (e.m.length-(wI (f+1)).toNat)))++((e.m.set f.toNat (IA.mk h.I (wI (j.M-1)) h.B0)).drop (f.toNat+(e.m.length-(wI (f+1)).toNat)))).take (f.toNat+(e.m.length-(wI (f+1)).toNat))) e.R),0))else some ((WQ.mk e.c e.T e.l e.g e.v (e.m.set f.toNat (IA.mk h.I (wI (j.M-1)) h.B0)) e.R),0))else bif (decide (f>=0))then(bnd (Xd e.m f) λq=>bnd (Xd e.m f) λk=>bnd (Xd (e.m.set f.toNat (IA.mk k.I (wI (q.M+1)) k.B0)) f) λu=>some ((WQ.mk e.c e.T e.l e.g e.v (e.m.set f.toNat (IA.mk k.I (wI (q.M+1)) k.B0)) e.R),u.B0))else grd ((e.m.length+1)*24<=140737488355328) <| some ((WQ.mk e.c e.T e.l e.g e.v (e.m++[(IA.mk o 1 p)]) e.R),p)
def Qfs(N:Nat)(f:WQ)(h s r G:Int)(I:OA):Option (WQ×Int×Int):=bnd (QfC N f h s r G I.Failed) λy1=>bif (y1 != 0)then some (zWd,0,y1)else jn (λ(j:Int)=>jn (λ(x5:Bool)=>bif x5 then(jn (λ(x7 x8:Int) (u:List In) (J:List UI) (K:List UU) (L:List Int) (M O:List W8) (U:List IA) (V:List Int)=>bnd (QcA N h s r) λq=>grd (u.length*48<=140737488355328) <| grd (0<=q.1.n/\q.1.n.toNat*8<=140737488355328) <| grd ((u.length+1)*48<=140737488355328) <| grd ((u.length+1)<=140737488355328) <| bnd (Qc4 N (WQ.mk (WR.mk x7 x8) (u++[(In.mk q.1 (List.replicate q.1.n.toNat (0:Int)))]) (Ws.mk J K L) (WG.mk M) (WG.mk O) U V) (wU (((u.length+1):Nat):Int))) λw=>some (w.1,w.2,0)) λj4=>bif I.Collected then(bnd (Qdj N f) λo=>j4 o.1.c.W o.1.c.p o.1.T o.1.l.S o.1.l.x o.1.l.i o.1.g.e o.1.v.e o.1.m o.1.R)else j4 f.c.W f.c.p f.T f.l.S f.l.x f.l.i f.g.e f.v.e f.m f.R)else bif (h==4)then(bnd (Xd f.T (wU (j-1))) λY=>some (f,(wU Y.H.n),0))else bif (h==5)then(bnd (Xd f.T (wU (j-1))) λZ=>some (f,(wU Z.H.k),0))else bif (h==6)then(bnd (Xd f.T (wU (j-1))) λp21=>bnd (Xd p21.D r) λp22=>some (f,p22,0))else bif (h==7)then(bnd (Qfm N f j (wI r) G) λy23=>some (y23,0,0))else bif (h==8)then(bnd (Xd f.T (wU (j-1))) λp24=>bnd (Xd p24.D r) λp25=>bnd (Qc4 N f p25) λy=>some (y.1,y.2,0))else bif (h==9)then(bnd (QaE N f G) λy27=>bnd (Qfm N f j (wI r) y27.1) λy28=>some (y28,0,0))else bif (h==10)then(bnd (QaE N f r) λy29=>bif (j==y29.1)then some (f,1,0)else some (f,0,0))else bif (h==11)then(bnd (Qc4 N f j) λz=>some (z.1,z.2,0))else jn (λ(x31:Bool)=>bif x31 then(bnd (QeF N f h j) λA=>some (A.1,A.2,0))else jn (λ(x34:Bool)=>bif x34 then(bnd (Qfe N f s) λy35=>some (y35,0,0))else bif (h==17)then(bnd (Qed N f.l (wI s)) λy36=>some ((WQ.mk f.c f.T y36.1 f.g f.v f.m f.R),0,0))else bif (h==18)then(bnd (QeP N f.l) λy37=>bnd (Qc4 N (WQ.mk f.c f.T y37.1 f.g f.v f.m f.R) j) λB=>some (B.1,B.2,0))else bnd (Qfr N f h j I.B0) λE=>some (E.1,E.2,0)) λj7=>bif (h==12)then j7 true else jn (λ(x33:Bool)=>j7 x33) λj6=>bif (h==14)then j6 true else j6 (h==16)) λj5=>bif (h==13)then j5 true else j5 (h==15)) λj3=>bif (h==1)then j3 true else jn (λ(x4:Bool)=>j3 x4) λj2=>bif (h==2)then j2 true else j2 (h==3)) λj1=>bif (decide (h>3))then(bif (h != 17)then(bnd (QaE N f s) λy2=>j1 y2.1)else j1 0)else j1 0
def QbQ(N:Nat)(f:Io)(q:Ou):Option (Io×Int×Int):=bif (q.Op==0)then(bnd (Qbx N f.N) λo=>jn (λ(x3 x4:Int) (x5:List Int) (x6:List Wr) (x7 x8:Int) (x9:List UI) (M:List UU) (O:List Int) (U V:List W8) (Y:List UE) (Z:List Int) (x16 x17:Int) (x18:List In) (x19:List UI) (x20:List UU) (x21:List Int) (x22 x23:List W8) (x24:List IA) (x25:List Int)=>some ((Io.mk (Um.mk (Wh.mk (WR.mk x3 x4) x5 x6 x7 x8) (Ws.mk x9 M O) (WG.mk U) (WG.mk V) Y Z) (WQ.mk (WR.mk x16 x17) x18 (Ws.mk x19 x20 x21) (WG.mk x22) (WG.mk x23) x24 x25) f.w),0,0)) λj1=>bif (o.2.2==0)then(bnd (Qdj N f.z) λr=>j1 o.1.h.c.W o.1.h.c.p o.1.h.w o.1.h.p o.1.h.s o.1.h.b o.1.l.S o.1.l.x o.1.l.i o.1.g.e o.1.v.e o.1.P o.1.R r.1.c.W r.1.c.p r.1.T r.1.l.S r.1.l.x r.1.l.i r.1.g.e r.1.v.e r.1.m r.1.R)else j1 f.N.h.c.W f.N.h.c.p f.N.h.w f.N.h.p f.N.h.s f.N.h.b f.N.l.S f.N.l.x f.N.l.i f.N.g.e f.N.v.e f.N.P f.N.R f.z.c.W f.z.c.p f.z.T f.z.l.S f.z.l.x f.z.l.i f.z.g.e f.z.v.e f.z.m f.z.R)else bnd (Qag N f.N q.Op q.A q.B q.C) λj=>bnd (QeE N f.N j.1 q.Op j.2.1 j.2.2) λy27=>bnd (Qfs N f.z q.Op q.A q.B q.C y27) λk=>jn (λ(u y:Int) (D:List In) (E:List UI) (G:List UU) (H:List Int) (I J:List W8) (K:List IA) (L:List Int)=>bif (j.2.2==0)then(bif (j.2.1 != 0)then(grd (f.w.length*8<=140737488355328) <| grd ((f.w.length+1)*8<=140737488355328) <| some ((Io.mk j.1 (WQ.mk (WR.mk u y) D (Ws.mk E G H) (WG.mk I) (WG.mk J) K L) (f.w++[j.2.1])),j.2.1,j.2.2))else some ((Io.mk j.1 (WQ.mk (WR.mk u y) D (Ws.mk E G H) (WG.mk I) (WG.mk J) K L) f.w),j.2.1,j.2.2))else some ((Io.mk f.N (WQ.mk (WR.mk u y) D (Ws.mk E G H) (WG.mk I) (WG.mk J) K L) f.w),j.2.1,j.2.2)) λj2=>bif (k.2.2==0)then j2 k.1.c.W k.1.c.p k.1.T k.1.l.S k.1.l.x k.1.l.i k.1.g.e k.1.v.e k.1.m k.1.R else j2 f.z.c.W f.z.c.p f.z.T f.z.l.S f.z.l.x f.z.l.i f.z.g.e f.z.v.e f.z.m f.z.R
def QbX(N:Nat)(f:Io)(u:IB):Option (Int×IB):=bnd (Qaj N u 14) λe=>bif (e.1==0)then(bnd (Qaj N e.2 8) λk=>bnd (Xd [0,1,262145,262146,524289,1125899906842624,4097,262149] k.1) λv=>some (v,k.2))else bif (e.1==1)then(bnd (Qaj N e.2 (f.w.length:Int)) λo=>bnd (Xd f.w o.1) λx=>bnd (Qaj N o.2 3) λp=>some ((wU (x+(wU p.1))),p.2))else jn (λ(y:Bool)=>bif y then(bnd (Qaj N e.2 (f.w.length:Int)) λq=>bnd (Xd f.w q.1) λh=>some (h,q.2))else bnd (Qaj N e.2 (if 6<(f.w.length:Int)then 6 else(f.w.length:Int))) λg=>bnd (Xd f.w (wI ((wI ((f.w.length:Int)-1))-g.1))) λj=>some (j,g.2)) λr=>bif (e.1==2)then r true else jn (λ(z:Bool)=>r z) λs=>bif (e.1==3)then s true else s (e.1==4)
def QcT(N:Nat)(v:Io)(G:IB):Option (Ou×IB):=bnd (Qaj N G 32) λo=>bnd (Xd [1,1,2,2,3,4,5,6,7,7,8,8,9,9,9,10,11,12,12,13,14,15,16,17,18,19,19,20,20,0,0,21] o.1) λe=>bif (e==1)then(bnd (Qaj N o.2 4) λw=>grd (0<=(wU w.1)) <| bnd (Qaj N w.2 (Kj .i64 1 (wU w.1))) λz=>some ((Ou.mk e (wU w.1) (wU z.1) 0),z.2))else jn (λ(H:Bool)=>bif H then(bnd (Qaj N o.2 4) λA=>bnd (Qaj N A.2 9) λx=>bif (x.1==0)then(bnd (Qaj N x.2 70) λB=>some ((Ou.mk e (wU B.1) 0 0),B.2))else some ((Ou.mk e (wU A.1) 0 0),x.2))else bif (e==17)then(bnd (Qaj N o.2 9) λD=>some ((Ou.mk e (wU D.1) 0 0),D.2))else bnd (QbX N v o.2) λg=>bnd (Qaj N g.2 4) λp=>bnd (Qaj N p.2 1000) λh=>jn (λ(q:List Int) (r s:Int)=>bif (e==10)then(bnd (QbX N v (IB.mk q r)) λu=>some ((Ou.mk e g.1 u.1 s),u.2))else some ((Ou.mk e g.1 (wU p.1) s),(IB.mk q r))) λy=>bif (e==9)then(bnd (QbX N v h.2) λj=>y j.2.L j.2.at_ j.1)else bnd (Qaj N h.2 9) λf=>bif (f.1==0)then(bnd (QbX N v f.2) λk=>y k.2.L k.2.at_ k.1)else y f.2.L f.2.at_ (wU h.1)) λE=>bif (e==2)then E true else E (e==3)
def QfZ(N:Nat)(J:Int):Nat->Int->(List Int)->Int->Int->Int->(List Int)->(List Wr)->Int->Int->(List UI)->(List UU)->(List Int)->(List W8)->(List W8)->(List UE)->(List Int)->Int->Int->(List In)->(List UI)->(List UU)->(List Int)->(List W8)->(List W8)->(List IA)->(List Int)->(List Int)->Option (Int×Int×List Int×List Wr×Int×Int×List UI×List UU×List Int×List W8×List W8×List UE×List Int×Int×Int×List In×List UI×List UU×List Int×List W8×List W8×List IA×List Int×List Int)
 |0,_,_,_,_,_,_,_,_,_,_,_,_,_,_,_,_,_,_,_,_,_,_,_,_,_,_,_=>none
 |n+1,K,M,O,H,v6,v7,v8,v9,v10,v11,j,v13,k,v15,o,v17,v18,v19,v20,q,r,u,y,A,B,D,E=>
  bif (decide (K<J))then(bnd (Qf6 N (IB.mk M O)) λI=>
   bif (!I)then(bnd (QcT N (Io.mk (Um.mk (Wh.mk (WR.mk H v6) v7 v8 v9 v10) (Ws.mk v11 j v13) (WG.mk k) (WG.mk v15) o v17) (WQ.mk (WR.mk v18 v19) v20 (Ws.mk q r u) (WG.mk y) (WG.mk A) B D) E) (IB.mk M O)) λG=>
    bnd (QbQ N (Io.mk (Um.mk (Wh.mk (WR.mk H v6) v7 v8 v9 v10) (Ws.mk v11 j v13) (WG.mk k) (WG.mk v15) o v17) (WQ.mk (WR.mk v18 v19) v20 (Ws.mk q r u) (WG.mk y) (WG.mk A) B D) E) G.1) λf=>
    QfZ N J n (wI (K+1)) G.2.L G.2.at_ f.1.N.h.c.W f.1.N.h.c.p f.1.N.h.w f.1.N.h.p f.1.N.h.s f.1.N.h.b f.1.N.l.S f.1.N.l.x f.1.N.l.i f.1.N.g.e f.1.N.v.e f.1.N.P f.1.N.R f.1.z.c.W f.1.z.c.p f.1.z.T f.1.z.l.S f.1.z.l.x f.1.z.l.i f.1.z.g.e f.1.z.v.e f.1.z.m f.1.z.R f.1.w)
   else some (H,v6,v7,v8,v9,v10,v11,j,v13,k,v15,o,v17,v18,v19,v20,q,r,u,y,A,B,D,E))
  else some (H,v6,v7,v8,v9,v10,v11,j,v13,k,v15,o,v17,v18,v19,v20,q,r,u,y,A,B,D,E)
def Qhe(N:Nat)(k:List Int)(o:Int):Option Io:=bnd (Qbh N (IB.mk k 0)) λj=>bnd (QfZ N o N 0 j.2.L j.2.at_ j.1.N.h.c.W j.1.N.h.c.p j.1.N.h.w j.1.N.h.p j.1.N.h.s j.1.N.h.b j.1.N.l.S j.1.N.l.x j.1.N.l.i j.1.N.g.e j.1.N.v.e j.1.N.P j.1.N.R j.1.z.c.W j.1.z.c.p j.1.z.T j.1.z.l.S j.1.z.l.x j.1.z.l.i j.1.z.g.e j.1.z.v.e j.1.z.m j.1.z.R j.1.w) λf=>some (Io.mk (Um.mk (Wh.mk (WR.mk f.1 f.2.1) f.2.2.1 f.2.2.2.1 f.2.2.2.2.1 f.2.2.2.2.2.1) (Ws.mk f.2.2.2.2.2.2.1 f.2.2.2.2.2.2.2.1 f.2.2.2.2.2.2.2.2.1) (WG.mk f.2.2.2.2.2.2.2.2.2.1) (WG.mk f.2.2.2.2.2.2.2.2.2.2.1) f.2.2.2.2.2.2.2.2.2.2.2.1 f.2.2.2.2.2.2.2.2.2.2.2.2.1) (WQ.mk (WR.mk f.2.2.2.2.2.2.2.2.2.2.2.2.2.1 f.2.2.2.2.2.2.2.2.2.2.2.2.2.2.1) f.2.2.2.2.2.2.2.2.2.2.2.2.2.2.2.1 (Ws.mk f.2.2.2.2.2.2.2.2.2.2.2.2.2.2.2.2.1 f.2.2.2.2.2.2.2.2.2.2.2.2.2.2.2.2.2.1 f.2.2.2.2.2.2.2.2.2.2.2.2.2.2.2.2.2.2.1) (WG.mk f.2.2.2.2.2.2.2.2.2.2.2.2.2.2.2.2.2.2.2.1) (WG.mk f.2.2.2.2.2.2.2.2.2.2.2.2.2.2.2.2.2.2.2.2.1) f.2.2.2.2.2.2.2.2.2.2.2.2.2.2.2.2.2.2.2.2.2.1 f.2.2.2.2.2.2.2.2.2.2.2.2.2.2.2.2.2.2.2.2.2.2.1) f.2.2.2.2.2.2.2.2.2.2.2.2.2.2.2.2.2.2.2.2.2.2.2)
def QfD(N:Nat)(e:W8):Option Bool:=bif (decide (e.G<1))then some true else bif (decide (e.G>4294967295))then some true else bif (!e.V)then some (e.a != 0)else some false
def Qan(N:Nat)(f:List W8):Nat->Int->Option (Ex Int Unit)
 |0,_=>none
 |n+1,e=>
  bif (decide (e<(f.length:Int)))then(bnd (Xd f e) λg=>
   bnd (QfD N g) λh=>
   bif h then some (.ret e)
   else Qan N f n (wI (e+1)))
  else some (.nxt ())
def QaP(N:Nat)(f:List W8):Option Int:=bnd (Qan N f N 0) λe=>exK e (λr=>some r) λg=>some (-1)
def QaF(N:Nat)(e:List W8):Option Bool:=bnd (QaP N e) λf=>some (decide (f>=0))
def Qen(N:Nat)(f:WG):Option Bool:=bif (decide ((f.e.length:Int)<=64))then(bnd (QaF N f.e) λg=>some (!g))else some false
def QdW(N:Nat)(f:WG):Nat->Int->(List Int)->Option (List Int)
 |0,_,_=>none
 |n+1,g,h=>
  bif (decide (g<(f.e.length:Int)))then(bnd (Xd f.e g) λj=>
   bif j.V then(grd ((h.length+1)*8<=140737488355328) <|
    QdW N f n (wI (g+1)) (h++[j.a]))
   else QdW N f n (wI (g+1)) h)
  else some h
def QdF(N:Nat)(e:WG):Option (List Int):=bnd (Qen N e) λf=>bif (!f)then some []else bnd (QdW N e N 0 []) λg=>some g
def Qa1(N:Nat)(f:IM):Nat->Int->Int->Option (Ex Bool Unit)
 |0,_,_=>none
 |n+1,h,g=>
  bif (decide (g<(f.l.x.length:Int)))then(bnd (Xd f.l.x g) λe=>
   bif (g==0)then(bif (e.O != 0)then some (.ret false)
    else bif (!e.B0)then some (.ret false)
    else bif (decide (e.O<h))then some (.ret false)
    else bif (decide (e.O>(f.l.S.length:Int)))then some (.ret false)
    else bif (decide (e.C0<0))then some (.ret false)
    else bif (decide (e.C0>64))then some (.ret false)
    else Qa1 N f n e.O (wI (g+1)))
   else bif (decide (e.O<h))then some (.ret false)
   else bif (decide (e.O>(f.l.S.length:Int)))then some (.ret false)
   else bif (decide (e.C0<0))then some (.ret false)
   else bif (decide (e.C0>64))then some (.ret false)
   else Qa1 N f n e.O (wI (g+1)))
  else some (.nxt ())
def Qdn(N:Nat)(f:IM):Option Bool:=jn (λ(_:Unit)=>bnd (Qa1 N f N 0 0) λe=>exK e (λr=>some r) λh=>some true) λg=>bif (decide ((f.l.x.length:Int)>64))then some false else bif ((f.l.x.length:Int)==0)then(bif (decide ((f.l.S.length:Int)>0))then some false else g ())else g ()
def Qa9(N:Nat)(f:IM):Nat->Int->Int->Option (Ex Bool Unit)
 |0,_,_=>none
 |n+1,h,g=>
  bif (decide (g<(f.l.S.length:Int)))then(bnd (Xd f.l.S g) λe=>
   bif (decide (e.J<=h))then some (.ret false)
   else bif (decide (e.J>(f.l.i.length:Int)))then some (.ret false)
   else bnd (Xd f.l.i (wI (e.J-1))) λj=>
   bif (j != g)then some (.ret false)
   else bif (e.V==(e.a==0))then some (.ret false)
   else Qa9 N f n e.J (wI (g+1)))
  else some (.nxt ())
def Qdb(N:Nat)(f:IM):Option Bool:=bnd (Qa9 N f N 0 0) λe=>exK e (λr=>some r) λg=>some true
def QdM(N:Nat)(e:IM)(f:Int):Option (List UI):=bif (decide ((wI (f+1))<(e.l.x.length:Int)))then(bnd (Xd e.l.x f) λg=>bnd (Xd e.l.x (wI (f+1))) λh=>grd (0<=g.O/\g.O<=h.O/\h.O<=(e.l.S.length:Int)) <| some ((e.l.S.drop g.O.toNat).take (h.O.toNat-g.O.toNat)))else bnd (Xd e.l.x f) λj=>grd (0<=j.O/\j.O<=(e.l.S.length:Int)/\(e.l.S.length:Int)<=(e.l.S.length:Int)) <| some (e.l.S.drop j.O.toNat)
def QbK(N:Nat)(e:List UI):Nat->Int->Int->Option Int
 |0,_,_=>none
 |n+1,g,f=>
  bif (decide (f<(e.length:Int)))then(bnd (Xd e f) λh=>
   bif h.V then QbK N e n (wI (g+1)) (wI (f+1))
   else QbK N e n g (wI (f+1)))
  else some g
def Qd6(N:Nat)(e:IM)(f:Int):Option Int:=bnd (QdM N e f) λg=>bnd (QbK N g N 0 0) λh=>some h
def QfE(N:Nat)(e:Int):Option Bool:=bif (decide (e<0))then some true else some (decide (e>=4096))
def QaC(N:Nat)(f:List Int):Nat->Int->Option (Ex Int Unit)
 |0,_=>none
 |n+1,e=>
  bif (decide (e<(f.length:Int)))then(bnd (Xd f e) λg=>
   bnd (QfE N g) λh=>
   bif h then some (.ret e)
   else QaC N f n (wI (e+1)))
  else some (.nxt ())
def QbS(N:Nat)(f:List Int):Option Int:=bnd (QaC N f N 0) λe=>exK e (λr=>some r) λg=>some (-1)
def Qbu(N:Nat)(e:List Int):Option Bool:=bnd (QbS N e) λf=>some (decide (f>=0))
def Qdx(N:Nat)(e:Ws):Nat->Int->Option (Ex Bool Unit)
 |0,_=>none
 |n+1,f=>
  bif (decide (f<(e.x.length:Int)))then(bnd (Xd e.x f) λg=>
   bnd (Qd6 N (IM.mk e) f) λh=>
   bif (decide (h>g.C0))then some (.ret false)
   else Qdx N e n (wI (f+1)))
  else some (.nxt ())
def Qe0(N:Nat)(f:Ws):Option Bool:=bif (decide ((f.i.length:Int)>4096))then some false else bnd (Qbu N f.i) λg=>bif g then some false else bnd (Qdn N (IM.mk f)) λh=>bif (!h)then some false else bnd (Qdb N (IM.mk f)) λj=>bif (!j)then some false else bnd (Qdx N f N 0) λe=>exK e (λr=>some r) λk=>some true
def QdX(N:Nat)(e:Ws):Nat->Int->(List Int)->Option (List Int)
 |0,_,_=>none
 |n+1,f,g=>
  bif (decide (f<(e.S.length:Int)))then(bnd (Xd e.S f) λh=>
   bif h.V then(grd ((g.length+1)*8<=140737488355328) <|
    QdX N e n (wI (f+1)) (g++[h.a]))
   else QdX N e n (wI (f+1)) g)
  else some g
def Qft(N:Nat)(e:Ws):Option (List Int):=bnd (Qe0 N e) λf=>bif (!f)then some []else bnd (QdX N e N 0 []) λg=>some g
def Qbr(N:Nat)(e:Int):Option (List Int):=bif (decide (e<0))then none else bif (decide ((wI (e-(wI 0)))>0))then(grd (0=0/\0=0) <| grd (0<=(wI (e-(wI 0)))/\(wI (e-(wI 0))).toNat*8<=140737488355328) <| grd ((wI (e-(wI 0))).toNat*8<=140737488355328) <| grd (0<=0/\0<=0/\0<=(((wI (e-(wI 0))).toNat:Nat):Int)) <| some ((List.replicate (wI (e-(wI 0))).toNat (0:Int)).take 0))else some []
def QaS(N:Nat)(e:List (List Int)):Nat->Int->Int->Option Int
 |0,_,_=>none
 |n+1,f,g=>
  bif (decide (g<(e.length:Int)))then(bnd (Xd e g) λh=>
   bif (decide ((wI (f+(h.length:Int)))<0))then none
   else QaS N e n (wI (f+(h.length:Int))) (wI (g+1)))
  else some f
def QaT(N:Nat)(e:List (List Int)):Nat->Int->(List Int)->Option (List Int)
 |0,_,_=>none
 |n+1,v6,v7=>
  bif (decide (v6<(e.length:Int)))then(bnd (Xd e v6) λf=>
   grd ((v7.length+f.length)*8<=140737488355328) <|
   QaT N e n (wI (v6+1)) (v7++f))
  else some v7
def QaO(N:Nat)(e:List (List Int)):Option (List Int):=bnd (QaS N e N 0 0) λf=>bnd (Qbr N f) λg=>bnd (QaT N e N 0 g) λh=>some h
def Qgb(N:Nat)(e:List (List Int)):Option (List Int):=bnd (QaO N e) λf=>some f
def QeG(N:Nat)(e:Um):Nat->Int->(List Int)->Option (List Int)
 |0,_,_=>none
 |n+1,f,g=>
  bif (decide (f<(e.P.length:Int)))then(bnd (Xd e.P f) λh=>
   grd ((g.length+1)*8<=140737488355328) <|
   QeG N e n (wI (f+1)) (g++[h.a]))
  else some g
def Qg5(N:Nat)(e:Um):Option (List Int):=bnd (QeG N e N 0 []) λf=>some f
def Qgc(N:Nat)(e:Um):Option (List Int):=bnd (Qft N e.l) λf=>bnd (QdF N e.g) λh=>bnd (Qg5 N e) λj=>bnd (Qgb N [e.R,f,h,j]) λk=>some k
def QbY(N:Nat)(e:WR):Option Bool:=bif (decide (e.W>=16))then(bif (decide (e.W<=64))then(bif ((e.W.tmod 4)==0)then(bif (decide (e.p>=8))then some (decide (e.p<=64))else some false)else some false)else some false)else some false
def QeR(N:Nat)(e:WR):Option Int:=bnd (QbY N e) λf=>bif (!f)then some 0 else some (wI (e.W.tdiv 4))
def QeS(N:Nat)(e:WR)(f:Int):Option Int:=bnd (QbY N e) λg=>bif (!g)then some (-1)else bif (decide (f<1))then some (-1)else bif (decide (f>(wI (4*e.W))))then some (-1)else bnd (QeR N e) λh=>bif (decide (f<=h))then some 0 else grd (e.W≠0) <| some (wI ((wI ((wI (f+e.W))-1)).tdiv e.W))
def QfS(N:Nat)(e:Wr)(f:WR):Option Bool:=some ((e.k==0)&&((e.s==0)&&((e.u==0)&&(e.P==0))))
def Qb3(N:Nat)(e:Wr):Option Bool:=bif (e.s==0)then some true else some (e.s==1)
def Qdf(N:Nat)(e:Wr):Option Bool:=bif (decide (e.P>=0))then some (decide (e.P<=2147483647))else some false
def Qdy(N:Nat)(e:Wr)(f:WR):Option Bool:=bnd (Qb3 N e) λg=>bif g then(bnd (Qdf N e) λh=>bif h then(bif (decide (e.u>=0))then some (decide (e.u<=f.W))else some false)else some false)else some false
def Qdz(N:Nat)(e:Wr)(f:WR):Option Bool:=bnd (Qb3 N e) λg=>bif g then(bnd (Qdf N e) λh=>bif h then(bnd (QeS N f e.u) λj=>some (decide (j>=1)))else some false)else some false
def Qe9(N:Nat)(e f:Wr):Option Bool:=some ((e.k==3)&&((e.s==f.s)&&((e.u==0)&&(e.P==0))))
def Qff(N:Nat)(g:List Wr)(e:Int)(f:Wr)(j h:Int):Nat->Int->Option (Ex Int Unit)
 |0,_=>none
 |n+1,v7=>
  bif (decide (v7<(((min ((wI (e+h)).toNat-(wI (e+1)).toNat) (g.length-(wI (e+1)).toNat)):Nat):Int)))then(bnd (Xd ((g.drop (wI (e+1)).toNat).take ((wI (e+h)).toNat-(wI (e+1)).toNat)) v7) λk=>
   bnd (Qe9 N k (Wr.mk j f.s f.u f.P)) λo=>
   bif (!o)then some (.ret 0)
   else Qff N g e f j h n (wI (v7+1)))
  else some (.nxt ())
def QgB(N:Nat)(j:WR)(o:List Wr)(g:Int):Option Int:=bnd (Xd o g) λf=>jn (λ(q:Int)=>bif (q != 2)then some 1 else bnd (QeS N j f.u) λh=>bif (decide (h>(wI ((o.length:Int)-g))))then some 0 else grd (0<=(wI (g+1))/\(wI (g+1))<=(wI (g+h))/\(wI (g+h))<=(o.length:Int)) <| bnd (Qff N o g f q h N 0) λe=>exK e (λr=>some r) λv=>some h) λp=>bif (decide (f.k<0))then some 0 else bif (decide (f.k>=3))then some 0 else bif (f.k==0)then(bnd (QfS N (Wr.mk 0 f.s f.u f.P) j) λw=>bif (!w)then some 0 else p 0)else bif (f.k==1)then(bnd (Qdy N (Wr.mk 1 f.s f.u f.P) j) λx=>bif (!x)then some 0 else p 1)else bif (f.k==2)then(bnd (Qdz N (Wr.mk 2 f.s f.u f.P) j) λy=>bif (!y)then some 0 else p 2)else none
def Qae(N:Nat)(e:Wh):Nat->Int->Option (Ex Bool Unit)
 |0,_=>none
 |n+1,f=>
  bif (decide (f<(e.p.length:Int)))then(bnd (QgB N e.c e.p f) λg=>
   bif (g==0)then some (.ret false)
   else Qae N e n (wI (f+g)))
  else some (.nxt ())
def QbZ(N:Nat)(f:Wh):Option Bool:=jn (λ(_:Unit)=>jn (λ(_:Unit)=>bnd (Qae N f N 0) λe=>exK e (λr=>some r) λq=>some true) λg=>bif (f.b != (-1))then(bif (decide (f.b<0))then some false else bif (decide (f.b>=(f.p.length:Int)))then some false else bnd (Xd f.p f.b) λj=>bif (j.k != 1)then some false else g ())else g ()) λh=>bnd (QbY N f.c) λo=>bif (!o)then some false else bif ((f.w.length:Int) != (wI (f.c.W*f.c.p)))then some false else bif ((f.p.length:Int) != f.c.p)then some false else bif (f.s != 0)then(bif (f.s != 1)then some false else h ())else h ()
def Qdg(N:Nat)(e:List UV):Nat->Int->(List Int)->Option (List Int)
 |0,_,_=>none
 |n+1,f,g=>
  bif (decide (f<(e.length:Int)))then(bnd (Xd e f) λh=>
   grd ((g.length+1)*8<=140737488355328) <|
   Qdg N e n (wI (f+1)) (g++[h.addr]))
  else some g
def Qcj(N:Nat)(e:List UV):Option (List Int):=bnd (Qdg N e N 0 []) λf=>some f
def Qfg(N:Nat)(e:Int):Nat->Int->Int->Option Int
 |0,_,_=>none
 |n+1,f,g=>
  bif (decide (g<(if 64<(if e<0 then 0 else e)then 64 else(if e<0 then 0 else e))))then Qfg N e n (bOr .u64 (Kj .u64 f 1) 1) (wI (g+1))
  else some f
def QcU(N:Nat)(e:Int):Option Int:=bnd (Qfg N e N 0 0) λf=>some f
def Qdc(N:Nat)(e:Wx):Option Bool:=bif (decide (e.k<0))then some false else bif (decide (e.k>3))then some false else bif (decide (e.n<0))then some false else bif (decide (e.n>255))then some false else bif (e.k==1)then(jn (λ(g:Bool)=>some g) λf=>bif (decide (e.n<=32))then(bnd (QcU N e.n) λh=>f (decide ((wU e.Map)<=h)))else f false)else some ((e.k==e.k)&&((e.n==e.n)&&(e.Map==0)))
def Qbq(N:Nat)(e:Wx):Option Int:=bnd (Qdc N e) λf=>bif (!f)then some 0 else some (wI (e.n+1))
def Qdd(N:Nat)(e:WR)(f g:Int):Option (Int×Int):=bnd (QbY N e) λh=>bif (!h)then some (0,1)else bif (decide (f<0))then some (0,2)else bif (decide (f>=e.p))then some (0,2)else bif (decide (g<0))then some (0,2)else bif (decide (g>=e.W))then some (0,2)else some ((wU (4096+(wU (wI ((wI (f*e.W))+g))))),0)
def Qck(N:Nat)(e:WR)(f:Int):Option (Int×Int×Int):=bnd (QbY N e) λg=>bif (!g)then some (0,0,1)else bif (decide (f<4096))then some (0,0,2)else bif (decide ((wU (f-4096))>=(wU (wI (e.W*e.p)))))then some (0,0,2)else grd (e.W≠0) <| grd (e.W≠0) <| some ((wI ((wI (wU (f-4096))).tdiv e.W)),((wI (wU (f-4096))).tmod e.W),0)
def QaU(N:Nat)(j:Int)(e:List Int):Nat->Int->Int->Option (Ex (List Int×Int) Unit)
 |0,_,_=>none
 |n+1,h,f=>
  bif (decide (f<(e.length:Int)))then(bnd (Xd e f) λg=>
   bif (decide (g<1))then some (.ret ([],1))
   else bif (decide (g>h))then some (.ret ([],1))
   else QaU N j e n (wI (h-g)) (wI (f+1)))
  else some (.nxt ())
def QaV(N:Nat)(e:List Int):Nat->Int->Int->(List Int)->Option (Int×List Int)
 |0,_,_,_=>none
 |n+1,f,v6,v7=>
  bif (decide (v6<(e.length:Int)))then(bnd (Xd e v6) λg=>
   bnd (QcU N g) λh=>
   grd ((v7.length+1)*8<=140737488355328) <|
   grd (0<=g) <|
   QaV N e n (YL .u64 f g) (wI (v6+1)) (v7++[(Zu .u64 f h)]))
  else some (f,v7)
def Qe1(N:Nat)(g:Int)(h:List Int):Option (List Int×Int):=bnd (QaU N g h N 64 0) λe=>exK e (λr=>some r) λj=>bnd (QaV N h N g 0 []) λf=>bif (f.1 != 0)then some ([],2)else some (f.2,0)
def QdY(N:Nat)(j:Int):Option (Wx×Bool):=bnd (Qe1 N j [2,2,12,32]) λe=>bif (e.2 != 0)then some ((Wx.mk 0 0 0),false)else bnd (Xd e.1 0) λk=>bif (k != 1)then some ((Wx.mk 0 0 0),false)else bnd (Xd e.1 1) λf=>bnd (Xd e.1 2) λg=>bnd (Xd e.1 3) λh=>bnd (Qdc N (Wx.mk (wI f) (wI g) (wW h))) λo=>bif (!o)then some ((Wx.mk 0 0 0),false)else some ((Wx.mk (wI f) (wI g) (wW h)),true)
def Qe2(N:Nat)(f:List Int)(e g:Int):Option (Int×Bool):=bif (decide (e<4096))then some (0,false)else bif (decide ((wU (e-4096))>(wU (f.length:Int))))then some (0,false)else some ((wI (wU (e-4096))),(decide (g<=(wI ((f.length:Int)-(wI (wU (e-4096))))))))
def QgY(N:Nat)(f:List Int)(g:Int):Option (Int×Int):=bnd (Qe2 N f g 1) λe=>bif (!e.2)then some (0,2)else some (e.1,0)
def Qgd(N:Nat)(f:List Int)(g:Int):Option (Int×Int):=bnd (QgY N f g) λe=>bif (e.2 != 0)then some (0,e.2)else bnd (Xd f e.1) λh=>some (h,0)
def Qgt(N:Nat)(e:Wh)(f:Int):Option Int:=bnd (Qgd N e.w f) λg=>some g.1
def Qeo(N:Nat)(g:Wh)(q:Int):Option (Wx×Int):=bnd (QbZ N g) λx=>bif (!x)then some ((Wx.mk 0 0 0),1)else bnd (Qck N g.c q) λe=>bif (e.2.2 != 0)then some ((Wx.mk 0 0 0),e.2.2)else bnd (Xd g.p e.1) λf=>bnd (Qgt N g q) λy=>bnd (QdY N y) λh=>bnd (Qbq N h.1) λr=>jn (λ(j:Bool)=>bif (!j)then some ((Wx.mk 0 0 0),19)else some (h.1,0)) λo=>bif (!h.2)then o false else bif (decide (e.2.1>=f.u))then o false else jn (λ(z:Bool)=>o z) λs=>bif (f.k==1)then s (decide (r<=(wI (f.u-e.2.1))))else jn (λ(A:Bool)=>s A) λv=>bif (f.k==2)then(jn (λ(B:Bool)=>v B) λw=>bif (e.2.1==0)then w (r==f.u)else w false)else v false
def Qb0(N:Nat)(e:Wh)(k:Int)(o:Wr):Nat->Int->List UV->Option (List UV×Int)
 |0,_,_=>none
 |n+1,f,g=>
  bif (decide (f<o.u))then(bnd (Qdd N e.c k f) λh=>
   bif (h.2==0)then(bnd (Qeo N e h.1) λj=>
    bif (j.2==0)then(bnd (Qbq N j.1) λp=>
     grd ((g.length+1)*32<=140737488355328) <|
     Qb0 N e k o n (wI (f+p)) (g++[UV.mk h.1 j.1]))
    else some ([],19))
   else some ([],19))
  else some (g,0)
def QfM(N:Nat)(f:Wh)(g:Int):Option (List UV×Int):=bnd (Xd f.p g) λe=>bif (e.k != 1)then(bif (e.k != 2)then some ([],0)else Qb0 N f g e N 0 [])else Qb0 N f g e N 0 []
def QeT(N:Nat)(e:Wh)(f:Int):Option (List Int×Int):=bnd (QbZ N e) λh=>bif (!h)then some ([],1)else bif (decide (f<0))then some ([],2)else bif (decide (f>=(e.p.length:Int)))then some ([],2)else bnd (QfM N e f) λg=>bif (g.2 != 0)then some ([],g.2)else bnd (Qcj N g.1) λj=>some (j,0)
def Qcl(N:Nat)(e:Wh)(f:Int)(g:List Int):Nat->Int->Option (Ex (Int×Bool) Unit)
 |0,_=>none
 |n+1,h=>
  bif (decide (h<(g.length:Int)))then(bnd (Xd g h) λj=>
   bnd (Qeo N e j) λo=>
   bnd (Qbq N o.1) λq=>
   bnd (QeR N e.c) λr=>
   bnd (Xd e.p f) λs=>
   bif (s.k==1)then(bif (!(decide (q<=r)))then some (.ret (j,true))
    else bnd (Xd e.p f) λu=>
    bif (u.k==2)then(bif (o.1.k==0)then some (.ret (j,true))
     else Qcl N e f g n (wI (h+1)))
    else Qcl N e f g n (wI (h+1)))
   else bnd (Xd e.p f) λv=>
   bif (v.k==2)then(bif (o.1.k==0)then some (.ret (j,true))
    else Qcl N e f g n (wI (h+1)))
   else Qcl N e f g n (wI (h+1)))
  else some (.nxt ())
def QfN(N:Nat)(f:Wh)(g:Int)(h:List Int):Option (Int×Bool):=bnd (Qcl N f g h N 0) λe=>exK e (λr=>some r) λj=>some (0,false)
def Qac(N:Nat)(e:List Int):Option (List Int):=some e
def QgM(N:Nat)(g:List Int)(h f:Int):Option (List Int×Int):=bif (decide (f<0))then some ([],1)else bnd (Qe2 N g h f) λe=>bif (!e.2)then some ([],2)else grd (0<=e.1/\e.1<=(wI (e.1+f))/\(wI (e.1+f))<=(g.length:Int)) <| bnd (Qac N ((g.drop e.1.toNat).take ((wI (e.1+f)).toNat-e.1.toNat))) λj=>some (j,0)
def QeH(N:Nat)(f:Wh):Nat->Int->Option Int
 |0,_=>none
 |n+1,e=>
  bif (decide (e>0))then(bnd (Xd f.p e) λg=>
   bif (g.k==3)then QeH N f n (wI (e-1))
   else some e)
  else some e
def QgN(N:Nat)(e:Wh)(f:Int):Option Int:=bnd (QeH N e N f) λg=>some g
def QgO(N:Nat)(e:Int):Option Bool:=some (e != 0)
def Qau(N:Nat)(f:List Int):Nat->Int->Option (Ex Int Unit)
 |0,_=>none
 |n+1,e=>
  bif (decide (e<(f.length:Int)))then(bnd (Xd f e) λg=>
   bnd (QgO N g) λh=>
   bif h then some (.ret e)
   else Qau N f n (wI (e+1)))
  else some (.nxt ())
def Qbk(N:Nat)(f:List Int):Option Int:=bnd (Qau N f N 0) λe=>exK e (λr=>some r) λg=>some (-1)
def QdZ(N:Nat)(o:Wh)(e:Int×Int)(h:List Int×Int):Nat->Int->(List Int)->Option (List Int)
 |0,_,_=>none
 |n+1,j,v6=>
  bif (decide (j<(h.1.length:Int)))then(bnd (Xd h.1 j) λf=>
   bnd (Qeo N o f) λp=>
   jn (λ(g:Int)=>
    grd (v6.length<=140737488355328) <|
    grd (v6.length<=140737488355328) <|
    grd (0<=(if(v6.length:Int)<(if(wI ((wI f)-(wI e.1)))<0 then 0 else(wI ((wI f)-(wI e.1))))then(v6.length:Int)else(if(wI ((wI f)-(wI e.1)))<0 then 0 else(wI ((wI f)-(wI e.1)))))/\(if(v6.length:Int)<(if(wI ((wI f)-(wI e.1)))<0 then 0 else(wI ((wI f)-(wI e.1))))then(v6.length:Int)else(if(wI ((wI f)-(wI e.1)))<0 then 0 else(wI ((wI f)-(wI e.1)))))<=(if(v6.length:Int)<(if(wI ((wI ((wI f)-(wI e.1)))+g))<0 then 0 else(wI ((wI ((wI f)-(wI e.1)))+g)))then(v6.length:Int)else(if(wI ((wI ((wI f)-(wI e.1)))+g))<0 then 0 else(wI ((wI ((wI f)-(wI e.1)))+g))))/\(if(v6.length:Int)<(if(wI ((wI ((wI f)-(wI e.1)))+g))<0 then 0 else(wI ((wI ((wI f)-(wI e.1)))+g)))then(v6.length:Int)else(if(wI ((wI ((wI f)-(wI e.1)))+g))<0 then 0 else(wI ((wI ((wI f)-(wI e.1)))+g))))<=(v6.length:Int)) <|
    QdZ N o e h n (wI (j+1)) (((v6.take (if(v6.length:Int)<(if(wI ((wI f)-(wI e.1)))<0 then 0 else(wI ((wI f)-(wI e.1))))then(v6.length:Int)else(if(wI ((wI f)-(wI e.1)))<0 then 0 else(wI ((wI f)-(wI e.1))))).toNat)++(List.replicate ((if(v6.length:Int)<(if(wI ((wI ((wI f)-(wI e.1)))+g))<0 then 0 else(wI ((wI ((wI f)-(wI e.1)))+g)))then(v6.length:Int)else(if(wI ((wI ((wI f)-(wI e.1)))+g))<0 then 0 else(wI ((wI ((wI f)-(wI e.1)))+g)))).toNat-(if(v6.length:Int)<(if(wI ((wI f)-(wI e.1)))<0 then 0 else(wI ((wI f)-(wI e.1))))then(v6.length:Int)else(if(wI ((wI f)-(wI e.1)))<0 then 0 else(wI ((wI f)-(wI e.1))))).toNat) (0:Int)))++(v6.drop ((if(v6.length:Int)<(if(wI ((wI f)-(wI e.1)))<0 then 0 else(wI ((wI f)-(wI e.1))))then(v6.length:Int)else(if(wI ((wI f)-(wI e.1)))<0 then 0 else(wI ((wI f)-(wI e.1))))).toNat+((if(v6.length:Int)<(if(wI ((wI ((wI f)-(wI e.1)))+g))<0 then 0 else(wI ((wI ((wI f)-(wI e.1)))+g)))then(v6.length:Int)else(if(wI ((wI ((wI f)-(wI e.1)))+g))<0 then 0 else(wI ((wI ((wI f)-(wI e.1)))+g)))).toNat-(if(v6.length:Int)<(if(wI ((wI f)-(wI e.1)))<0 then 0 else(wI ((wI f)-(wI e.1))))then(v6.length:Int)else(if(wI ((wI f)-(wI e.1)))<0 then 0 else(wI ((wI f)-(wI e.1))))).toNat))))) λq=>
   bif (p.1.k != 0)then(bnd (Qbq N p.1) λr=>
    q r)
   else q 1)
  else some v6
def Qge(N:Nat)(f:Wh)(j:Int):Option (Int×Bool):=bnd (Qdd N f.c j 0) λg=>bnd (QgM N f.w g.1 f.c.W) λk=>bnd (QgN N f j) λo=>bnd (QeT N f o) λp=>bnd (QdZ N f g p N 0 k.1) λh=>bnd (Qbk N h) λe=>some ((wU (g.1+(wU (if e<0 then 0 else e)))),(decide (e>=0)))
def Qa4(N:Nat)(f:Wh):Nat->Int->Option (Ex Us Unit)
 |0,_=>none
 |n+1,e=>
  bif (decide (e<(f.p.length:Int)))then(bnd (Xd f.p e) λg=>
   jn (λ(_:Unit)=>
    bnd (QeT N f e) λh=>
    bif (h.2 != 0)then some (.ret (Us.mk 3 e 0))
    else bnd (QfN N f e h.1) λj=>
    bif j.2 then some (.ret (Us.mk 5 e j.1))
    else bnd (Qge N f e) λo=>
    bif o.2 then some (.ret (Us.mk 4 e o.1))
    else Qa4 N f n (wI (e+1))) λq=>
   bif (g.k != 0)then(bif (g.s != f.s)then some (.ret (Us.mk 2 e 0))
    else q ())
   else q ())
  else some (.nxt ())
def Qgn(N:Nat)(f:Wh):Option Us:=bnd (Qa4 N f N 0) λe=>exK e (λr=>some r) λg=>some (Us.mk 0 0 0)
def QfO(N:Nat)(f:Wh):Nat->Int->(List UV)->Option (Ex (List UV×Int) (List UV))
 |0,_,_=>none
 |n+1,g,h=>
  bif (decide (g<(f.p.length:Int)))then(bnd (QfM N f g) λe=>
   bif (e.2 != 0)then some (.ret ([],e.2))
   else grd ((h.length+e.1.length)*32<=140737488355328) <|
   QfO N f n (wI (g+1)) (h++e.1))
  else some (.nxt h)
def Qhc(N:Nat)(f:Wh):Option (List UV×Int):=bnd (QbZ N f) λg=>bif (!g)then some ([],1)else bnd (QfO N f N 0 []) λe=>exK e (λr=>some r) λh=>some (h,0)
def Qep(N:Nat)(e:UV):Option Bool:=some (e.hd.k==0)
def Qak(N:Nat)(f:List UV):Nat->Int->Option (Ex Int Unit)
 |0,_=>none
 |n+1,e=>
  bif (decide (e<(f.length:Int)))then(bnd (Xd f e) λg=>
   bnd (Qep N g) λh=>
   bif h then some (.ret e)
   else Qak N f n (wI (e+1)))
  else some (.nxt ())
def Qas(N:Nat)(f:List UV):Option Int:=bnd (Qak N f N 0) λe=>exK e (λr=>some r) λg=>some (-1)
def Qcs(N:Nat):Nat->Int->Int->(List UV)->Option (Int×List UV)
 |0,_,_,_=>none
 |n+1,f,g,e=>
  grd (e.length<=140737488355328) <|
  bif (decide (g<(e.length:Int)))then(bnd (Xd e g) λh=>
   bnd (Qep N h) λj=>
   bif (!j)then(bnd (Xd e f) λk=>
    Qcs N n (wI (f+1)) (wI (g+1)) (e.set f.toNat h))
   else Qcs N n f (wI (g+1)) e)
  else some (f,e)
def QdN(N:Nat)(k:Wh):Option (List Int×Int):=bnd (Qhc N k) λf=>bif (f.2 != 0)then some ([],f.2)else bnd (Qas N f.1) λg=>bif (g==(-1))then(bnd (Qcj N f.1) λh=>some (h,0))else bnd (Qcs N N g (wI (g+1)) f.1) λe=>grd (0<=e.1/\e.1<=(e.2.length:Int)/\(e.2.length:Int)<=(e.2.length:Int)) <| grd (0<=e.1/\e.1<=(((((min e.1.toNat e.2.length)+(e.2.length-e.1.toNat))+(e.2.length-(e.1.toNat+(e.2.length-e.1.toNat)))):Nat):Int)) <| bnd (Qcj N ((((e.2.take e.1.toNat)++(List.replicate (e.2.length-e.1.toNat) (UV.mk 0 (Wx.mk 0 0 0))))++(e.2.drop (e.1.toNat+(e.2.length-e.1.toNat)))).take e.1.toNat)) λj=>some (j,0)
def Qev(N:Nat)(e:Int):Option Bool:=some (e != e)
def QfT(N:Nat)(e f:Int):Option Bool:=bnd (Qev N e) λg=>bif g then(bnd (Qev N f) λh=>bif (!h)then some true else some (decide (e<f)))else some (decide (e<f))
def Qdo(N:Nat)(e:Int):Option Bool:=some (e != e)
def Qaq(N:Nat)(g:List Int)(h:Int):Nat->Int->Int->Option Int
 |0,_,_=>none
 |n+1,e,f=>
  bif (decide (e<f))then(bnd (Xd g (wI (YL .u64 (wU (wI (e+f))) 1))) λj=>
   bnd (QfT N j h) λk=>
   bif k then Qaq N g h n (wI ((wI (YL .u64 (wU (wI (e+f))) 1))+1)) f
   else Qaq N g h n e (wI (YL .u64 (wU (wI (e+f))) 1)))
  else some e
def Qax(N:Nat)(f:List Int)(g:Int):Option (Int×Bool):=bnd (Qaq N f g N 0 (f.length:Int)) λe=>bif (decide (e<(f.length:Int)))then(bnd (Xd f e) λh=>bif (h==g)then some (e,true)else bnd (Xd f e) λj=>bnd (Qdo N j) λk=>bif k then(bnd (Qdo N g) λo=>some (e,o))else some (e,false))else some (e,false)
def Qfh(N:Nat)(e:Wx)(f:Int):Option Bool:=bnd (Qdc N e) λg=>bif (!g)then some false else bif (decide (f<0))then some false else bif (decide (f>=e.n))then some false else bif (e.k==2)then some true else bif (e.k==1)then(grd (0<=f) <| some ((Zu .u32 (YL .u32 e.Map f) 1)==1))else some false
def Qca(N:Nat)(g:Wx)(h:Int):Nat->Int->(List Int)->Option (List Int)
 |0,_,_=>none
 |n+1,e,f=>
  bif (decide (e<h))then(bnd (Qfh N g e) λj=>
   bif j then(grd ((f.length+1)*8<=140737488355328) <|
    Qca N g h n (wI (e+1)) (f++[e]))
   else Qca N g h n (wI (e+1)) f)
  else some f
def QdQ(N:Nat)(e:Wx):Option (List Int):=bnd (Qbq N e) λf=>bnd (Qca N e f N 0 []) λg=>some g
def QaM(N:Nat)(g:Wh)(h:List Int×Int)(j e:Int)(f:List Int):Nat->Int->Option (Ex Int Unit)
 |0,_=>none
 |n+1,v6=>
  bif (decide (v6<(f.length:Int)))then(bnd (Xd f v6) λk=>
   bnd (Qgd N g.w (wU ((wU (e+1))+(wU k)))) λo=>
   bnd (Qax N h.1 o.1) λp=>
   bif (o.1 != 0)then(bif (!p.2)then some (.ret (wU ((wU (e+1))+(wU k))))
    else QaM N g h j e f n (wI (v6+1)))
   else QaM N g h j e f n (wI (v6+1)))
  else some (.nxt ())
def Qcq(N:Nat)(h:Wh)(f:List Int×Int):Nat->Int->Option Int
 |0,_=>none
 |n+1,g=>
  bif (decide (g<(f.1.length:Int)))then(bnd (Xd f.1 g) λk=>
   bnd (Qeo N h k) λo=>
   bnd (QdQ N o.1) λp=>
   bnd (QaM N h f g k p N 0) λe=>exK e (λj=>some j) λq=>
   Qcq N h f n (wI (g+1)))
  else some 0
def Qfi(N:Nat)(f:Wh):Option Us:=bnd (QdN N f) λh=>bnd (Qcq N f h N 0) λe=>bif (e==0)then some (Us.mk 0 0 0)else bnd (Qck N f.c e) λg=>some (Us.mk 6 g.1 e)
def Qcm(N:Nat)(e:Wh):Nat->Int->Int->Option Int
 |0,_,_=>none
 |n+1,g,f=>
  bif (decide (f<(e.p.length:Int)))then(bnd (Xd e.p f) λh=>
   bif (h.k==1)then(bif (decide (h.P>0))then Qcm N e n (wI (g+1)) (wI (f+1))
    else Qcm N e n g (wI (f+1)))
   else Qcm N e n g (wI (f+1)))
  else some g
def QgZ(N:Nat)(e:Wh):Option Us:=bnd (QbZ N e) λh=>bif (!h)then some (Us.mk 1 0 0)else bnd (Qgn N e) λf=>bif (!((f.Fault==0)&&((f.Page==0)&&(f.Addr==0))))then some f else bnd (Qfi N e) λg=>bif (!((g.Fault==0)&&((g.Page==0)&&(g.Addr==0))))then some g else bnd (Qcm N e N 0 0) λj=>bif (decide (j>(wI (e.c.p.tdiv 4))))then some (Us.mk 7 0 0)else some (Us.mk 0 0 0)
def Qfu(N:Nat)(f:Wh):Option Bool:=bnd (QgZ N f) λe=>some ((e.Fault==0)&&((e.Page==0)&&(e.Addr==0)))
def Qfa(N:Nat)(e:UE)(f:Int):Option Bool:=some (e.a==f)
def Qap(N:Nat)(f:List UE)(c0:Int):Nat->Int->Option (Ex Int Unit)
 |0,_=>none
 |n+1,e=>
  bif (decide (e<(f.length:Int)))then(bnd (Xd f e) λg=>
   bnd (Qfa N g c0) λh=>
   bif h then some (.ret e)
   else Qap N f c0 n (wI (e+1)))
  else some (.nxt ())
def Qa5(N:Nat)(f:List UE)(c0:Int):Option Int:=bnd (Qap N f c0 N 0) λe=>exK e (λr=>some r) λg=>some (-1)
def QfF(N:Nat)(e:List UE)(f:Int):Option Int:=bnd (Qa5 N e f) λg=>some g
def Qcb(N:Nat)(f:List UE)(k:Wh)(o:List Int×Int):Nat->Int->(List Int)->Option (Ex (List Int×Bool) (List Int))
 |0,_,_=>none
 |n+1,g,h=>
  bif (decide (g<(f.length:Int)))then(bnd (Xd f g) λe=>
   bnd (Qax N o.1 e.a) λp=>
   bif (!p.2)then some (.ret ([],false))
   else bif (decide (e.M<1))then some (.ret ([],false))
   else bif (decide (e.M>1000))then some (.ret ([],false))
   else bnd (QfF N f e.a) λq=>
   bif (q != g)then some (.ret ([],false))
   else bnd (Qck N k.c e.a) λj=>
   bnd (Xd h j.1) λr=>
   bnd (Xd h j.1) λs=>
   Qcb N f k o n (wI (g+1)) (h.set j.1.toNat (wI (r+e.M))))
  else some (.nxt h)
def QfU(N:Nat)(h:List UE)(f:Wh):Option (List Int×Bool):=bnd (QdN N f) λj=>grd (0<=(f.p.length:Int)/\(f.p.length:Int).toNat*8<=140737488355328) <| bnd (Qcb N h f j N 0 (List.replicate (f.p.length:Int).toNat (0:Int))) λe=>exK e (λr=>some r) λg=>some (g,true)
def Qew(N:Nat)(f:Wh)(g:List Int×Bool):Nat->Int->Option (Ex Bool Unit)
 |0,_=>none
 |n+1,e=>
  bif (decide (e<(f.p.length:Int)))then(bnd (Xd f.p e) λh=>
   bnd (Xd g.1 e) λj=>
   bif (h.P != j)then some (.ret false)
   else Qew N f g n (wI (e+1)))
  else some (.nxt ())
def Qg3(N:Nat)(f:Wh)(g:List UE):Option Bool:=bnd (Qfu N f) λj=>bif (!j)then some false else bif (decide ((g.length:Int)>64))then some false else bnd (QfU N g f) λh=>bif (!h.2)then some false else bnd (Qew N f h N 0) λe=>exK e (λr=>some r) λk=>some true
def Qay(N:Nat)(f:List Int)(g:Int):Nat->Int->Option (Ex Int Unit)
 |0,_=>none
 |n+1,e=>
  bif (decide (e<(f.length:Int)))then(bnd (Xd f e) λh=>
   bif (g==h)then some (.ret e)
   else Qay N f g n (wI (e+1)))
  else some (.nxt ())
def QbR(N:Nat)(f:List Int)(g:Int):Option Int:=bnd (Qay N f g N 0) λe=>exK e (λr=>some r) λh=>some (-1)
def Qai(N:Nat)(e:List Int)(f:Int):Option Bool:=bnd (QbR N e f) λg=>some (decide (g>=0))
def Qex(N:Nat)(e:Int)(f:List Int):Option Bool:=bnd (Qax N f e) λg=>bif (e != 0)then some (!g.2)else some false
def Qar(N:Nat)(f c0:List Int):Nat->Int->Option (Ex Int Unit)
 |0,_=>none
 |n+1,e=>
  bif (decide (e<(f.length:Int)))then(bnd (Xd f e) λg=>
   bnd (Qex N g c0) λh=>
   bif h then some (.ret e)
   else Qar N f c0 n (wI (e+1)))
  else some (.nxt ())
def Qa8(N:Nat)(f c0:List Int):Option Int:=bnd (Qar N f c0 N 0) λe=>exK e (λr=>some r) λg=>some (-1)
def QaZ(N:Nat)(e c0:List Int):Option Bool:=bnd (Qa8 N e c0) λf=>some (decide (f>=0))
def QdO(N:Nat)(e:Wh)(f:List Int):Option Bool:=bnd (Qfu N e) λg=>bif (!g)then some false else bnd (QdN N e) λh=>bnd (QaZ N f h.1) λj=>some (!j)
def Qf0(N:Nat)(e:Um):Option Bool:=bnd (Qg3 N e.h e.P) λj=>bif (!j)then some false else bnd (Qe0 N e.l) λk=>bif (!k)then some false else bnd (Qen N e.g) λo=>bif (!o)then some false else bnd (Qen N e.v) λp=>bif (!p)then some false else bnd (QdF N e.g) λq=>bnd (Qai N q 0) λr=>bif r then some false else bnd (Qgc N e) λs=>bnd (QdF N e.v) λu=>bnd (Qgb N [s,u]) λw=>bnd (QdO N e.h w) λf=>some f
def Qad(N:Nat)(e:List Wr):Option (List Wr):=some e
def Qb4(N:Nat)(e:Wh)(g:List Int×Int)(h:List Int)(f:List Wr):Nat->Int->(List Wr)->Option (List Wr)
 |0,_,_=>none
 |n+1,v6,v7=>
  bif (decide (v6<(f.length:Int)))then(bnd (Xd v7 v6) λo=>
   bif (o.k==1)then(bif (decide (o.P>0))then(bnd (Xd v7 v6) λj=>
       Qb4 N e g h f n (wI (v6+1)) (v7.set v6.toNat (Wr.mk j.k (wI (1-e.s)) j.u j.P)))
    else Qb4 N e g h f n (wI (v6+1)) v7)
   else Qb4 N e g h f n (wI (v6+1)) v7)
  else some v7
def Qeq(N:Nat)(e:Wh):Option (Wu×Int):=bnd (QbZ N e) λk=>bif (!k)then some ((Wu.mk zHp [] [] [] 0 (WV.mk 0 0 0 0 0 0)),1)else bnd (Qfu N e) λo=>bif (!o)then some ((Wu.mk zHp [] [] [] 0 (WV.mk 0 0 0 0 0 0)),19)else bnd (QdN N e) λf=>bif (f.2 != 0)then some ((Wu.mk zHp [] [] [] 0 (WV.mk 0 0 0 0 0 0)),f.2)else bnd (Qac N e.w) λj=>bnd (Qad N e.p) λg=>grd (g.length<=140737488355328) <| bnd (Qb4 N e f j g N 0 g) λh=>some ((Wu.mk (Wh.mk e.c j h e.s e.b) f.1 [] [] 0 (WV.mk 0 0 0 0 0 0)),0)
def QeI(N:Nat)(f:Int):Option (Int×Bool):=bnd (Qe1 N f [2,32]) λe=>bif (e.2 != 0)then some (0,false)else bnd (Xd e.1 0) λg=>bif (g != 2)then some (0,false)else bnd (Xd e.1 1) λh=>some (h,true)
def QbH(N:Nat)(f:List Int)(g:Int):Nat->Int->Option (Ex Int Unit)
 |0,_=>none
 |n+1,e=>
  bif (decide (e<(f.length:Int)))then(bnd (Xd f e) λh=>
   bif (g==h)then some (.ret e)
   else QbH N f g n (wI (e+1)))
  else some (.nxt ())
def Qee(N:Nat)(f:List Int)(g:Int):Option Int:=bnd (QbH N f g N 0) λe=>exK e (λr=>some r) λh=>some (-1)
def Qba(N:Nat)(e:List Int)(f:Int):Option Bool:=bnd (Qee N e f) λg=>some (decide (g>=0))
def QcV(N:Nat)(e:Wu)(f:Int):Option Bool:=jn (λ(q:Bool)=>some q) λg=>bif (decide (f<0))then g false else grd (e.h.p.length<=140737488355328) <| bif (decide (f>=(e.h.p.length:Int)))then g false else bnd (Xd e.h.p f) λo=>jn (λ(r:Bool)=>g r) λj=>bif (o.k==1)then(bif (o.s==(wI (1-e.h.s)))then(bnd (Qba N e.t f) λu=>j (!u))else j false)else j false
def Qdm(N:Nat)(e:List Wr):Nat->Int->Int->Option Int
 |0,_,_=>none
 |n+1,g,f=>
  bif (decide (f<(e.length:Int)))then(bnd (Xd e f) λh=>
   bif (h.k != 0)then Qdm N e n (wI (g+1)) (wI (f+1))
   else Qdm N e n g (wI (f+1)))
  else some g
def Qgf(N:Nat)(e:List Wr):Option Int:=bnd (Qdm N e N 0 0) λf=>some f
def QgC(N:Nat)(h:List Wr)(e:Int)(f:List Wr):Option (List Wr×Int):=bif (decide (e<0))then some ([],2)else bif (decide (e>(wI ((h.length:Int)-(f.length:Int)))))then some ([],2)else grd (0<=e/\e<=(wI (e+(f.length:Int)))/\(wI (e+(f.length:Int)))<=(h.length:Int)) <| bnd (Qgf N ((h.drop e.toNat).take ((wI (e+(f.length:Int))).toNat-e.toNat))) λj=>bif (decide (j>0))then some ([],20)else bnd (Qad N h) λg=>grd (0<=e/\e<=(g.length:Int)/\(g.length:Int)<=(g.length:Int)) <| grd (f.length<=(g.length-e.toNat)) <| some ((((g.take e.toNat)++f)++(g.drop (e.toNat+f.length))),0)
def Qef(N:Nat)(g:List Wr)(h e:Int):Option (List Wr×Int):=bnd (Qb3 N (Wr.mk 1 e 0 0)) λj=>bif (!j)then some ([],1)else bnd (QgC N g h [(Wr.mk 1 e 0 0)]) λf=>some (f.1,f.2)
def QcF(N:Nat)(g:List Wr):Nat->Int->(List Ox)->Option (List Ox)
 |0,_,_=>none
 |n+1,f,e=>
  bif (decide (f<(g.length:Int)))then(bnd (Xd g f) λj=>
   grd (e.length<=140737488355328) <|
   bif (j.k != 0)then QcF N g n (wI (f+1)) e
   else jn (λ(_:Unit)=>
    grd ((e.length+1)*16<=140737488355328) <|
    QcF N g n (wI (f+1)) (e++[(Ox.mk f 1)])) λh=>
   bif (decide ((wI ((e.length:Int)-1))>=0))then(bnd (Xd e (wI ((e.length:Int)-1))) λo=>
    bnd (Xd e (wI ((e.length:Int)-1))) λp=>
    bif ((wI (o.O+p.Len))==f)then(bnd (Xd e (wI ((e.length:Int)-1))) λq=>
     bnd (Xd e (wI ((e.length:Int)-1))) λr=>
     QcF N g n (wI (f+1)) (e.set (wI ((e.length:Int)-1)).toNat (Ox.mk r.O (wI (q.Len+1)))))
    else h ())
   else h ())
  else some e
def Qg4(N:Nat)(e:List Wr):Option (List Ox):=bnd (QcF N e N 0 []) λf=>some f
def Qd0(N:Nat)(g:Int)(e:List Ox):Nat->Int->Option (Ex Int Unit)
 |0,_=>none
 |n+1,f=>
  bif (decide (f<(e.length:Int)))then(bnd (Xd e f) λh=>
   bif (decide (h.Len>=g))then some (.ret h.O)
   else Qd0 N g e n (wI (f+1)))
  else some (.nxt ())
def QdG(N:Nat)(g:List Wr)(f:Int):Option Int:=bif (decide (f<1))then some (-1)else bnd (Qg4 N g) λh=>bnd (Qd0 N f h N 0) λe=>exK e (λr=>some r) λj=>some (-1)
def Qcr(N:Nat)(e:Wu)(w:Int):Option (Int×Int×Int×List Wr×List Int):=jn (λ(x y z:Int) (j:List Wr) (k:List Int)=>some (x,y,z,j,k)) λo=>grd (e.t.length<=140737488355328) <| jn (λ(_:Unit)=>bnd (QdG N e.h.p 1) λf=>bif (decide (f<0))then o 0 0 3 e.h.p e.t else bnd (Qef N e.h.p f (wI (1-e.h.s))) λq=>bif (q.2 != 0)then none else grd ((e.t.length+1)*8<=140737488355328) <| o f 0 0 q.1 (e.t++[f])) λg=>bif (decide ((e.t.length:Int)>0))then(bnd (Xd e.t (wI ((e.t.length:Int)-1))) λA=>bif (decide (A>=0))then(bnd (Xd e.t (wI ((e.t.length:Int)-1))) λB=>grd (e.h.p.length<=140737488355328) <| bif (decide (B<(e.h.p.length:Int)))then(bnd (Xd e.t (wI ((e.t.length:Int)-1))) λr=>bnd (Xd e.h.p r) λv=>bif (decide (w<=(wI (e.h.c.W-v.u))))then o r v.u 0 e.h.p e.t else g ())else g ())else g ())else g ()
def QdP(N:Nat)(e f:Int):Option Bool:=bnd (QcU N f) λg=>some ((Xcw .u64 e g)==0)
def Qbl(N:Nat)(e:List Ih):Nat->Int->Int->Option (Ex (Int×Int) Unit)
 |0,_,_=>none
 |n+1,h,f=>
  bif (decide (f<(e.length:Int)))then(bnd (Xd e f) λg=>
   bif (decide (g.Width<1))then some (.ret (0,1))
   else bif (decide (g.Width>h))then some (.ret (0,1))
   else Qbl N e n (wI (h-g.Width)) (wI (f+1)))
  else some (.nxt ())
def Qbm(N:Nat)(f:List Ih):Nat->Int->Int->Int->Option (Ex (Int×Int) Int)
 |0,_,_,_=>none
 |n+1,g,v6,v7=>
  bif (decide (v7<(f.length:Int)))then(bnd (Xd f v7) λe=>
   bnd (QdP N e.Value e.Width) λh=>
   bif (!h)then some (.ret (0,2))
   else grd (0<=v6) <|
   Qbm N f n (bOr .u64 g (Kj .u64 e.Value v6)) (wI (v6+e.Width)) (wI (v7+1)))
  else some (.nxt g)
def Qf1(N:Nat)(g:List Ih):Option (Int×Int):=bnd (Qbl N g N 64 0) λe=>exK e (λr=>some r) λh=>bnd (Qbm N g N 0 0 0) λe=>exK e (λr=>some r) λf=>some (f,0)
def Qb1(N:Nat)(e:Int):Option (Int×Int):=bnd (QcU N 32) λg=>bif (decide (e>g))then some (0,1)else bnd (Qf1 N [(Ih.mk 2 2),(Ih.mk 32 e)]) λf=>some (f.1,f.2)
def QbI(N:Nat)(j:Wu)(o:Int):Nat->Int->(List Wr)->Option (List Wr)
 |0,_,_=>none
 |n+1,e,v13=>
  grd (v13.length<=140737488355328) <|
  bif (decide (e<(v13.length:Int)))then(bnd (Xd v13 e) λg=>
   bif (g.k==3)then(bnd (Xd v13 e) λf=>
    QbI N j o n (wI (e+1)) (v13.set e.toNat (Wr.mk f.k (wI (1-j.h.s)) f.u f.P)))
   else some v13)
  else some v13
def Qa0(N:Nat)(e:Wu)(G:Int):Option (Int×Int×Wu):=jn (λ(R S T U:Int) (V:List Int) (Y:List Wr) (Z x47:List Int)=>some (R,S,(Wu.mk (Wh.mk e.h.c V Y e.h.s e.h.b) e.o Z x47 e.d (WV.mk T U e.r.F e.r.E e.r.f e.r.y)))) λD=>bif (G==0)then D G 0 e.r.j e.r.K e.h.w e.h.p e.t e.q else bnd (Qai N e.q G) λy1=>bif y1 then D G 0 e.r.j e.r.K e.h.w e.h.p e.t e.q else bnd (Qai N e.o G) λy2=>bif (!y2)then D 0 19 e.r.j e.r.K e.h.w e.h.p e.t e.q else bnd (Qck N e.h.c G) λA=>bif (A.2.2 != 0)then D 0 19 e.r.j e.r.K e.h.w e.h.p e.t e.q else grd (e.h.w.length<=140737488355328) <| bif (decide (1>(wI ((e.h.w.length:Int)-(wI ((wI (A.1*e.h.c.W))+A.2.1))))))then D 0 19 e.r.j e.r.K e.h.w e.h.p e.t e.q else grd (0<=(wI ((wI (A.1*e.h.c.W))+A.2.1))/\(wI ((wI (A.1*e.h.c.W))+A.2.1))<=(wI ((wI ((wI (A.1*e.h.c.W))+A.2.1))+1))/\(wI ((wI ((wI (A.1*e.h.c.W))+A.2.1))+1))<=(e.h.w.length:Int)) <| bnd (KP e.h.w ((wI ((wI (A.1*e.h.c.W))+A.2.1)).toNat) ((wI ((wI ((wI (A.1*e.h.c.W))+A.2.1))+1)).toNat-(wI ((wI (A.1*e.h.c.W))+A.2.1)).toNat) 0) λp6=>bnd (QeI N p6) λy7=>bif y7.2 then D y7.1 0 e.r.j e.r.K e.h.w e.h.p e.t e.q else bnd (Qck N e.h.c G) λL=>grd (e.h.p.length<=140737488355328) <| bif (decide (L.1>=(e.h.p.length:Int)))then D 0 19 e.r.j e.r.K e.h.w e.h.p e.t e.q else bnd (QcV N e L.1) λy9=>bif y9 then(grd ((e.q.length+1)*8<=140737488355328) <| D G 0 e.r.j (wI (e.r.K+1)) e.h.w e.h.p e.t (e.q++[G]))else bnd (Xd e.h.p L.1) λp10=>bif (p10.k==2)then(bnd (Xd e.h.p L.1) λI=>bnd (QbI N e G N (wI (L.1+1)) (e.h.p.set L.1.toNat (Wr.mk I.k (wI (1-e.h.s)) I.u I.P))) λy16=>grd ((e.q.length+1)*8<=140737488355328) <| D G 0 e.r.j (wI (e.r.K+1)) e.h.w y16 e.t (e.q++[G]))else bnd (KP e.h.w ((wI ((wI (A.1*e.h.c.W))+A.2.1)).toNat) ((wI ((wI ((wI (A.1*e.h.c.W))+A.2.1))+1)).toNat-(wI ((wI (A.1*e.h.c.W))+A.2.1)).toNat) 0) λp17=>bnd (QdY N p17) λH=>bnd (Qbq N H.1) λx=>bnd (Qck N e.h.c G) λg=>bif (g.2.2 != 0)then(bif (!H.2)then D 0 19 e.r.j e.r.K e.h.w e.h.p e.t e.q else D 0 19 e.r.j e.r.K e.h.w e.h.p e.t e.q)else grd (e.h.w.length<=140737488355328) <| bif (decide (x>(wI ((e.h.w.length:Int)-(wI ((wI (g.1*e.h.c.W))+g.2.1))))))then(bif (!H.2)then D 0 19 e.r.j e.r.K e.h.w e.h.p e.t e.q else D 0 19 e.r.j e.r.K e.h.w e.h.p e.t e.q)else grd (0<=(wI ((wI (g.1*e.h.c.W))+g.2.1))/\(wI ((wI (g.1*e.h.c.W))+g.2.1))<=(wI ((wI ((wI (g.1*e.h.c.W))+g.2.1))+x))/\(wI ((wI ((wI (g.1*e.h.c.W))+g.2.1))+x))<=(e.h.w.length:Int)) <| bif (!H.2)then D 0 19 e.r.j e.r.K e.h.w e.h.p e.t e.q else grd (((wI ((wI ((wI (g.1*e.h.c.W))+g.2.1))+x)).toNat-(wI ((wI (g.1*e.h.c.W))+g.2.1)).toNat)<=140737488355328) <| bnd (Qcr N e ((((wI ((wI ((wI (g.1*e.h.c.W))+g.2.1))+x)).toNat-(wI ((wI (g.1*e.h.c.W))+g.2.1)).toNat):Nat):Int)) λz=>bif (z.2.2.1 != 0)then D 0 z.2.2.1 e.r.j e.r.K e.h.w z.2.2.2.1 z.2.2.2.2 e.q else jn (λ(x34 x35 x36:Int) (x37:List Int) (x38:List Wr) (x39:List Int)=>D x34 x35 x36 e.r.K x37 x38 z.2.2.2.2 x39) λM=>bnd (Qdd N e.h.c z.1 z.2.1) λB=>bif (B.2 != 0)then M 0 B.2 e.r.j e.h.w z.2.2.2.1 e.q else grd (((wI ((wI ((wI (g.1*e.h.c.W))+g.2.1))+x)).toNat-(wI ((wI (g.1*e.h.c.W))+g.2.1)).toNat)<=140737488355328) <| bnd (Qck N e.h.c B.1) λv=>bif (v.2.2 != 0)then(bnd (Qb1 N B.1) λy28=>M 0 19 e.r.j e.h.w z.2.2.2.1 e.q)else grd (e.h.w.length<=140737488355328) <| bif (decide (((((wI ((wI ((wI (g.1*e.h.c.W))+g.2.1))+x)).toNat-(wI ((wI (g.1*e.h.c.W))+g.2.1)).toNat):Nat):Int)>(wI ((e.h.w.length:Int)-(wI ((wI (v.1*e.h.c.W))+v.2.1))))))then(bnd (Qb1 N B.1) λy29=>M 0 19 e.r.j e.h.w z.2.2.2.1 e.q)else grd (0<=(wI ((wI (v.1*e.h.c.W))+v.2.1))/\(wI ((wI (v.1*e.h.c.W))+v.2.1))<=(wI ((wI ((wI (v.1*e.h.c.W))+v.2.1))+((((wI ((wI ((wI (g.1*e.h.c.W))+g.2.1))+x)).toNat-(wI ((wI (g.1*e.h.c.W))+g.2.1)).toNat):Nat):Int)))/\(wI ((wI ((wI (v.1*e.h.c.W))+v.2.1))+((((wI ((wI ((wI (g.1*e.h.c.W))+g.2.1))+x)).toNat-(wI ((wI (g.1*e.h.c.W))+g.2.1)).toNat):Nat):Int)))<=(e.h.w.length:Int)) <| bnd (Qb1 N B.1) λO=>bif (O.2 != 0)then M 0 19 e.r.j e.h.w z.2.2.2.1 e.q else grd (((wI ((wI ((wI (g.1*e.h.c.W))+g.2.1))+x)).toNat-(wI ((wI (g.1*e.h.c.W))+g.2.1)).toNat)<=((wI ((wI ((wI (v.1*e.h.c.W))+v.2.1))+((((wI ((wI ((wI (g.1*e.h.c.W))+g.2.1))+x)).toNat-(wI ((wI (g.1*e.h.c.W))+g.2.1)).toNat):Nat):Int))).toNat-(wI ((wI (v.1*e.h.c.W))+v.2.1)).toNat)) <| bnd (KP (((e.h.w.take (wI ((wI (v.1*e.h.c.W))+v.2.1)).toNat)++((e.h.w.drop (wI ((wI (g.1*e.h.c.W))+g.2.1)).toNat).take ((wI ((wI ((wI (g.1*e.h.c.W))+g.2.1))+x)).toNat-(wI ((wI (g.1*e.h.c.W))+g.2.1)).toNat)))++(e.h.w.drop ((wI ((wI (v.1*e.h.c.W))+v.2.1)).toNat+((wI ((wI ((wI (g.1*e.h.c.W))+g.2.1))+x)).toNat-(wI ((wI (g.1*e.h.c.W))+g.2.1)).toNat)))) ((wI ((wI (g.1*e.h.c.W))+g.2.1)).toNat) ((wI ((wI ((wI (g.1*e.h.c.W))+g.2.1))+x)).toNat-(wI ((wI (g.1*e.h.c.W))+g.2.1)).toNat) 0) λp31=>bnd (Xd z.2.2.2.1 z.1) λp32=>grd (((wI ((wI ((wI (g.1*e.h.c.W))+g.2.1))+x)).toNat-(wI ((wI (g.1*e.h.c.W))+g.2.1)).toNat)<=140737488355328) <| bnd (Xd z.2.2.2.1 z.1) λJ=>grd ((e.q.length+1)*8<=140737488355328) <| M B.1 0 (wI (e.r.j+1)) ((((e.h.w.take (wI ((wI (v.1*e.h.c.W))+v.2.1)).toNat)++((e.h.w.drop (wI ((wI (g.1*e.h.c.W))+g.2.1)).toNat).take ((wI ((wI ((wI (g.1*e.h.c.W))+g.2.1))+x)).toNat-(wI ((wI (g.1*e.h.c.W))+g.2.1)).toNat)))++(e.h.w.drop ((wI ((wI (v.1*e.h.c.W))+v.2.1)).toNat+((wI ((wI ((wI (g.1*e.h.c.W))+g.2.1))+x)).toNat-(wI ((wI (g.1*e.h.c.W))+g.2.1)).toNat)))).set (wI ((wI (g.1*e.h.c.W))+g.2.1)).toNat O.1) (z.2.2.2.1.set z.1.toNat (Wr.mk J.k J.s (wI (p32.u+((((wI ((wI ((wI (g.1*e.h.c.W))+g.2.1))+x)).toNat-(wI ((wI (g.1*e.h.c.W))+g.2.1)).toNat):Nat):Int))) J.P)) (e.q++[B.1])
def QaN(N:Nat)(e:List Int):Option (List Int):=some e
def Qd1(N:Nat)(A:List Int):Nat->Int->Int->Int->Int->Int->Int->Int->Int->Int->Int->Int->Int->(List Int)->(List Wr)->(List Int)->(List Int)->(List Int)->(List Int)->Option (Ex (Wu×List Int×Int) (Int×Int×Int×Int×Int×Int×Int×Int×Int×Int×Int×List Int×List Wr×List Int×List Int×List Int×List Int))
 |0,_,_,_,_,_,_,_,_,_,_,_,_,_,_,_,_,_,_=>none
 |n+1,v6,v7,v8,v9,v10,v11,k,v13,u,v15,v,v17,v18,v19,v20,x,z,g=>
  bif (decide (v6<(A.length:Int)))then(bnd (Xd A v6) λB=>
   bnd (Qa0 N (Wu.mk (Wh.mk (WR.mk v7 v8) v18 v19 v9 v10) v20 x z v11 (WV.mk k v13 u v15 v v17)) B) λe=>
   bif (e.2.1 != 0)then some (.ret ((Wu.mk zHp [] [] [] 0 (WV.mk 0 0 0 0 0 0)),[],e.2.1))
   else grd ((g.length+1)*8<=140737488355328) <|
   Qd1 N A n (wI (v6+1)) e.2.2.h.c.W e.2.2.h.c.p e.2.2.h.s e.2.2.h.b e.2.2.d e.2.2.r.j e.2.2.r.K e.2.2.r.F e.2.2.r.E e.2.2.r.f e.2.2.r.y e.2.2.h.w e.2.2.h.p e.2.2.o e.2.2.t e.2.2.q (g++[e.1]))
  else some (.nxt (v7,v8,v9,v10,v11,k,v13,u,v15,v,v17,v18,v19,v20,x,z,g))
def Qfv(N:Nat)(k:Wu)(u:List Int):Option (Wu×List Int×Int):=bnd (Qac N k.h.w) λv=>bnd (Qad N k.h.p) λx=>bnd (Qac N k.o) λz=>bnd (QaN N k.t) λA=>bnd (Qac N k.q) λB=>bnd (Qd1 N u N 0 k.h.c.W k.h.c.p k.h.s k.h.b k.d k.r.j k.r.K k.r.F k.r.E k.r.f k.r.y v x z A B []) λe=>exK e (λr=>some r) λg=>some ((Wu.mk (Wh.mk (WR.mk g.1 g.2.1) g.2.2.2.2.2.2.2.2.2.2.2.1 g.2.2.2.2.2.2.2.2.2.2.2.2.1 g.2.2.1 g.2.2.2.1) g.2.2.2.2.2.2.2.2.2.2.2.2.2.1 g.2.2.2.2.2.2.2.2.2.2.2.2.2.2.1 g.2.2.2.2.2.2.2.2.2.2.2.2.2.2.2.1 g.2.2.2.2.1 (WV.mk g.2.2.2.2.2.1 g.2.2.2.2.2.2.1 g.2.2.2.2.2.2.2.1 g.2.2.2.2.2.2.2.2.1 g.2.2.2.2.2.2.2.2.2.1 g.2.2.2.2.2.2.2.2.2.2.1)),g.2.2.2.2.2.2.2.2.2.2.2.2.2.2.2.2,0)
def Qe3(N:Nat)(v6 k:Int)(g:Int×Int×Int)(u:List Int):Nat->Int->Int->Int->Int->Int->Int->Int->Int->Int->Int->Int->Int->(List Int)->(List Wr)->(List Int)->(List Int)->(List Int)->Option (Ex (Int×Int×Int×Int×Int×Int×Int×Int×Int×Int×Int×Int×List Int×List Wr×List Int×List Int×List Int) (Int×Int×Int×Int×Int×Int×Int×Int×Int×Int×Int×List Int×List Wr×List Int×List Int×List Int))
 |0,_,_,_,_,_,_,_,_,_,_,_,_,_,_,_,_,_=>none
 |n+1,v,z,A,B,D,G,H,I,J,L,M,O,v45,R,S,T,U=>
  bif (decide (v<(u.length:Int)))then(bnd (Xd u v) λx=>
   bnd (KP v45 ((wI ((wI (g.1*v6))+g.2.1)).toNat) ((wI ((wI ((wI (g.1*v6))+g.2.1))+k)).toNat-(wI ((wI (g.1*v6))+g.2.1)).toNat) (wI (1+x))) λV=>
   bnd (Qa0 N (Wu.mk (Wh.mk (WR.mk z A) v45 R B D) S T U G (WV.mk H I J L M O)) V) λe=>
   bif (e.2.1 != 0)then some (.ret (e.2.1,e.2.2.h.c.W,e.2.2.h.c.p,e.2.2.h.s,e.2.2.h.b,e.2.2.d,e.2.2.r.j,e.2.2.r.K,e.2.2.r.F,e.2.2.r.E,e.2.2.r.f,e.2.2.r.y,e.2.2.h.w,e.2.2.h.p,e.2.2.o,e.2.2.t,e.2.2.q))
   else bnd (KP e.2.2.h.w ((wI ((wI (g.1*v6))+g.2.1)).toNat) ((wI ((wI ((wI (g.1*v6))+g.2.1))+k)).toNat-(wI ((wI (g.1*v6))+g.2.1)).toNat) (wI (1+x))) λY=>
   Qe3 N v6 k g u n (wI (v+1)) e.2.2.h.c.W e.2.2.h.c.p e.2.2.h.s e.2.2.h.b e.2.2.d e.2.2.r.j e.2.2.r.K e.2.2.r.F e.2.2.r.E e.2.2.r.f e.2.2.r.y (e.2.2.h.w.set ((wI ((wI (g.1*v6))+g.2.1)).toNat+(wI (1+x)).toNat) e.1) e.2.2.h.p e.2.2.o e.2.2.t e.2.2.q)
  else some (.nxt (z,A,B,D,G,H,I,J,L,M,O,v45,R,S,T,U))
def Qe4(N:Nat):Nat->Int->Int->Int->Int->Int->Int->Int->Int->Int->Int->Int->(List Int)->(List Wr)->(List Int)->(List Int)->(List Int)->Option (Wu×Int)
 |0,_,_,_,_,_,_,_,_,_,_,_,_,_,_,_,_=>none
 |n+1,v6,v7,v8,v9,v10,v11,o,v13,p,v15,q,v17,v18,v19,v20,j=>
  jn (λ(T:Bool) (v w x y z A B D E G H I:Int) (J:List Int) (K:List Wr) (L M O:List Int)=>
   bif (v != 0)then some ((Wu.mk zHp [] [] [] 0 (WV.mk 0 0 0 0 0 0)),v)
   else bif (!T)then some ((Wu.mk (Wh.mk (WR.mk w x) J K y z) L M O A (WV.mk B D E G H I)),0)
   else Qe4 N n w x y z A B D E G H I J K L M O) λr=>
  bif (decide (v10<0))then r false 0 v6 v7 v8 v9 v10 v11 o v13 p v15 q v17 v18 v19 v20 j
  else grd (j.length<=140737488355328) <|
  bif (decide (v10>=(j.length:Int)))then r false 0 v6 v7 v8 v9 v10 v11 o v13 p v15 q v17 v18 v19 v20 j
  else bnd (Xd j v10) λR=>
  bnd (Qck N (WR.mk v6 v7) R) λf=>
  bif (f.2.2 != 0)then r false 19 v6 v7 v8 v9 v10 v11 o v13 p v15 q v17 v18 v19 v20 j
  else grd (v17.length<=140737488355328) <|
  bif (decide (1>(wI ((v17.length:Int)-(wI ((wI (f.1*v6))+f.2.1))))))then r false 19 v6 v7 v8 v9 v10 v11 o v13 p v15 q v17 v18 v19 v20 j
  else grd (0<=(wI ((wI (f.1*v6))+f.2.1))/\(wI ((wI (f.1*v6))+f.2.1))<=(wI ((wI ((wI (f.1*v6))+f.2.1))+1))/\(wI ((wI ((wI (f.1*v6))+f.2.1))+1))<=(v17.length:Int)) <|
  bnd (KP v17 ((wI ((wI (f.1*v6))+f.2.1)).toNat) ((wI ((wI ((wI (f.1*v6))+f.2.1))+1)).toNat-(wI ((wI (f.1*v6))+f.2.1)).toNat) 0) λU=>
  bnd (QdY N U) λs=>
  bnd (Qbq N s.1) λu=>
  bnd (Qck N (WR.mk v6 v7) R) λk=>
  bif (k.2.2 != 0)then(bif (!s.2)then r false 19 v6 v7 v8 v9 v10 v11 o v13 p v15 q v17 v18 v19 v20 j
   else r false 19 v6 v7 v8 v9 v10 v11 o v13 p v15 q v17 v18 v19 v20 j)
  else grd (v17.length<=140737488355328) <|
  bif (decide (u>(wI ((v17.length:Int)-(wI ((wI (k.1*v6))+k.2.1))))))then(bif (!s.2)then r false 19 v6 v7 v8 v9 v10 v11 o v13 p v15 q v17 v18 v19 v20 j
   else r false 19 v6 v7 v8 v9 v10 v11 o v13 p v15 q v17 v18 v19 v20 j)
  else grd (0<=(wI ((wI (k.1*v6))+k.2.1))/\(wI ((wI (k.1*v6))+k.2.1))<=(wI ((wI ((wI (k.1*v6))+k.2.1))+u))/\(wI ((wI ((wI (k.1*v6))+k.2.1))+u))<=(v17.length:Int)) <|
  bif (!s.2)then r false 19 v6 v7 v8 v9 v10 v11 o v13 p v15 q v17 v18 v19 v20 j
  else bnd (QdQ N s.1) λS=>
  bnd (Qe3 N v6 u k S N 0 v6 v7 v8 v9 v10 v11 o v13 p v15 q v17 v18 v19 v20 j) λe=>exK e (λg=>r false g.1 g.2.1 g.2.2.1 g.2.2.2.1 g.2.2.2.2.1 g.2.2.2.2.2.1 g.2.2.2.2.2.2.1 g.2.2.2.2.2.2.2.1 g.2.2.2.2.2.2.2.2.1 g.2.2.2.2.2.2.2.2.2.1 g.2.2.2.2.2.2.2.2.2.2.1 g.2.2.2.2.2.2.2.2.2.2.2.1 g.2.2.2.2.2.2.2.2.2.2.2.2.1 g.2.2.2.2.2.2.2.2.2.2.2.2.2.1 g.2.2.2.2.2.2.2.2.2.2.2.2.2.2.1 g.2.2.2.2.2.2.2.2.2.2.2.2.2.2.2.1 g.2.2.2.2.2.2.2.2.2.2.2.2.2.2.2.2) λh=>
  r true 0 h.1 h.2.1 h.2.2.1 h.2.2.2.1 (wI (h.2.2.2.2.1+1)) h.2.2.2.2.2.1 h.2.2.2.2.2.2.1 h.2.2.2.2.2.2.2.1 h.2.2.2.2.2.2.2.2.1 h.2.2.2.2.2.2.2.2.2.1 (wI (h.2.2.2.2.2.2.2.2.2.2.1+(wI (1+(S.length:Int))))) h.2.2.2.2.2.2.2.2.2.2.2.1 h.2.2.2.2.2.2.2.2.2.2.2.2.1 h.2.2.2.2.2.2.2.2.2.2.2.2.2.1 h.2.2.2.2.2.2.2.2.2.2.2.2.2.2.1 h.2.2.2.2.2.2.2.2.2.2.2.2.2.2.2
def Qf2(N:Nat)(e:Wu):Option (Wu×Int):=bnd (Qac N e.h.w) λg=>bnd (Qad N e.h.p) λk=>bnd (Qac N e.o) λu=>bnd (QaN N e.t) λv=>bnd (Qac N e.q) λx=>bnd (Qe4 N N e.h.c.W e.h.c.p e.h.s e.h.b e.d e.r.j e.r.K e.r.F e.r.E e.r.f e.r.y g k u v x) λr=>some r
def Qam(N:Nat)(e:Int):Option Unit:=bif (e != 0)then none else some ()
def QfG(N:Nat)(e:Wu)(f:Int):Option Int:=bnd (Qai N e.q f) λj=>bif j then some f else bnd (Qck N e.h.c f) λg=>bnd (Qam N g.2.2) λp=>bnd (Xd e.h.w (wI ((wI (g.1*e.h.c.W))+g.2.1))) λk=>bnd (QeI N k) λo=>some o.1
def Qcu(N:Nat)(e:Wu)(g:List Int):Nat->Int->Int->(List Int)->Option (List Int×Int)
 |0,_,_,_=>none
 |n+1,k,f,p=>
  bif (decide (k<(g.length:Int)))then(bnd (Xd g k) λs=>
   jn (λ(x z:Int)=>
    grd ((p.length+1)*8<=140737488355328) <|
    Qcu N e g n (wI (k+1)) z (p++[x])) λu=>
   bif (s != 0)then(bnd (QfG N (Wu.mk e.h e.o e.t e.q e.d (WV.mk e.r.j e.r.K e.r.F e.r.E f e.r.y)) s) λv=>
    jn (λ(A:Int)=>
     u v A) λw=>
    bif (v==0)then w (wI (f+1))
    else w f)
   else u 0 f)
  else some (p,f)
def QdA(N:Nat)(e:Wu)(k:List Int):Option (List Int×Wu):=bnd (Qcu N e k N 0 e.r.f []) λg=>some (g.1,(Wu.mk e.h e.o e.t e.q e.d (WV.mk e.r.j e.r.K e.r.F e.r.E g.2 e.r.y)))
def Qd7(N:Nat)(e:Wu)(f:Int):Option Bool:=jn (λ(q:Bool)=>some q) λg=>bif (decide (f<0))then g false else bif (decide (f>=(e.h.p.length:Int)))then g false else bnd (Xd e.h.p f) λo=>jn (λ(r:Bool)=>g r) λj=>bif (o.k==1)then(bif (o.s==(wI (1-e.h.s)))then(bnd (Qba N e.t f) λu=>j (!u))else j false)else j false
def QfH(N:Nat)(e:Wx):Option (Int×Int):=bnd (Qdc N e) λg=>bif (!g)then some (0,1)else bnd (Qf1 N [(Ih.mk 2 1),(Ih.mk 2 (wU e.k)),(Ih.mk 12 (wU e.n)),(Ih.mk 32 (wU e.Map))]) λf=>some (f.1,f.2)
def Qgo(N:Nat)(h:List Int)(j:Int)(g:List Int):Option (List Int×Int):=bnd (Qe2 N h j (g.length:Int)) λe=>bif (!e.2)then some ([],2)else bnd (Qac N h) λf=>grd (0<=e.1/\e.1<=(f.length:Int)/\(f.length:Int)<=(f.length:Int)) <| grd (g.length<=(f.length-e.1.toNat)) <| some ((((f.take e.1.toNat)++g)++(f.drop (e.1.toNat+g.length))),0)
def Qgg(N:Nat)(e:Wh)(g:List Int)(f:Int):Option (Wh×Int):=bif (f != 0)then some (zHp,f)else bnd (Qad N e.p) λh=>some ((Wh.mk e.c g h e.s e.b),0)
def QfP(N:Nat)(f:Wh)(o:Int)(g:Wx):Option (Wh×Int):=bnd (QfH N g) λh=>bif (h.2 != 0)then some (zHp,1)else bnd (QbZ N f) λp=>bif (!p)then some (zHp,1)else bnd (Qbq N g) λe=>grd (0<=e/\e.toNat*8<=140737488355328) <| bnd (Xd (List.replicate e.toNat (0:Int)) 0) λq=>bnd (Qgo N f.w o ((List.replicate e.toNat (0:Int)).set 0 h.1)) λj=>bnd (Qgg N f j.1 j.2) λk=>some (k.1,k.2)
def Qhf(N:Nat)(g:Wh)(h e:Int):Option (Wh×Int):=bif (decide (e<1))then some (zHp,1)else bif (decide (e>256))then some (zHp,1)else bnd (QfP N g h (Wx.mk 0 (wI (e-1)) 0)) λf=>some (f.1,f.2)
def Qct(N:Nat)(u:Wu)(f:List Int×Int)(v:Int):Nat->Int->Int->Int->(List Int)->(List Wr)->Int->Int->Int->Option (Int×Int×List Int×List Wr×Int×Int×Int)
 |0,_,_,_,_,_,_,_,_=>none
 |n+1,g,v13,h,v15,j,v17,v18,v19=>
  bif (decide (g<(f.1.length:Int)))then(bnd (Xd f.1 g) λo=>
   bnd (Qeo N (Wh.mk (WR.mk v13 h) v15 j v17 v18) o) λr=>
   bnd (Qam N r.2) λz=>
   bif (r.1.k==0)then Qct N u f v n (wI (g+1)) v13 h v15 j v17 v18 v19
   else bnd (Qai N u.q o) λx=>
   bif x then Qct N u f v n (wI (g+1)) v13 h v15 j v17 v18 v19
   else bnd (Qbq N r.1) λy=>
   bnd (Qhf N (Wh.mk (WR.mk v13 h) v15 j v17 v18) o y) λe=>
   bnd (Qam N e.2) λA=>
   Qct N u f v n (wI (g+1)) e.1.c.W e.1.c.p e.1.w e.1.p e.1.s e.1.b (wI (v19+1)))
  else some (v13,h,v15,j,v17,v18,v19)
def Qde(N:Nat)(g:Wu):Nat->Int->Int->Int->(List Int)->(List Wr)->Int->Int->Int->Option (Int×Int×List Int×List Wr×Int×Int×Int)
 |0,_,_,_,_,_,_,_,_=>none
 |n+1,k,s,u,v,w,v6,v7,v8=>
  bif (decide (k<(g.h.p.length:Int)))then(bnd (Qd7 N (Wu.mk (Wh.mk (WR.mk s u) v w v6 v7) g.o g.t g.q g.d (WV.mk g.r.j g.r.K v8 g.r.E g.r.f g.r.y)) k) λz=>
   bif (!z)then Qde N g n (wI (k+1)) s u v w v6 v7 v8
   else bnd (QeT N (Wh.mk (WR.mk s u) v w v6 v7) k) λx=>
   bnd (Qam N x.2) λA=>
   bnd (Qct N g x k N 0 s u v w v6 v7 v8) λe=>
   Qde N g n (wI (k+1)) e.1 e.2.1 e.2.2.1 e.2.2.2.1 e.2.2.2.2.1 e.2.2.2.2.2.1 e.2.2.2.2.2.2)
  else some (s,u,v,w,v6,v7,v8)
def Qey(N:Nat)(e:Wu):Option Wu:=bnd (Qde N e N 0 e.h.c.W e.h.c.p e.h.w e.h.p e.h.s e.h.b e.r.F) λg=>some (Wu.mk (Wh.mk (WR.mk g.1 g.2.1) g.2.2.1 g.2.2.2.1 g.2.2.2.2.1 g.2.2.2.2.2.1) e.o e.t e.q e.d (WV.mk e.r.j e.r.K g.2.2.2.2.2.2 e.r.E e.r.f e.r.y))
def Qez(N:Nat)(g:Wr):Nat->Int->(List Wr)->Option (List Wr)
 |0,_,_=>none
 |n+1,f,e=>
  bif (g.k==2)then(grd (e.length<=140737488355328) <|
   bif (decide (f<(e.length:Int)))then(bnd (Xd e f) λh=>
    bif (h.k==3)then(bnd (Xd e f) λj=>
     Qez N g n (wI (f+1)) (e.set f.toNat (Wr.mk 0 0 0 0)))
    else some e)
   else some e)
  else some e
def Qhg(N:Nat)(f:List Wr)(e:Int):Option (List Wr×Int):=bif (decide (e<0))then some ([],2)else bif (decide (e>=(f.length:Int)))then some ([],2)else bnd (Xd f e) λg=>jn (λ(_:Unit)=>bnd (Qad N f) λh=>bnd (Xd h e) λp=>bnd (Qez N g N (wI (e+1)) (h.set e.toNat (Wr.mk 0 0 0 0))) λo=>some (o,0)) λj=>bif (g.k != 1)then(bif (g.k != 2)then some ([],20)else j ())else j ()
def QbG(N:Nat)(e:Wu):Nat->Int->(List Wr)->Int->(List Int)->Option (List Int×List Wr×Int)
 |0,_,_,_,_=>none
 |n+1,f,j,o,g=>
  bif (decide (f<(e.h.p.length:Int)))then(bnd (Xd e.h.p f) λq=>
   bif (q.k==0)then QbG N e n (wI (f+1)) j o g
   else bif (q.s != e.h.s)then QbG N e n (wI (f+1)) j o g
   else grd (0<=(wI (f*e.h.c.W))/\(wI (f*e.h.c.W))<=(wI ((wI (f+1))*e.h.c.W))/\(wI ((wI (f+1))*e.h.c.W))<=(g.length:Int)) <|
   bif (q.k != 3)then(bnd (Qhg N j f) λr=>
    bnd (Qam N r.2) λu=>
    QbG N e n (wI (f+1)) r.1 (wI (o+1)) (((g.take (wI (f*e.h.c.W)).toNat)++(List.replicate ((wI ((wI (f+1))*e.h.c.W)).toNat-(wI (f*e.h.c.W)).toNat) (0:Int)))++(g.drop ((wI (f*e.h.c.W)).toNat+((wI ((wI (f+1))*e.h.c.W)).toNat-(wI (f*e.h.c.W)).toNat)))))
   else QbG N e n (wI (f+1)) j (wI (o+1)) (((g.take (wI (f*e.h.c.W)).toNat)++(List.replicate ((wI ((wI (f+1))*e.h.c.W)).toNat-(wI (f*e.h.c.W)).toNat) (0:Int)))++(g.drop ((wI (f*e.h.c.W)).toNat+((wI ((wI (f+1))*e.h.c.W)).toNat-(wI (f*e.h.c.W)).toNat)))))
  else some (g,j,o)
def QeA(N:Nat)(e:Wu):Option Wu:=bnd (Qac N e.h.w) λk=>bnd (QbG N e N 0 e.h.p e.r.E k) λg=>some (Wu.mk (Wh.mk e.h.c g.1 g.2.1 e.h.s e.h.b) e.o e.t e.q e.d (WV.mk e.r.j e.r.K e.r.F g.2.2 e.r.f e.r.y))
def QdR(N:Nat)(k:Wh)(o q:List Int):Option (Wh×List Int×List Int×WV×Int):=bnd (Qeq N k) λu=>bif (u.2==0)then(bnd (QaO N [o,q]) λy=>bnd (QdO N k y) λz=>bif z then(bnd (Qfv N u.1 o) λf=>bif (f.2.2==0)then(bnd (Qf2 N f.1) λg=>bif (g.2==0)then(bnd (QdA N g.1 q) λv=>bnd (Qey N v.2) λA=>bnd (QeA N A) λe=>grd (e.t.length<=140737488355328) <| jn (λ(B:Int)=>some ((Wh.mk e.h.c e.h.w e.h.p (wI (1-e.h.s)) B),f.2.1,v.1,e.r,0)) λx=>bif (decide ((e.t.length:Int)>0))then(bnd (Xd e.t (wI ((e.t.length:Int)-1))) λj=>x j)else x (-1))else some (zHp,[],[],(WV.mk 0 0 0 0 0 0),g.2))else some (zHp,[],[],(WV.mk 0 0 0 0 0 0),f.2.2))else none)else none
def Qg0(N:Nat)(e:Wh):Option Wh:=bnd (Qac N e.w) λf=>bnd (Qad N e.p) λg=>some (Wh.mk e.c f g e.s e.b)
def QaW(N:Nat)(e:List UI):Option (List UI):=some e
def QaJ(N:Nat)(e:List UU):Option (List UU):=some e
def Qgu(N:Nat)(e:Ws):Option Ws:=bnd (QaW N e.S) λf=>bnd (QaJ N e.x) λg=>bnd (QaN N e.i) λh=>some (Ws.mk f g h)
def QaK(N:Nat)(e:List W8):Option (List W8):=some e
def Qf3(N:Nat)(f:WG):Option WG:=bnd (QaK N f.e) λg=>some (WG.mk g)
def Qcn(N:Nat)(e:List UE):Option (List UE):=some e
def QgP(N:Nat)(e:Um):Option Um:=bnd (Qg0 N e.h) λf=>bnd (Qgu N e.l) λj=>bnd (Qf3 N e.g) λk=>bnd (Qf3 N e.v) λo=>bnd (Qcn N e.P) λp=>bnd (Qac N e.R) λq=>some (Um.mk f j k o p q)
def Qg1(N:Nat)(e:Ws):Option Ws:=bnd (QaW N e.S) λf=>bnd (QaJ N e.x) λg=>bnd (QaN N e.i) λh=>some (Ws.mk f g h)
def Qd2(N:Nat)(g:Ws):Nat->(List Int)->Int->(List UI)->Option (List UI)
 |0,_,_,_=>none
 |n+1,e,v6,v7=>
  bif (decide (v6<(g.S.length:Int)))then(bnd (Xd v7 v6) λh=>
   bif h.V then(bnd (Xd e 0) λj=>
    grd (0<=1/\1<=(e.length:Int)/\(e.length:Int)<=(e.length:Int)) <|
    bnd (Xd v7 v6) λf=>
    Qd2 N g n (e.drop 1) (wI (v6+1)) (v7.set v6.toNat (UI.mk f.J j f.V)))
   else Qd2 N g n e (wI (v6+1)) v7)
  else some v7
def QgQ(N:Nat)(f:Ws)(g:List Int):Option (Ws×Int):=bnd (Qe0 N f) λj=>bif (!j)then some ((Ws.mk [] [] []),1)else bnd (Qft N f) λk=>bif ((k.length:Int) != (g.length:Int))then some ((Ws.mk [] [] []),1)else bnd (Qai N g 0) λo=>bif o then some ((Ws.mk [] [] []),1)else bnd (Qg1 N f) λe=>grd (e.S.length<=140737488355328) <| bnd (Qd2 N e N g 0 e.S) λh=>some ((Ws.mk h e.x e.i),0)
def Qg2(N:Nat)(f:WG):Option WG:=bnd (QaK N f.e) λg=>some (WG.mk g)
def Qd3(N:Nat)(h:WG):Nat->(List Int)->Int->(List W8)->Option (List W8)
 |0,_,_,_=>none
 |n+1,f,g,v6=>
  bif (decide (g<(h.e.length:Int)))then(bnd (Xd v6 g) λk=>
   bif k.V then(bnd (Xd f 0) λo=>
    grd (0<=1/\1<=(f.length:Int)/\(f.length:Int)<=(f.length:Int)) <|
    bnd (Xd v6 g) λj=>
    Qd3 N h n (f.drop 1) (wI (g+1)) (v6.set g.toNat (W8.mk j.G o j.V)))
   else Qd3 N h n f (wI (g+1)) v6)
  else some v6
def Qgh(N:Nat)(f:WG)(j:List Int):Option (WG×Int):=bnd (Qen N f) λk=>bif (!k)then some ((WG.mk []),1)else bnd (QdF N f) λo=>bif ((o.length:Int) != (j.length:Int))then some ((WG.mk []),1)else bnd (Qg2 N f) λg=>grd (g.e.length<=140737488355328) <| bnd (Qd3 N g N j 0 g.e) λh=>some ((WG.mk h),0)
def QdS(N:Nat)(e:Int)(f:List Int):Option (List Int×List Int):=grd (0<=0/\0<=e/\e<=(f.length:Int)) <| grd (0<=e/\e<=(f.length:Int)/\(f.length:Int)<=(f.length:Int)) <| some ((f.take e.toNat),(f.drop e.toNat))
def Qer(N:Nat)(o:Wh×List Int×List Int×WV×Int)(p:Um)(q:List Int×List Int)(r:Ws×Int)(f:List Int×List Int)(g h:WG×Int):Nat->Int->(List UE)->Option (List UE)
 |0,_,_=>none
 |n+1,e,v15=>
  bif (decide (e<(f.2.length:Int)))then(bnd (Xd f.2 e) λj=>
   bnd (Xd v15 e) λk=>
   Qer N o p q r f g h n (wI (e+1)) (v15.set e.toNat (UE.mk j k.M)))
  else some v15
def Qe5(N:Nat)(e:Um):Option (Um×WV×Int):=bnd (Qf0 N e) λx=>bif (!x)then some ((Um.mk zHp (Ws.mk [] [] []) (WG.mk []) (WG.mk []) [] []),(WV.mk 0 0 0 0 0 0),19)else bnd (Qgc N e) λy=>bnd (QdF N e.v) λz=>bnd (QdR N e.h y z) λf=>bif (f.2.2.2.2 != 0)then some ((Um.mk zHp (Ws.mk [] [] []) (WG.mk []) (WG.mk []) [] []),(WV.mk 0 0 0 0 0 0),f.2.2.2.2)else bnd (QgP N e) λo=>bnd (QdS N (e.R.length:Int) f.2.1) λp=>grd (p.1.length<=o.R.length) <| bnd (Qft N e.l) λA=>bnd (QdS N (A.length:Int) p.2) λw=>bnd (QgQ N e.l w.1) λr=>bnd (QdF N e.g) λs=>bnd (QdS N (s.length:Int) w.2) λq=>bnd (Qgh N e.g q.1) λj=>bnd (Qgh N e.v f.2.2.1) λk=>bnd (Qer N f o p r q j k N 0 o.P) λu=>bif (!((r.2==0)&&((j.2==0)&&(k.2==0))))then some ((Um.mk zHp (Ws.mk [] [] []) (WG.mk []) (WG.mk []) [] []),(WV.mk 0 0 0 0 0 0),19)else some ((Um.mk f.1 r.1 j.1 k.1 u (((o.R.take 0)++p.1)++(o.R.drop p.1.length))),f.2.2.2.1,0)
def Qd4(N:Nat)(h:Wx×Int)(f:List Int×Int):Nat->Int->(List Int)->Option (List Int)
 |0,_,_=>none
 |n+1,e,g=>
  bif (decide (e<(f.1.length:Int)))then(bnd (QbO N h.1 e) λj=>
   bif j then(bnd (Xd f.1 e) λk=>
    grd ((g.length+1)*8<=140737488355328) <|
    Qd4 N h f n (wI (e+1)) (g++[k]))
   else Qd4 N h f n (wI (e+1)) g)
  else some g
def QgR(N:Nat)(e:Wh)(f:Int):Option (List Int):=bnd (Qb7 N e f) λg=>bnd (Qeu N e f) λh=>bnd (Qd4 N g h N 0 []) λj=>some j
def Qco(N:Nat)(j:Wh)(e:List Int)(h:List Int×Int):Nat->Int->(List Int)->Option (Ex Unit (List Int))
 |0,_,_=>none
 |n+1,f,g=>
  bif (decide (f<(e.length:Int)))then(bnd (Xd e f) λo=>
   bif (o==0)then Qco N j e h n (wI (f+1)) g
   else bnd (Xd e f) λp=>
   bnd (Qbs N h.1 p) λq=>
   bif (!q)then some (.ret ())
   else bnd (Xd e f) λr=>
   bnd (Qbs N g r) λs=>
   bif (!s)then(bnd (Xd e f) λk=>
    grd ((g.length+1)*8<=140737488355328) <|
    Qco N j e h n (wI (f+1)) (g++[k]))
   else Qco N j e h n (wI (f+1)) g)
  else some (.nxt g)
def Qcp(N:Nat)(j:Wh)(h:List Int×Int)(e:List Int)(g:Int):Nat->Int->(List Int)->Option (Ex Unit (List Int))
 |0,_,_=>none
 |n+1,v20,f=>
  bif (decide (v20<(e.length:Int)))then(bnd (Xd e v20) λk=>
   bif (k==0)then Qcp N j h e g n (wI (v20+1)) f
   else bnd (Xd e v20) λo=>
   bnd (Qbs N h.1 o) λp=>
   bif (!p)then some (.ret ())
   else bnd (Xd e v20) λq=>
   bnd (Qbs N f q) λr=>
   bif (!r)then(bnd (Xd e v20) λs=>
    grd ((f.length+1)*8<=140737488355328) <|
    Qcp N j h e g n (wI (v20+1)) (f++[s]))
   else Qcp N j h e g n (wI (v20+1)) f)
  else some (.nxt f)
def Qes(N:Nat)(g:Wh)(q:List Int×Int):Nat->Bool->Int->(List Int)->Option (Bool×List Int)
 |0,_,_,_=>none
 |n+1,v15,f,v17=>
  bif v15 then(grd (v17.length<=140737488355328) <|
   bif (decide (f<(v17.length:Int)))then(bnd (Xd v17 f) λh=>
    bnd (QgR N g h) λj=>
    jn (λ(k:Bool) (o:List Int)=>
     Qes N g q n k (wI (f+1)) o) λr=>
    bnd (Qcp N g q j f N 0 v17) λe=>exK e (λs=>r false []) λp=>
    r true p)
   else some (v15,v17))
  else some (v15,v17)
def Qgp(N:Nat)(g:Wh)(q:List Int):Option (List Int×Int):=bnd (Qaa N g) λr=>bif (!r)then some ([],1)else bnd (Qal N g) λh=>bif (h.2 != 0)then some ([],h.2)else jn (λ(j:Bool) (k:List Int)=>bnd (Qes N g h N j 0 k) λf=>bif (!f.1)then some ([],19)else some (f.2,0)) λp=>bnd (Qco N g q h N 0 []) λe=>exK e (λs=>p false []) λo=>p true o
def QfI(N:Nat)(e:Wh)(f:List Int)(g:Int):Option Bool:=bnd (Qgp N e f) λh=>bnd (Qbs N h.1 g) λj=>some j
def Qg6(N:Nat)(f:WR)(e:Wx):Option Bool:=bnd (Qdc N e) λg=>bif g then(bif (e.k != 0)then(bnd (Qbq N e) λh=>bnd (QeS N f h) λj=>some (decide (j>=0)))else some false)else some false
def Qgv(N:Nat)(h:List Wr)(j f g:Int):Nat->(List Wr)->Option (List Wr)
 |0,_=>none
 |n+1,e=>
  grd (e.length<=140737488355328) <|
  bif (decide ((e.length:Int)<g))then(grd ((e.length+1)*32<=140737488355328) <|
   Qgv N h j f g n (e++[(Wr.mk 3 f 0 0)]))
  else some e
def Qho(N:Nat)(o:WR)(g:List Wr)(h e f:Int):Option (List Wr×Int):=bnd (QeS N o f) λj=>bif (decide (j<1))then some ([],1)else bnd (Qb3 N (Wr.mk 2 e f 0)) λp=>bif (!p)then some ([],1)else bnd (Qgv N g h e j N [(Wr.mk 2 e f 0)]) λq=>bnd (QgC N g h q) λk=>some (k.1,k.2)
def Qhp(N:Nat)(e:WR):Option Int:=bnd (QbY N e) λf=>bif (!f)then some 0 else some (wI (e.p.tdiv 4))
def QgV(N:Nat)(e:Wh)(o:Int):Option (Wh×Oy×Int):=bnd (Qgf N e.p) λq=>bnd (Qhp N e.c) λr=>bnd (QeS N e.c o) λv=>bif (decide (v>0))then(bnd (QdG N e.p v) λx=>jn (λ(_:Unit)=>some (zHp,(Oy.mk 0 0),3)) λB=>bif (decide (x>=0))then(bif (decide (q<=(wI (r-v))))then(bnd (Qho N e.c e.p x e.s o) λD=>some ((Wh.mk e.c e.w D.1 e.s e.b),(Oy.mk x 0),D.2))else B ())else B ())else jn (λ(_:Unit)=>bnd (QdG N e.p 1) λj=>jn (λ(_:Unit)=>some (zHp,(Oy.mk 0 0),3)) λE=>bif (decide (j>=0))then(bif (decide (q<r))then(bnd (Qef N e.p j e.s) λf=>bif (f.2 != 0)then some (zHp,(Oy.mk 0 0),f.2)else bnd (Xd f.1 j) λg=>some ((Wh.mk e.c e.w (f.1.set j.toNat (Wr.mk g.k g.s o g.P)) e.s j),(Oy.mk j 0),0))else E ())else E ()) λy=>bif (decide (e.b>=0))then(bif (decide (q<=r))then(bnd (Xd e.p e.b) λz=>jn (λ(_:Unit)=>y ()) λG=>bif (z.s==e.s)then(bif (decide (o<=(wI (e.c.W-z.u))))then(bnd (Qad N e.p) λA=>bnd (Xd A e.b) λH=>bnd (Xd A e.b) λh=>some ((Wh.mk e.c e.w (A.set e.b.toNat (Wr.mk h.k h.s (wI (H.u+o)) h.P)) e.s e.b),(Oy.mk e.b z.u),0))else G ())else G ())else y ())else y ()
def Qhh(N:Nat)(f:Wh)(h:Wx):Option (Wh×Int×Int):=bnd (QbZ N f) λk=>bif (!k)then some (zHp,0,1)else bnd (Qg6 N f.c h) λo=>bif (!o)then some (zHp,0,1)else bnd (Qbq N h) λp=>bnd (QgV N f p) λe=>bif (e.2.2 != 0)then some (zHp,0,e.2.2)else bnd (Qdd N f.c e.2.1.page e.2.1.offset) λg=>bif (g.2 != 0)then some (zHp,0,g.2)else bnd (QfP N e.1 g.1 h) λj=>bif (j.2 != 0)then some (zHp,0,j.2)else some (j.1,g.1,0)
def QhK(N:Nat)(f:Um)(p:Wx):Option (Um×Int×Int):=bnd (Qf0 N f) λq=>bif (!q)then some ((Um.mk zHp (Ws.mk [] [] []) (WG.mk []) (WG.mk []) [] []),0,19)else bnd (Qg6 N f.h.c p) λr=>bif (!r)then some ((Um.mk zHp (Ws.mk [] [] []) (WG.mk []) (WG.mk []) [] []),0,1)else bnd (QgP N f) λj=>bnd (Qhh N f.h p) λk=>bif (k.2.2==3)then(bnd (Qe5 N f) λe=>bif (e.2.2 != 0)then some ((Um.mk zHp (Ws.mk [] [] []) (WG.mk []) (WG.mk []) [] []),0,e.2.2)else bnd (Qhh N e.1.h p) λo=>bif (o.2.2 != 0)then some ((Um.mk zHp (Ws.mk [] [] []) (WG.mk []) (WG.mk []) [] []),0,o.2.2)else some ((Um.mk o.1 e.1.l e.1.g e.1.v e.1.P e.1.R),o.2.1,0))else bif (k.2.2 != 0)then some ((Um.mk zHp (Ws.mk [] [] []) (WG.mk []) (WG.mk []) [] []),0,k.2.2)else some ((Um.mk k.1 j.l j.g j.v j.P j.R),k.2.1,0)
def QhL(N:Nat)(e:Int):Option (List Int×Int):=bif (decide (e<0))then some ([],1)else bif (decide (e>4096))then some ([],1)else grd (0<=e/\e.toNat*8<=140737488355328) <| some ((List.replicate e.toNat (0:Int)),0)
def Qir(N:Nat)(e:WR):Option (Wh×Int):=bnd (QbY N e) λg=>bif (!g)then some (zHp,1)else bnd (QhL N (wI (e.W*e.p))) λf=>bif (f.2 != 0)then some (zHp,f.2)else grd (0<=e.p/\e.p.toNat*32<=140737488355328) <| some ((Wh.mk e f.1 (List.replicate e.p.toNat (Wr.mk 0 0 0 0)) 0 (-1)),0)
def Qku(N:Nat)(f:WR):Option (Um×Int):=bnd (Qir N f) λe=>bif (e.2 != 0)then some ((Um.mk zHp (Ws.mk [] [] []) (WG.mk []) (WG.mk []) [] []),e.2)else some ((Um.mk e.1 (Ws.mk [] [] []) (WG.mk []) (WG.mk []) [] []),0)
def Qgq(N:Nat):Option Bool:=bnd (Qku N (WR.mk 16 8)) λf=>bnd (QhK N f.1 (Wx.mk 3 3 0)) λe=>bif (f.2==0)then(bif (e.2.2==0)then(bif (e.2.1==4096)then(bnd (Qf0 N e.1) λg=>some g)else some false)else some false)else some false
def QdB(N:Nat)(g:Io)(e j:List Int):Nat->Int->Option (Ex Bool Unit)
 |0,_=>none
 |n+1,f=>
  grd (e.length<=140737488355328) <|
  bif (decide (f<(e.length:Int)))then(bnd (Xd j f) λk=>
   bnd (Qc5 N g.N) λo=>
   bnd (Xd e f) λp=>
   bnd (QfI N g.N.h o p) λq=>
   bif (!((k != 0)==q))then some (.ret false)
   else QdB N g e j n (wI (f+1)))
  else some (.nxt ())
def QfJ(N:Nat)(o:List Int):Option Bool:=bnd (Qhe N o 80) λf=>bnd (Qe5 N f.N) λk=>bnd (Qa7 N f.N.v) λg=>bnd (Qa7 N k.1.v) λh=>bif (k.2.2 != 0)then some false else grd (g.length<=140737488355328) <| grd (h.length<=140737488355328) <| bif ((g.length:Int) != (h.length:Int))then some false else bnd (QdB N f g h N 0) λe=>exK e (λr=>some r) λp=>bnd (Qgq N) λj=>some j
end Go.Sx
