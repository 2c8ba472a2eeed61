import Derived.Test.YtmpbhfnjjaocoaaGreatAA
set_option linter.all false
namespace Go.Sx
structure WT where
 W:Int
 p:Int
structure Wt where
 k:Int
 s:Int
 u:Int
 P:Int
structure Wk where
 c:WT
 w:List Int
 p:List Wt
 s:Int
 b:Int
structure UM where
 J:Int
 a:Int
 V:Bool
structure UU where
 O:Int
 C0:Int
 B0:Bool
structure Ww where
 S:List UM
 x:List UU
 i:List Int
structure W8 where
 G:Int
 a:Int
 V:Bool
structure WE where
 e:List W8
structure UH where
 a:Int
 M:Int
structure W9 where
 h:Wk
 l:Ww
 g:WE
 v:WE
 P:List UH
 R:List Int
structure WM where
 j:Int
 K:Int
 F:Int
 E:Int
 f:Int
 y:Int
structure Wy where
 k:Int
 n:Int
 Map:Int
structure UG where
 L:List Int
 at_:Int
structure Ib where
 H:Wy
 D:List Int
structure Il where
 I:Int
 M:Int
 B0:Int
structure WV where
 c:WT
 T:List Ib
 l:Ww
 g:WE
 v:WE
 m:List Il
 R:List Int
structure Iw where
 N:W9
 z:WV
 w:List Int
structure IZ where
 Op:Int
 A:Int
 B:Int
 C:Int
structure Ih where
 h:Wk
 Strong:List Int
 Weak:List Int
structure WD where
 h:Wk
 o:List Int
 t:List Int
 q:List Int
 d:Int
 r:WM
structure IK where
 page:Int
 offset:Int
structure I6 where
 Failed:Bool
 Collected:Bool
 B0:Int
structure IV where
 l:Ww
structure Uc where
 Fault:Int
 Page:Int
 Addr:Int
structure UJ where
 addr:Int
 hd:Wy
structure U2 where
 Width:Int
 Value:Int
structure IY where
 O:Int
 Len:Int
structure IA where
 Tag:Int
 Index:Int
 J:Int
@[simp] abbrev zWd:WV:=WV.mk (WT.mk 0 0) [] (Ww.mk [] [] []) (WE.mk []) (WE.mk []) [] []
@[simp] abbrev zHp:Wk:=Wk.mk (WT.mk 0 0) [] [] 0 0
def Qaa(N:Nat)(a0:UG)(a1:Int):Option (Int×UG):=bif (decide (a1<1))then some (0,a0)else jn (λ(x2:Int)=>grd (a1≠0) <| grd (a1≠0) <| some (((wI ((x2.tmod a1)+a1)).tmod a1),(UG.mk a0.L (wI (a0.at_+1))))) λj1=>bif (decide (a0.at_<(a0.L.length:Int)))then(bnd (Xb a0.L a0.at_) λp1=>j1 p1)else j1 (wI ((wI (a0.at_*7))+3))
def Qfl(N:Nat)(a0:UG):Option (WT×UG):=bnd (Qaa N a0 4) λy1=>bnd (Xb [16,16,20,32] y1.1) λp2=>bnd (Qaa N y1.2 5) λy3=>bnd (Xb [8,12,16,20,24] y3.1) λp4=>some ((WT.mk p2 p4),y3.2)
def QaM(N:Nat)(a0:WT):Option Bool:=bif (decide (a0.W>=16))then(bif (decide (a0.W<=64))then(bif ((a0.W.tmod 4)==0)then(bif (decide (a0.p>=8))then some (decide (a0.p<=64))else some false)else some false)else some false)else some false
def Qgd(N:Nat)(a0:WT):Option (Wk×Int):=bnd (QaM N a0) λy1=>bif (!y1)then some (zHp,1)else grd (0<=(wI (a0.p*a0.W))/\(wI (a0.p*a0.W)).toNat*8<=140737488355328) <| grd (0<=a0.p/\a0.p.toNat*32<=140737488355328) <| some ((Wk.mk a0 (List.replicate (wI (a0.p*a0.W)).toNat (0:Int)) (List.replicate a0.p.toNat (Wt.mk 0 0 0 0)) 0 (-1)),0)
def QeS(N:Nat)(a0:WT):Option (W9×Int):=bnd (Qgd N a0) λy1=>some ((W9.mk y1.1 (Ww.mk [] [] []) (WE.mk []) (WE.mk []) [] []),y1.2)
def Qge(N:Nat)(a0:WT):Option (WV×Int):=bnd (QaM N a0) λy1=>bif (!y1)then some (zWd,1)else some ((WV.mk a0 [] (Ww.mk [] [] []) (WE.mk []) (WE.mk []) [] []),0)
def QbZ(N:Nat)(a0:UG):Option (Iw×UG):=bnd (Qfl N a0) λy1=>bnd (QeS N y1.1) λy2=>bnd (Qge N y1.1) λy3=>bnd (Qaa N y1.2 40) λy4=>some ((Iw.mk (W9.mk y2.1.h (Ww.mk y2.1.l.S [(UU.mk 0 (wI (4+y4.1)) true)] y2.1.l.i) y2.1.g y2.1.v y2.1.P y2.1.R) (WV.mk y3.1.c y3.1.T (Ww.mk y3.1.l.S [(UU.mk 0 (wI (4+y4.1)) true)] y3.1.l.i) y3.1.g y3.1.v y3.1.m y3.1.R) [0]),y4.2)
def Qgo(N:Nat)(a0:UG):Option Bool:=some (decide (a0.at_>=(a0.L.length:Int)))
def QcR(N:Nat)(a0:WE):Nat->Int->Option (Ex Bool Unit)
 |0,_=>none
 |n+1,v1=>
  bif (decide (v1<(a0.e.length:Int)))then(bnd (Xb a0.e v1) λp2=>
   bif (decide (p2.G<1))then some (.ret false)
   else bif (decide (p2.G>4294967295))then some (.ret false)
   else bif (!p2.V)then(bif (p2.a != 0)then some (.ret false)
    else QcR N a0 n (wI (v1+1)))
   else QcR N a0 n (wI (v1+1)))
  else some (.nxt ())
def Qb7(N:Nat)(a0:WE):Option Bool:=bnd (QcR N a0 N 0) λe=>exK e (λr=>some r) λy3=>some (decide ((a0.e.length:Int)<=64))
def Qbo(N:Nat)(a0:WE):Nat->Int->(List Int)->Option (List Int)
 |0,_,_=>none
 |n+1,v1,v2=>
  bif (decide (v1<(a0.e.length:Int)))then(bnd (Qb7 N a0) λy3=>
   bif y3 then(bnd (Xb a0.e v1) λp4=>
    bif p4.V then(bnd (Xb a0.e v1) λp5=>
     grd ((v2.length+1)*8<=140737488355328) <|
     Qbo N a0 n (wI (v1+1)) (v2++[p5.a]))
    else Qbo N a0 n (wI (v1+1)) v2)
   else some v2)
  else some v2
def Qbl(N:Nat)(a0:WE):Option (List Int):=bnd (Qbo N a0 N 0 []) λy6=>some y6
def QdU(N:Nat)(a0:Ww)(a2:Int):Nat->Int->Int->Option Int
 |0,_,_=>none
 |n+1,v1,v2=>
  bif (decide (v2<a2))then(bnd (Xb a0.S v2) λp3=>
   bif p3.V then QdU N a0 a2 n (wI (v1+1)) (wI (v2+1))
   else QdU N a0 a2 n v1 (wI (v2+1)))
  else some v1
def Qgp(N:Nat)(a0:Ww)(a1:Int)(a2:Int):Option Int:=bnd (QdU N a0 a2 N 0 a1) λy4=>some y4
def QhV(N:Nat)(a0:Ww)(a1:Int):Option Int:=bif (decide ((wI (a1+1))<(a0.x.length:Int)))then(bnd (Xb a0.x (wI (a1+1))) λp1=>some p1.O)else some (a0.S.length:Int)
def Qdl(N:Nat)(a0:Ww):Nat->Int->Option (Ex Bool Unit)
 |0,_=>none
 |n+1,v1=>
  bif (decide (v1<(a0.i.length:Int)))then(bnd (Xb a0.i v1) λp2=>
   bif (decide (p2<0))then some (.ret false)
   else bnd (Xb a0.i v1) λp3=>
   bif (decide (p3>4095))then some (.ret false)
   else Qdl N a0 n (wI (v1+1)))
  else some (.nxt ())
def Qao(N:Nat)(a0:Ww):Nat->Int->Int->Option (Ex Bool Unit)
 |0,_,_=>none
 |n+1,v5,v6=>
  bif (decide (v6<(a0.S.length:Int)))then(bnd (Xb a0.S v6) λp7=>
   bif (decide (p7.J<=v5))then some (.ret false)
   else bif (decide (p7.J>(a0.i.length:Int)))then some (.ret false)
   else bnd (Xb a0.i (wI (p7.J-1))) λp8=>
   bif (p8 != v6)then some (.ret false)
   else bif (!(p7.V==(p7.a != 0)))then some (.ret false)
   else Qao N a0 n p7.J (wI (v6+1)))
  else some (.nxt ())
def Qan(N:Nat)(a0:Ww):Nat->Int->Int->Option (Ex Bool Unit)
 |0,_,_=>none
 |n+1,v10,v11=>
  bif (decide (v11<(a0.x.length:Int)))then(bnd (Xb a0.x v11) λp12=>
   bif (v11==0)then(bif (p12.O != 0)then some (.ret false)
    else bif (!p12.B0)then some (.ret false)
    else bif (decide (p12.O<v10))then some (.ret false)
    else bif (decide (p12.O>(a0.S.length:Int)))then some (.ret false)
    else bif (decide (p12.C0<0))then some (.ret false)
    else bif (decide (p12.C0>64))then some (.ret false)
    else Qan N a0 n p12.O (wI (v11+1)))
   else bif (decide (p12.O<v10))then some (.ret false)
   else bif (decide (p12.O>(a0.S.length:Int)))then some (.ret false)
   else bif (decide (p12.C0<0))then some (.ret false)
   else bif (decide (p12.C0>64))then some (.ret false)
   else Qan N a0 n p12.O (wI (v11+1)))
  else some (.nxt ())
def QcS(N:Nat)(a0:Ww):Nat->Int->Option (Ex Bool Unit)
 |0,_=>none
 |n+1,v14=>
  bif (decide (v14<(a0.x.length:Int)))then(bnd (Xb a0.x v14) λp15=>
   bnd (QhV N a0 v14) λy16=>
   bnd (Qgp N a0 p15.O y16) λy17=>
   bnd (Xb a0.x v14) λp18=>
   bif (decide (y17>p18.C0))then some (.ret false)
   else QcS N a0 n (wI (v14+1)))
  else some (.nxt ())
def Qb8(N:Nat)(a0:Ww):Option Bool:=jn (λ(_:Unit)=>bnd (Qdl N a0 N 0) λe=>exK e (λr=>some r) λy4=>bnd (Qao N a0 N 0 0) λe=>exK e (λr=>some r) λy9=>bnd (Qan N a0 N 0 0) λe=>exK e (λr=>some r) λy13=>bnd (QcS N a0 N 0) λe=>exK e (λr=>some r) λy19=>some true) λj1=>bif (decide ((a0.i.length:Int)>4096))then some false else bif (decide ((a0.x.length:Int)>64))then some false else bif ((a0.x.length:Int)==0)then(bif (decide ((a0.S.length:Int)>0))then some false else j1 ())else j1 ()
def Qbp(N:Nat)(a0:Ww):Nat->Int->(List Int)->Option (List Int)
 |0,_,_=>none
 |n+1,v1,v2=>
  bif (decide (v1<(a0.S.length:Int)))then(bnd (Qb8 N a0) λy3=>
   bif y3 then(bnd (Xb a0.S v1) λp4=>
    bif p4.V then(bnd (Xb a0.S v1) λp5=>
     grd ((v2.length+1)*8<=140737488355328) <|
     Qbp N a0 n (wI (v1+1)) (v2++[p5.a]))
    else Qbp N a0 n (wI (v1+1)) v2)
   else some v2)
  else some v2
def QcE(N:Nat)(a0:Ww):Option (List Int):=bnd (Qbp N a0 N 0 []) λy6=>some y6
def Qfm(N:Nat)(a0:List Int)(a1:Int):Nat->Int->Option (Ex Bool Unit)
 |0,_=>none
 |n+1,v1=>
  bif (decide (v1<(a0.length:Int)))then(bnd (Xb a0 v1) λp2=>
   bif (p2==a1)then some (.ret true)
   else Qfm N a0 a1 n (wI (v1+1)))
  else some (.nxt ())
def QcT(N:Nat)(a0:List Int)(a1:Int):Option Bool:=bnd (Qfm N a0 a1 N 0) λe=>exK e (λr=>some r) λy3=>some false
def QcK(N:Nat)(a0:WT):Option Int:=bnd (QaM N a0) λy1=>bif (!y1)then some 0 else some (wI (a0.W.tdiv 4))
def QcF(N:Nat)(a0:WT)(a1:Int):Nat->Int->Option (Ex Int Unit)
 |0,_=>none
 |n+1,v3=>
  bif (decide (v3<=4))then(bif (decide ((wI (v3*a0.W))>=a1))then some (.ret v3)
   else QcF N a0 a1 n (wI (v3+1)))
  else some (.nxt ())
def QeT(N:Nat)(a0:WT)(a1:Int):Option Int:=bnd (QaM N a0) λy1=>bif (!y1)then some (-1)else bif (decide (a1<1))then some (-1)else bnd (QcK N a0) λy2=>bif (decide (a1<=y2))then some 0 else bnd (QcF N a0 a1 N 1) λe=>exK e (λr=>some r) λy4=>some (-1)
def Qg7(N:Nat)(a0:Int):Option Bool:=bif (decide (a0>=0))then some (decide (a0<=2147483647))else some false
def Qdm(N:Nat)(a0:List Wt)(a2:Int):Nat->Int->Int->Option Int
 |0,_,_=>none
 |n+1,v1,v2=>
  bif (decide (v2<(a0.length:Int)))then(bnd (Xb a0 v2) λp3=>
   bif (p3.k==3)then(bnd (Xb a0 v2) λp4=>
    bif (p4.s==a2)then Qdm N a0 a2 n (wI (v1+1)) (wI (v2+1))
    else some v1)
   else some v1)
  else some v1
def Qe6(N:Nat)(a0:List Wt)(a1:Int)(a2:Int):Option Int:=bnd (Qdm N a0 a2 N 0 (wI (a1+1))) λy5=>some y5
def QaB(N:Nat)(a0:Wk):Nat->Int->Int->Option (Ex Bool Unit)
 |0,_,_=>none
 |n+1,v3,v4=>
  bif (decide (v4<(a0.p.length:Int)))then(bnd (Xb a0.p v4) λp5=>
   bif (!((p5.k==3)==(decide (v3>0))))then some (.ret false)
   else bif (decide (p5.s<0))then some (.ret false)
   else bif (decide (p5.s>1))then some (.ret false)
   else bnd (Qg7 N p5.P) λy6=>
   bif (!y6)then some (.ret false)
   else jn (λ(x11:Int)=>
    QaB N a0 n (if 0<(wI (x11-1))then(wI (x11-1))else 0) (wI (v4+1))) λj4=>
   bif (p5.k==0)then(bif (!((p5.k==0)&&((p5.s==0)&&((p5.u==0)&&(p5.P==0)))))then some (.ret false)
    else j4 v3)
   else jn (λ(x10:Int)=>
    j4 x10) λj3=>
   bif (p5.k==1)then(bif (decide (p5.u<0))then some (.ret false)
    else bif (decide (p5.u>a0.c.W))then some (.ret false)
    else j3 v3)
   else jn (λ(x9:Int)=>
    j3 x9) λj2=>
   bif (p5.k==2)then(bnd (QeT N a0.c p5.u) λy7=>
    bif (decide (y7<1))then some (.ret false)
    else bnd (Qe6 N a0.p v4 p5.s) λy8=>
    bif (decide (y8<(wI (y7-1))))then some (.ret false)
    else j2 y7)
   else bif (p5.k==3)then(bif (p5.u != 0)then some (.ret false)
    else bif (p5.P != 0)then some (.ret false)
    else j2 v3)
   else some (.ret false))
  else some (.nxt ())
def Qab(N:Nat)(a0:Wk):Option Bool:=bnd (QaM N a0.c) λy1=>bif (!y1)then some false else bif ((a0.w.length:Int) != (wI (a0.c.p*a0.c.W)))then some false else bif ((a0.p.length:Int) != a0.c.p)then some false else bif (decide (a0.s<0))then some false else bif (decide (a0.s>1))then some false else jn (λ(_:Unit)=>bnd (QaB N a0 N 0 0) λe=>exK e (λr=>some r) λy12=>some true) λj1=>bif (a0.b != (-1))then(bif (decide (a0.b<0))then some false else bif (decide (a0.b>=(a0.p.length:Int)))then some false else bnd (Xb a0.p a0.b) λp2=>bif (p2.k != 1)then some false else j1 ())else j1 ()
def Qc1(N:Nat)(a0:Wy):Option Bool:=bif (decide (a0.k<0))then some false else bif (decide (a0.k>3))then some false else bif (decide (a0.n<0))then some false else bif (decide (a0.n>255))then some false else bif (a0.k != 1)then some (a0.Map==0)else bif (decide (a0.n<=32))then(grd (0<=(wU a0.n)) <| some (decide ((wU a0.Map)<(ZQ .u64 1 (wU a0.n)))))else some false
def QcG(N:Nat)(a0:Wy):Option Int:=bnd (Qc1 N a0) λy1=>bif (!y1)then some 0 else some (wI (a0.n+1))
def Qdv(N:Nat)(a0:List Int)(a1:Int)(a2:Int):Option (Int×Bool):=bif (decide (a1<4096))then some (0,false)else bif (decide (a1>(wU (4096+(wU (a0.length:Int))))))then some (0,false)else some ((wI (wU (a1-4096))),(decide (a2<=(wI ((a0.length:Int)-(wI (wU (a1-4096))))))))
def Qf1(N:Nat)(a0:List Int)(a1:Int):Option (Int×Int):=bnd (Qdv N a0 a1 1) λy1=>bif (!y1.2)then some (0,2)else some (y1.1,0)
def Qbb(N:Nat)(a0:List Int)(a1:Int):Option (Int×Int):=bnd (Qf1 N a0 a1) λy1=>bif (y1.2 != 0)then some (0,y1.2)else bnd (Xb a0 y1.1) λp2=>some (p2,0)
def QcL(N:Nat)(a0:WT)(a1:Int):Option (Int×Int×Int):=bnd (QaM N a0) λy1=>bif (!y1)then some (0,0,1)else bif (decide (a1<4096))then some (0,0,2)else bif (decide (a1>=(wU (wI (4096+(wI (a0.p*a0.W)))))))then some (0,0,2)else grd (a0.W≠0) <| grd (a0.W≠0) <| some ((wI ((wI (wU (a1-4096))).tdiv a0.W)),((wI (wU (a1-4096))).tmod a0.W),0)
def Qcq(N:Nat)(a0:Wy):Option (Int×Int):=bnd (Qc1 N a0) λy1=>bif (!y1)then some (0,1)else some ((wU ((wU ((wU (1+(wU (4*(wU a0.k)))))+(wU (16*(wU a0.n)))))+(ZQ .u64 (wU a0.Map) 16))),0)
def Qcr(N:Nat)(a0:Int):Option (Wy×Bool):=bnd (Qcq N (Wy.mk (wI (Zc .u64 (YA .u64 a0 2) 3)) (wI (Zc .u64 (YA .u64 a0 4) 4095)) (wW (YA .u64 a0 16)))) λy1=>bif (y1.2 != 0)then some ((Wy.mk 0 0 0),false)else bif (y1.1 != a0)then some ((Wy.mk 0 0 0),false)else some ((Wy.mk (wI (Zc .u64 (YA .u64 a0 2) 3)) (wI (Zc .u64 (YA .u64 a0 4) 4095)) (wW (YA .u64 a0 16))),true)
def Qam(N:Nat)(a0:Wk)(a1:Int):Option (Wy×Int):=bnd (Qab N a0) λy1=>bif (!y1)then some ((Wy.mk 0 0 0),1)else bnd (QcL N a0.c a1) λy2=>bif (y2.2.2 != 0)then some ((Wy.mk 0 0 0),2)else bnd (Xb a0.p y2.1) λp3=>bnd (Qbb N a0.w a1) λy4=>bnd (Qcr N y4.1) λy5=>jn (λ(_:Unit)=>bnd (QcG N y5.1) λy6=>bif (p3.k==1)then(bif (decide ((wI (y2.2.1+y6))>p3.u))then some ((Wy.mk 0 0 0),19)else bif (p3.k==2)then(bif (y2.2.1 != 0)then some ((Wy.mk 0 0 0),19)else bif (y6 != p3.u)then some ((Wy.mk 0 0 0),19)else some (y5.1,0))else some (y5.1,0))else bif (p3.k==2)then(bif (y2.2.1 != 0)then some ((Wy.mk 0 0 0),19)else bif (y6 != p3.u)then some ((Wy.mk 0 0 0),19)else some (y5.1,0))else some (y5.1,0)) λj1=>bif (p3.k != 1)then(bif (p3.k != 2)then some ((Wy.mk 0 0 0),19)else bif (decide (y2.2.1>=p3.u))then some ((Wy.mk 0 0 0),19)else bif (!y5.2)then some ((Wy.mk 0 0 0),19)else j1 ())else bif (decide (y2.2.1>=p3.u))then some ((Wy.mk 0 0 0),19)else bif (!y5.2)then some ((Wy.mk 0 0 0),19)else j1 ()
def Qbq(N:Nat)(a0:WT)(a1:Int)(a2:Int):Option (Int×Int):=bnd (QaM N a0) λy1=>bif (!y1)then some (0,1)else bif (decide (a1<0))then some (0,2)else bif (decide (a1>=a0.p))then some (0,2)else bif (decide (a2<0))then some (0,2)else bif (decide (a2>=a0.W))then some (0,2)else some ((wU (wI ((wI (4096+(wI (a1*a0.W))))+a2))),0)
def Qas(N:Nat)(a0:Wk)(a1:Int)(p2:Wt):Nat->Int->(List Int)->Option (Ex (List Int×Int) (List Int))
 |0,_,_=>none
 |n+1,v3,v4=>
  bif (decide (v3<p2.u))then(bnd (Qbq N a0.c a1 v3) λy5=>
   bnd (Qam N a0 y5.1) λy6=>
   bif (y6.2 != 0)then some (.ret ([],19))
   else grd ((v4.length+1)*8<=140737488355328) <|
   bif (p2.k==2)then some (.nxt (v4++[y5.1]))
   else bnd (QcG N y6.1) λy7=>
   Qas N a0 a1 p2 n (wI (v3+y7)) (v4++[y5.1]))
  else some (.nxt v4)
def Qal(N:Nat)(a0:Wk)(a1:Int):Option (List Int×Int):=bnd (Qab N a0) λy1=>bif (!y1)then some ([],1)else bif (decide (a1<0))then some ([],2)else bif (decide (a1>=(a0.p.length:Int)))then some ([],2)else bnd (Xb a0.p a1) λp2=>bif (p2.k==0)then some ([],0)else bif (p2.k==3)then some ([],0)else bnd (Qas N a0 a1 p2 N 0 []) λe=>exK e (λr=>some r) λy8=>some (y8,0)
def Qbv(N:Nat)(a0:Wk)(a1:Int)(a2:List Int):Nat->Int->Option (Ex Int Unit)
 |0,_=>none
 |n+1,v1=>
  bif (decide (v1<(a2.length:Int)))then(bnd (Xb a2 v1) λp2=>
   bnd (Qam N a0 p2) λy3=>
   bnd (QcG N y3.1) λy4=>
   bnd (QcK N a0.c) λy5=>
   bnd (Xb a0.p a1) λp6=>
   bif (p6.k==1)then(bif (!(decide (y4<=y5)))then(bnd (Xb a2 v1) λp9=>
       some (.ret p9))
    else bnd (Xb a0.p a1) λp7=>
    bif (p7.k==2)then(bif (y3.1.k==0)then(bnd (Xb a2 v1) λp10=>
        some (.ret p10))
     else Qbv N a0 a1 a2 n (wI (v1+1)))
    else Qbv N a0 a1 a2 n (wI (v1+1)))
   else bnd (Xb a0.p a1) λp8=>
   bif (p8.k==2)then(bif (y3.1.k==0)then(bnd (Xb a2 v1) λp11=>
       some (.ret p11))
    else Qbv N a0 a1 a2 n (wI (v1+1)))
   else Qbv N a0 a1 a2 n (wI (v1+1)))
  else some (.nxt ())
def Qe7(N:Nat)(a0:Wk)(a1:Int)(a2:List Int):Option Int:=bnd (Qbv N a0 a1 a2 N 0) λe=>exK e (λr=>some r) λy12=>some 0
def QdV(N:Nat)(a0:Wk):Nat->Int->Option Int
 |0,_=>none
 |n+1,v1=>
  bnd (Xb a0.p v1) λp2=>
  bif (p2.k==3)then QdV N a0 n (wI (v1-1))
  else some v1
def Qfz(N:Nat)(a0:Wk)(a1:Int):Option Int:=bnd (QdV N a0 N a1) λy3=>some y3
def QbF(N:Nat)(a0:Wk)(a1:Int)(a2:List Int)(v1:Int)(x6:Int):Nat->Int->(List Bool)->Option (List Bool)
 |0,_,_=>none
 |n+1,v7,v8=>
  bif (decide (v7<x6))then(bnd (Xb a2 v1) λp9=>
   bif (decide ((wI ((wI ((wI ((wI p9)-4096))+v7))-(wI (a1*a0.c.W))))>=0))then(grd (v8.length<=140737488355328) <|
    bif (decide ((wI ((wI ((wI ((wI p9)-4096))+v7))-(wI (a1*a0.c.W))))<(v8.length:Int)))then(bnd (Xb v8 (wI ((wI ((wI ((wI p9)-4096))+v7))-(wI (a1*a0.c.W))))) λp10=>
     QbF N a0 a1 a2 v1 x6 n (wI (v7+1)) (v8.set (wI ((wI ((wI ((wI p9)-4096))+v7))-(wI (a1*a0.c.W)))).toNat true))
    else QbF N a0 a1 a2 v1 x6 n (wI (v7+1)) v8)
   else QbF N a0 a1 a2 v1 x6 n (wI (v7+1)) v8)
  else some v8
def Qdf(N:Nat)(a0:Wk)(a1:Int)(a2:List Int):Nat->Int->(List Bool)->Option (List Bool)
 |0,_,_=>none
 |n+1,v1,v2=>
  bif (decide (v1<(a2.length:Int)))then(bnd (Xb a2 v1) λp3=>
   bnd (Qam N a0 p3) λy4=>
   bnd (QcG N y4.1) λy5=>
   jn (λ(x6:Int)=>
    bnd (QbF N a0 a1 a2 v1 x6 N 0 v2) λy11=>
    Qdf N a0 a1 a2 n (wI (v1+1)) y11) λj1=>
   bif (y4.1.k==0)then j1 1
   else j1 y5)
  else some v2
def Qg8(N:Nat)(a0:Wk)(a1:Int)(a2:List Int):Option (List Bool):=grd (0<=a0.c.W/\a0.c.W.toNat<=140737488355328) <| bnd (Qdf N a0 a1 a2 N 0 (List.replicate a0.c.W.toNat false)) λy12=>some y12
def Qg9(N:Nat)(a0:Wk)(a1:Int)(a2:Int):Option Int:=bnd (Qbq N a0.c a1 a2) λy1=>bnd (Qbb N a0.w y1.1) λy2=>some y2.1
def QfA(N:Nat)(a0:Wk)(a1:Int)(a2:Int):Option Int:=bnd (Qg9 N a0 a1 a2) λy1=>some y1
def QfP(N:Nat)(a0:Wk)(a1:Int)(a2:Int):Option Int:=some (wU (wI ((wI (4096+(wI (a1*a0.c.W))))+a2)))
def QcH(N:Nat)(a0:Wk)(a1:Int)(y3:List Bool):Nat->Int->Option (Ex Int Unit)
 |0,_=>none
 |n+1,v4=>
  bif (decide (v4<(y3.length:Int)))then(bnd (Xb y3 v4) λp5=>
   bif (!p5)then(bnd (QfA N a0 a1 v4) λy6=>
    bif (y6 != 0)then(bnd (QfP N a0 a1 v4) λy7=>
     some (.ret y7))
    else QcH N a0 a1 y3 n (wI (v4+1)))
   else QcH N a0 a1 y3 n (wI (v4+1)))
  else some (.nxt ())
def QfB(N:Nat)(a0:Wk)(a1:Int):Option Int:=bnd (Qfz N a0 a1) λy1=>bnd (Qal N a0 y1) λy2=>bnd (Qg8 N a0 a1 y2.1) λy3=>bnd (QcH N a0 a1 y3 N 0) λe=>exK e (λr=>some r) λy8=>some 0
def QfC(N:Nat)(a0:Wk)(a1:Int):Option Uc:=jn (λ(_:Unit)=>bnd (Qal N a0 a1) λy3=>bif (y3.2 != 0)then some (Uc.mk 3 a1 0)else bnd (Qe7 N a0 a1 y3.1) λy4=>bif (y4 != 0)then some (Uc.mk 5 a1 y4)else bnd (QfB N a0 a1) λy5=>bif (y5 != 0)then some (Uc.mk 4 a1 y5)else some (Uc.mk 0 0 0)) λj1=>bnd (Xb a0.p a1) λp1=>bif (p1.k != 0)then(bnd (Xb a0.p a1) λp2=>bif (p2.s != a0.s)then some (Uc.mk 2 a1 0)else j1 ())else j1 ()
def QaN(N:Nat)(a0:Wk):Nat->Int->(List Int)->Option (Ex (List Int×Int) (List Int))
 |0,_,_=>none
 |n+1,v2,v3=>
  bif (decide (v2<(a0.p.length:Int)))then(bnd (Qal N a0 v2) λy4=>
   bif (y4.2 != 0)then some (.ret ([],y4.2))
   else grd ((v3.length+y4.1.length)*8<=140737488355328) <|
   QaN N a0 n (wI (v2+1)) (v3++y4.1))
  else some (.nxt v3)
def Qcs(N:Nat)(a0:Wk):Option (List Int×Int):=bnd (Qab N a0) λy1=>bif (!y1)then some ([],1)else bnd (QaN N a0 N 0 []) λe=>exK e (λr=>some r) λy5=>some (y5,0)
def QaS(N:Nat)(a0:Wk)(y1:List Int×Int):Nat->Int->(List Int)->Option (List Int)
 |0,_,_=>none
 |n+1,v2,v3=>
  bif (decide (v2<(y1.1.length:Int)))then(bnd (Xb y1.1 v2) λp4=>
   bnd (Qam N a0 p4) λy5=>
   bif (y5.1.k != 0)then(bnd (Xb y1.1 v2) λp6=>
    grd ((v3.length+1)*8<=140737488355328) <|
    QaS N a0 y1 n (wI (v2+1)) (v3++[p6]))
   else QaS N a0 y1 n (wI (v2+1)) v3)
  else some v3
def Qay(N:Nat)(a0:Wk):Option (List Int×Int):=bnd (Qcs N a0) λy1=>bnd (QaS N a0 y1 N 0 []) λy7=>some (y7,y1.2)
def Qb0(N:Nat)(a0:Wk)(a1:Int):Option (Wy×Int):=bnd (Qab N a0) λy1=>bif (!y1)then some ((Wy.mk 0 0 0),1)else bif (a1==0)then some ((Wy.mk 0 0 0),5)else bnd (Qam N a0 a1) λy2=>bif (y2.2==0)then(bif (y2.1.k==0)then some ((Wy.mk 0 0 0),4)else some (y2.1,y2.2))else some (y2.1,y2.2)
def Qb9(N:Nat)(a0:Wy)(a1:Int):Option Bool:=bnd (Qc1 N a0) λy1=>bif (!y1)then some false else bif (decide (a1<0))then some false else bif (decide (a1>=a0.n))then some false else bif (a0.k==2)then some true else bif (a0.k==1)then(grd (0<=(wU a1)) <| some ((Zc .u32 (YA .u32 a0.Map (wU a1)) 1)==1))else some false
def Qc5(N:Nat)(a0:List Int)(a1:Int)(a2:Int):Option (List Int×Int):=bif (decide (a2<0))then some ([],1)else bnd (Qdv N a0 a1 a2) λy1=>bif (!y1.2)then some ([],2)else grd (0<=y1.1/\y1.1<=(wI (y1.1+a2))/\(wI (y1.1+a2))<=(a0.length:Int)) <| grd ((min ((wI (y1.1+a2)).toNat-y1.1.toNat) (a0.length-y1.1.toNat))*8<=140737488355328) <| some (((a0.drop y1.1.toNat).take ((wI (y1.1+a2)).toNat-y1.1.toNat)),0)
def Qfn(N:Nat)(a0:Wk)(a1:Int):Option (List Int×Int):=bnd (Qb0 N a0 a1) λy1=>bif (y1.2 != 0)then some ([],y1.2)else bnd (Qc5 N a0.w (wU (a1+1)) y1.1.n) λy2=>some (y2.1,y2.2)
def Qav(N:Nat)(a0:Wk)(y1:List Int×Int)(y6:List Int×Int)(v2:Int)(y4:Wy×Int):Nat->Int->Option (Ex Uc Unit)
 |0,_=>none
 |n+1,v7=>
  bif (decide (v7<(y6.1.length:Int)))then(bnd (Qb9 N y4.1 v7) λy8=>
   bif y8 then(bnd (Xb y6.1 v7) λp9=>
    bif (p9 != 0)then(bnd (Xb y6.1 v7) λp10=>
     bnd (QcT N y1.1 p10) λy11=>
     bif (!y11)then(bnd (Xb y1.1 v2) λp12=>
      bnd (QcL N a0.c (wU ((wU (p12+1))+(wU v7)))) λy13=>
      some (.ret (Uc.mk 6 y13.1 (wU ((wU (p12+1))+(wU v7))))))
     else Qav N a0 y1 y6 v2 y4 n (wI (v7+1)))
    else Qav N a0 y1 y6 v2 y4 n (wI (v7+1)))
   else Qav N a0 y1 y6 v2 y4 n (wI (v7+1)))
  else some (.nxt ())
def QbU(N:Nat)(a0:Wk)(y1:List Int×Int):Nat->Int->Option (Ex Uc Unit)
 |0,_=>none
 |n+1,v2=>
  bif (decide (v2<(y1.1.length:Int)))then(bnd (Xb y1.1 v2) λp3=>
   bnd (Qb0 N a0 p3) λy4=>
   bnd (Xb y1.1 v2) λp5=>
   bnd (Qfn N a0 p5) λy6=>
   bnd (Qav N a0 y1 y6 v2 y4 N 0) λe=>exK e (λr=>some (.ret r)) λy14=>
   QbU N a0 y1 n (wI (v2+1)))
  else some (.nxt ())
def Qew(N:Nat)(a0:Wk):Option Uc:=bnd (Qay N a0) λy1=>bnd (QbU N a0 y1 N 0) λe=>exK e (λr=>some r) λy15=>some (Uc.mk 0 0 0)
def QbK(N:Nat)(a0:Wk):Nat->Int->Option (Ex Uc Unit)
 |0,_=>none
 |n+1,v2=>
  bif (decide (v2<(a0.p.length:Int)))then(bnd (QfC N a0 v2) λy3=>
   bif (y3.Fault != 0)then some (.ret y3)
   else QbK N a0 n (wI (v2+1)))
  else some (.nxt ())
def QbL(N:Nat)(a0:Wk):Nat->Int->Int->Option Int
 |0,_,_=>none
 |n+1,v6,v7=>
  bif (decide (v7<(a0.p.length:Int)))then(bnd (Xb a0.p v7) λp8=>
   bif (p8.k==1)then(bnd (Xb a0.p v7) λp9=>
    bif (decide (p9.P>0))then QbL N a0 n (wI (v6+1)) (wI (v7+1))
    else QbL N a0 n v6 (wI (v7+1)))
   else QbL N a0 n v6 (wI (v7+1)))
  else some v6
def QgJ(N:Nat)(a0:Wk):Option Uc:=bnd (Qab N a0) λy1=>bif (!y1)then some (Uc.mk 1 0 0)else bnd (QbK N a0 N 0) λe=>exK e (λr=>some r) λy4=>bnd (Qew N a0) λy5=>bif (y5.Fault != 0)then some y5 else bnd (QbL N a0 N 0 0) λy10=>bif (decide (y10>(wI (a0.c.p.tdiv 4))))then some (Uc.mk 7 0 0)else some (Uc.mk 0 0 0)
def Qbm(N:Nat)(a0:Wk):Option Bool:=bnd (QgJ N a0) λy1=>some ((y1.Fault==0)&&((y1.Page==0)&&(y1.Addr==0)))
def Qe8(N:Nat)(a0:List UH)(a1:Int):Nat->Int->Option (Ex Int Unit)
 |0,_=>none
 |n+1,v1=>
  bif (decide (v1<(a0.length:Int)))then(bnd (Xb a0 v1) λp2=>
   bif (p2.a==a1)then some (.ret v1)
   else Qe8 N a0 a1 n (wI (v1+1)))
  else some (.nxt ())
def QgV(N:Nat)(a0:List UH)(a1:Int):Option Int:=bnd (Qe8 N a0 a1 N 0) λe=>exK e (λr=>some r) λy3=>some (-1)
def QfD(N:Nat)(a0:Wk)(a1:Int):Option Int:=bnd (QcL N a0.c a1) λy1=>some y1.1
def Qcc(N:Nat)(a0:Wk)(a1:List UH)(y2:List Int×Int):Nat->Int->(List Int)->Option (Ex Bool (List Int))
 |0,_,_=>none
 |n+1,v3,v4=>
  bif (decide (v3<(a1.length:Int)))then(bnd (Xb a1 v3) λp5=>
   bnd (QcT N y2.1 p5.a) λy6=>
   bif (!y6)then some (.ret false)
   else bnd (Xb a1 v3) λp7=>
   bnd (QgV N a1 p7.a) λy8=>
   bif (y8 != v3)then some (.ret false)
   else bnd (Xb a1 v3) λp9=>
   bif (decide (p9.M<1))then some (.ret false)
   else bnd (Xb a1 v3) λp10=>
   bif (decide (p10.M>1000))then some (.ret false)
   else bnd (Xb a1 v3) λp11=>
   bnd (QfD N a0 p11.a) λy12=>
   bnd (Xb v4 y12) λp13=>
   bnd (Xb a1 v3) λp14=>
   bnd (Xb v4 y12) λp15=>
   Qcc N a0 a1 y2 n (wI (v3+1)) (v4.set y12.toNat (wI (p13+p14.M))))
  else some (.nxt v4)
def QcU(N:Nat)(a0:Wk)(y16:List Int):Nat->Int->Option (Ex Bool Unit)
 |0,_=>none
 |n+1,v17=>
  bif (decide (v17<(a0.p.length:Int)))then(bnd (Xb a0.p v17) λp18=>
   bnd (Xb y16 v17) λp19=>
   bif (p18.P != p19)then some (.ret false)
   else QcU N a0 y16 n (wI (v17+1)))
  else some (.nxt ())
def Qct(N:Nat)(a0:Wk)(a1:List UH):Option Bool:=bnd (Qbm N a0) λy1=>bif (!y1)then some false else bif (decide ((a1.length:Int)>64))then some false else bnd (Qay N a0) λy2=>grd (0<=(a0.p.length:Int)/\(a0.p.length:Int).toNat*8<=140737488355328) <| bnd (Qcc N a0 a1 y2 N 0 (List.replicate (a0.p.length:Int).toNat (0:Int))) λe=>exK e (λr=>some r) λy16=>bnd (QcU N a0 y16 N 0) λe=>exK e (λr=>some r) λy20=>some true
def QaC(N:Nat)(a1:List Int)(y2:List Int×Int):Nat->Int->Option (Ex Bool Unit)
 |0,_=>none
 |n+1,v3=>
  bif (decide (v3<(a1.length:Int)))then(bnd (Xb a1 v3) λp4=>
   bif (p4 != 0)then(bnd (Xb a1 v3) λp5=>
    bnd (QcT N y2.1 p5) λy6=>
    bif (!y6)then some (.ret false)
    else QaC N a1 y2 n (wI (v3+1)))
   else QaC N a1 y2 n (wI (v3+1)))
  else some (.nxt ())
def Qbc(N:Nat)(a0:Wk)(a1:List Int):Option Bool:=bnd (Qbm N a0) λy1=>bif (!y1)then some false else bnd (Qay N a0) λy2=>bnd (QaC N a1 y2 N 0) λe=>exK e (λr=>some r) λy7=>some true
def Qcu(N:Nat)(a0:W9):Option Bool:=bnd (Qct N a0.h a0.P) λy1=>bif (!y1)then some false else bnd (Qb8 N a0.l) λy2=>bif (!y2)then some false else bnd (Qb7 N a0.g) λy3=>bif (!y3)then some false else bnd (Qb7 N a0.v) λy4=>bif (!y4)then some false else bnd (Qbl N a0.g) λy5=>bnd (QcT N y5 0) λy6=>bif y6 then some false else grd (a0.R.length*8<=140737488355328) <| bnd (QcE N a0.l) λy7=>grd ((a0.R.length+y7.length)*8<=140737488355328) <| grd (((a0.R.length+y7.length)+y5.length)*8<=140737488355328) <| bnd (Qbl N a0.v) λy8=>grd ((((a0.R.length+y7.length)+y5.length)+y8.length)*8<=140737488355328) <| bnd (Qbc N a0.h (((a0.R++y7)++y5)++y8)) λy9=>some y9
def Qcd(N:Nat)(a0:Wk)(y3:List Int×Int):Nat->Int->(List Wt)->Option (List Wt)
 |0,_,_=>none
 |n+1,v4,v5=>
  grd (v5.length<=140737488355328) <|
  bif (decide (v4<(v5.length:Int)))then(bnd (Xb v5 v4) λp6=>
   bif (p6.k==1)then(bif (decide (p6.P>0))then(bnd (Xb v5 v4) λp7=>
       Qcd N a0 y3 n (wI (v4+1)) (v5.set v4.toNat (Wt.mk p7.k (wI (1-a0.s)) p7.u p7.P)))
    else Qcd N a0 y3 n (wI (v4+1)) v5)
   else Qcd N a0 y3 n (wI (v4+1)) v5)
  else some v5
def Qc2(N:Nat)(a0:Wk):Option (WD×Int):=bnd (Qab N a0) λy1=>bif (!y1)then some ((WD.mk zHp [] [] [] 0 (WM.mk 0 0 0 0 0 0)),1)else bnd (Qbm N a0) λy2=>bif (!y2)then some ((WD.mk zHp [] [] [] 0 (WM.mk 0 0 0 0 0 0)),19)else bnd (Qay N a0) λy3=>grd (a0.p.length*32<=140737488355328) <| bnd (Qcd N a0 y3 N 0 a0.p) λy8=>some ((WD.mk (Wk.mk a0.c a0.w y8 a0.s a0.b) y3.1 [] [] 0 (WM.mk 0 0 0 0 0 0)),0)
def Qcv(N:Nat)(a0:Int):Option (Int×Bool):=bif ((a0.tmod 4) != 2)then some (0,false)else bif (decide ((YA .u64 a0 2)>=4294967296))then some (0,false)else some ((YA .u64 a0 2),true)
def QcV(N:Nat)(a0:WD)(a1:Int):Nat->Int->Option (Ex Bool Unit)
 |0,_=>none
 |n+1,v1=>
  bif (decide (v1<(a0.t.length:Int)))then(bnd (Xb a0.t v1) λp2=>
   bif (p2==a1)then some (.ret true)
   else QcV N a0 a1 n (wI (v1+1)))
  else some (.nxt ())
def QgK(N:Nat)(a0:WD)(a1:Int):Option Bool:=bnd (QcV N a0 a1 N 0) λe=>exK e (λr=>some r) λy3=>some false
def QcW(N:Nat)(a0:WD)(a1:Int):Option Bool:=bif (decide (a1<0))then some false else bif (decide (a1>=(a0.h.p.length:Int)))then some false else bnd (Xb a0.h.p a1) λp1=>bif (p1.k==1)then(bif (p1.s != a0.h.s)then(bnd (QgK N a0 a1) λy2=>some (!y2))else some false)else some false
def Qdw(N:Nat)(a0:WD)(a1:Int):Option WD:=grd (a0.q.length*8<=140737488355328) <| grd ((a0.q.length+1)*8<=140737488355328) <| some (WD.mk a0.h a0.o a0.t (a0.q++[a1]) a0.d (WM.mk a0.r.j (wI (a0.r.K+1)) a0.r.F a0.r.E a0.r.f a0.r.y))
def Qbr(N:Nat)(a0:List Wt):Nat->Int->(List IY)->Option (List IY)
 |0,_,_=>none
 |n+1,v1,v2=>
  bif (decide (v1<(a0.length:Int)))then(bnd (Xb a0 v1) λp3=>
   bif (p3.k != 0)then Qbr N a0 n (wI (v1+1)) v2
   else grd (v2.length<=140737488355328) <|
   jn (λ(_:Unit)=>
    grd ((v2.length+1)*16<=140737488355328) <|
    Qbr N a0 n (wI (v1+1)) (v2++[(IY.mk v1 1)])) λj1=>
   bif (decide ((v2.length:Int)>0))then(bnd (Xb v2 (wI ((v2.length:Int)-1))) λp4=>
    bnd (Xb v2 (wI ((v2.length:Int)-1))) λp5=>
    bif ((wI (p4.O+p5.Len))==v1)then(bnd (Xb v2 (wI ((v2.length:Int)-1))) λp6=>
     bnd (Xb v2 (wI ((v2.length:Int)-1))) λp7=>
     Qbr N a0 n (wI (v1+1)) (v2.set (wI ((v2.length:Int)-1)).toNat (IY.mk p7.O (wI (p6.Len+1)))))
    else j1 ())
   else j1 ())
  else some v2
def Qgq(N:Nat)(a0:List Wt):Option (List IY):=bnd (Qbr N a0 N 0 []) λy8=>some y8
def Qbw(N:Nat)(a1:Int)(y1:List IY):Nat->Int->Option (Ex Int Unit)
 |0,_=>none
 |n+1,v2=>
  bif (decide (v2<(y1.length:Int)))then(bif (decide (a1>=1))then(bnd (Xb y1 v2) λp3=>
      bif (decide (p3.Len>=a1))then(bnd (Xb y1 v2) λp4=>
       some (.ret p4.O))
      else Qbw N a1 y1 n (wI (v2+1)))
   else Qbw N a1 y1 n (wI (v2+1)))
  else some (.nxt ())
def Qbi(N:Nat)(a0:List Wt)(a1:Int):Option Int:=bnd (Qgq N a0) λy1=>bnd (Qbw N a1 y1 N 0) λe=>exK e (λr=>some r) λy5=>some (-1)
def QdW(N:Nat)(a1:Int)(a2:Int)(a3:Wt)(a4:Wt):Nat->Int->(List Wt)->Option (Ex (List Wt×Int) (List Wt))
 |0,_,_=>none
 |n+1,v1,v2=>
  bif (decide (v1<a2))then(bnd (Xb v2 (wI (a1+v1))) λp3=>
   bif (p3.k != 0)then some (.ret ([],20))
   else bnd (Xb v2 (wI (a1+v1))) λp4=>
   QdW N a1 a2 a3 a4 n (wI (v1+1)) (v2.set (wI (a1+v1)).toNat a4))
  else some (.nxt v2)
def Qc6(N:Nat)(a0:List Wt)(a1:Int)(a2:Int)(a3:Wt)(a4:Wt):Option (List Wt×Int):=bif (decide (a1<0))then some ([],2)else bif (decide (a1>=(a0.length:Int)))then some ([],2)else bif (decide (a2>(wI ((a0.length:Int)-a1))))then some ([],2)else grd (a0.length*32<=140737488355328) <| bnd (QdW N a1 a2 a3 a4 N 0 a0) λe=>exK e (λr=>some r) λy5=>bnd (Xb y5 a1) λp6=>some ((y5.set a1.toNat a3),0)
def Qbz(N:Nat)(a0:List Wt)(a1:Int)(a2:Int):Option (List Wt×Int):=bif (decide (a2<0))then some ([],1)else bif (decide (a2>1))then some ([],1)else bnd (Qc6 N a0 a1 1 (Wt.mk 1 a2 0 0) (Wt.mk 0 0 0 0)) λy1=>some (y1.1,y1.2)
def Qcw(N:Nat)(a0:WD)(a1:Int):Option (WD×Int×Bool):=grd (a0.h.p.length*32<=140737488355328) <| jn (λ(_:Unit)=>bnd (Qbi N a0.h.p 1) λy4=>bif (decide (y4<0))then some ((WD.mk zHp [] [] [] 0 (WM.mk 0 0 0 0 0 0)),0,false)else bnd (Qbz N a0.h.p y4 (wI (1-a0.h.s))) λy5=>grd (a0.t.length*8<=140737488355328) <| grd ((a0.t.length+1)*8<=140737488355328) <| bnd (Xb y5.1 y4) λp13=>bnd (Xb y5.1 y4) λp14=>bnd (Xb y5.1 y4) λp15=>some ((WD.mk (Wk.mk a0.h.c a0.h.w (y5.1.set y4.toNat (Wt.mk p15.k p15.s (wI (p14.u+a1)) p15.P)) a0.h.s a0.h.b) a0.o (a0.t++[y4]) a0.q a0.d a0.r),(wU (wI ((wI (4096+(wI (y4*a0.h.c.W))))+p13.u))),true)) λj1=>bif (decide ((a0.t.length:Int)>0))then(bnd (Xb a0.t (wI ((a0.t.length:Int)-1))) λp1=>bnd (Xb a0.h.p p1) λp2=>bif (decide ((wI (p2.u+a1))<=a0.h.c.W))then(bnd (Xb a0.t (wI ((a0.t.length:Int)-1))) λp3=>bnd (Xb a0.h.p p3) λp10=>bnd (Xb a0.h.p p3) λp11=>bnd (Xb a0.h.p p3) λp12=>some ((WD.mk (Wk.mk a0.h.c a0.h.w (a0.h.p.set p3.toNat (Wt.mk p12.k p12.s (wI (p11.u+a1)) p12.P)) a0.h.s a0.h.b) a0.o a0.t a0.q a0.d a0.r),(wU (wI ((wI (4096+(wI (p3*a0.h.c.W))))+p10.u))),true))else j1 ())else j1 ()
def QbM(N:Nat)(a2:List Int)(y1:Int×Bool):Nat->Int->(List Int)->Option (List Int)
 |0,_,_=>none
 |n+1,v2,v3=>
  bif (decide (v2<(a2.length:Int)))then(bnd (Xb a2 v2) λp4=>
   bnd (Xb v3 (wI (y1.1+v2))) λp5=>
   QbM N a2 y1 n (wI (v2+1)) (v3.set (wI (y1.1+v2)).toNat p4))
  else some v3
def Qca(N:Nat)(a0:List Int)(a1:Int)(a2:List Int):Option (List Int×Int):=bnd (Qdv N a0 a1 (a2.length:Int)) λy1=>bif (!y1.2)then some ([],2)else grd (a0.length*8<=140737488355328) <| bnd (QbM N a2 y1 N 0 a0) λy6=>some (y6,0)
def QfE(N:Nat)(a0:List Int)(a1:Int)(a2:Int)(a3:Int):Option (List Int×Int):=bnd (Qc5 N a0 a2 a3) λy1=>bif (y1.2 != 0)then some ([],y1.2)else bnd (Qca N a0 a1 y1.1) λy2=>some (y2.1,y2.2)
def QcI(N:Nat)(a0:Int):Option (Int×Int):=bif (decide (a0>=4294967296))then some (0,1)else some ((wU ((wU (4*a0))+2)),0)
def Qdx(N:Nat)(a0:List Int)(a1:Int)(a2:Int):Option (List Int×Int):=bnd (Qca N a0 a1 [a2]) λy1=>some (y1.1,y1.2)
def QaH(N:Nat)(a0:WD)(a1:Int):Nat->Int->(List Wt)->Option (List Wt)
 |0,_,_=>none
 |n+1,v10,v11=>
  grd (v11.length<=140737488355328) <|
  bif (decide (v10<(v11.length:Int)))then(bnd (Xb v11 v10) λp12=>
   bif (p12.k==3)then(bnd (Xb v11 v10) λp13=>
    QaH N a0 a1 n (wI (v10+1)) (v11.set v10.toNat (Wt.mk p13.k (wI (1-a0.h.s)) p13.u p13.P)))
   else some v11)
  else some v11
def QaZ(N:Nat)(a0:WD)(a1:Int):Option (WD×Int×Int):=bif (a1==0)then some (a0,a1,0)else bnd (QcT N a0.q a1) λy1=>bif y1 then some (a0,a1,0)else bnd (QcT N a0.o a1) λy2=>bif (!y2)then some ((WD.mk zHp [] [] [] 0 (WM.mk 0 0 0 0 0 0)),0,19)else bnd (Qbb N a0.h.w a1) λy3=>bnd (Qcv N y3.1) λy4=>bif y4.2 then some (a0,y4.1,0)else bnd (QcL N a0.h.c a1) λy5=>bif (y5.2.2 != 0)then some ((WD.mk zHp [] [] [] 0 (WM.mk 0 0 0 0 0 0)),0,19)else bif (decide (y5.1>=(a0.h.p.length:Int)))then some ((WD.mk zHp [] [] [] 0 (WM.mk 0 0 0 0 0 0)),0,19)else bnd (QcW N a0 y5.1) λy6=>bif y6 then(bnd (Qdw N a0 a1) λy7=>some (y7,a1,0))else bnd (Xb a0.h.p y5.1) λp8=>bif (p8.k==2)then(grd (a0.h.p.length*32<=140737488355328) <| bnd (Xb a0.h.p y5.1) λp9=>bnd (QaH N a0 a1 N (wI (y5.1+1)) (a0.h.p.set y5.1.toNat (Wt.mk p9.k (wI (1-a0.h.s)) p9.u p9.P))) λy14=>bnd (Qdw N (WD.mk (Wk.mk a0.h.c a0.h.w y14 a0.h.s a0.h.b) a0.o a0.t a0.q a0.d a0.r) a1) λy15=>some (y15,a1,0))else bnd (Qcr N y3.1) λy16=>bnd (QcG N y16.1) λy17=>bnd (Qcw N a0 y17) λy18=>bif (!y18.2.2)then some ((WD.mk zHp [] [] [] 0 (WM.mk 0 0 0 0 0 0)),0,3)else bnd (QfE N y18.1.h.w y18.2.1 a1 y17) λy19=>bnd (QcI N y18.2.1) λy20=>bnd (Qdx N y19.1 a1 y20.1) λy21=>grd (y18.1.q.length*8<=140737488355328) <| grd ((y18.1.q.length+1)*8<=140737488355328) <| some ((WD.mk (Wk.mk y18.1.h.c y21.1 y18.1.h.p y18.1.h.s y18.1.h.b) y18.1.o y18.1.t (y18.1.q++[y18.2.1]) y18.1.d (WM.mk (wI (y18.1.r.j+1)) y18.1.r.K y18.1.r.F y18.1.r.E y18.1.r.f y18.1.r.y)),y18.2.1,0)
def Qa7(N:Nat)(a1:List Int):Nat->Int->Int->Int->(List Int)->(List Wt)->Int->Int->(List Int)->(List Int)->(List Int)->Int->Int->Int->Int->Int->Int->Int->(List Int)->Option (Ex (WD×List Int×Int) (Int×Int×List Int×List Wt×Int×Int×List Int×List Int×List Int×Int×Int×Int×Int×Int×Int×Int×List Int))
 |0,_,_,_,_,_,_,_,_,_,_,_,_,_,_,_,_,_,_=>none
 |n+1,v1,v2,v3,v4,v5,v6,v7,v8,v9,v10,v11,v12,v13,v14,v15,v16,v17,v18=>
  bif (decide (v1<(a1.length:Int)))then(bnd (Xb a1 v1) λp19=>
   bnd (QaZ N (WD.mk (Wk.mk (WT.mk v2 v3) v4 v5 v6 v7) v8 v9 v10 v11 (WM.mk v12 v13 v14 v15 v16 v17)) p19) λy20=>
   bif (y20.2.2 != 0)then some (.ret ((WD.mk zHp [] [] [] 0 (WM.mk 0 0 0 0 0 0)),[],y20.2.2))
   else grd ((v18.length+1)*8<=140737488355328) <|
   Qa7 N a1 n (wI (v1+1)) y20.1.h.c.W y20.1.h.c.p y20.1.h.w y20.1.h.p y20.1.h.s y20.1.h.b y20.1.o y20.1.t y20.1.q y20.1.d y20.1.r.j y20.1.r.K y20.1.r.F y20.1.r.E y20.1.r.f y20.1.r.y (v18++[y20.2.1]))
  else some (.nxt (v2,v3,v4,v5,v6,v7,v8,v9,v10,v11,v12,v13,v14,v15,v16,v17,v18))
def Qdy(N:Nat)(a0:WD)(a1:List Int):Option (WD×List Int×Int):=bnd (Qa7 N a1 N 0 a0.h.c.W a0.h.c.p a0.h.w a0.h.p a0.h.s a0.h.b a0.o a0.t a0.q a0.d a0.r.j a0.r.K a0.r.F a0.r.E a0.r.f a0.r.y []) λe=>exK e (λr=>some r) λy21=>some ((WD.mk (Wk.mk (WT.mk y21.1 y21.2.1) y21.2.2.1 y21.2.2.2.1 y21.2.2.2.2.1 y21.2.2.2.2.2.1) y21.2.2.2.2.2.2.1 y21.2.2.2.2.2.2.2.1 y21.2.2.2.2.2.2.2.2.1 y21.2.2.2.2.2.2.2.2.2.1 (WM.mk y21.2.2.2.2.2.2.2.2.2.2.1 y21.2.2.2.2.2.2.2.2.2.2.2.1 y21.2.2.2.2.2.2.2.2.2.2.2.2.1 y21.2.2.2.2.2.2.2.2.2.2.2.2.2.1 y21.2.2.2.2.2.2.2.2.2.2.2.2.2.2.1 y21.2.2.2.2.2.2.2.2.2.2.2.2.2.2.2.1)),y21.2.2.2.2.2.2.2.2.2.2.2.2.2.2.2.2,0)
def Qek(N:Nat)(a0:WD)(a1:Int):Option Wy:=bnd (Qbb N a0.h.w a1) λy1=>bnd (Qcr N y1.1) λy2=>some y2.1
def QbV(N:Nat)(a0:Wy):Nat->Int->(List Int)->Option (List Int)
 |0,_,_=>none
 |n+1,v1,v2=>
  bif (decide (v1<a0.n))then(bnd (Qc1 N a0) λy3=>
   bif y3 then(bnd (Qb9 N a0 v1) λy4=>
    bif y4 then(grd ((v2.length+1)*8<=140737488355328) <|
     QbV N a0 n (wI (v1+1)) (v2++[v1]))
    else QbV N a0 n (wI (v1+1)) v2)
   else some v2)
  else some v2
def Qfo(N:Nat)(a0:Wy):Option (List Int):=bnd (QbV N a0 N 0 []) λy5=>some y5
def Qbs(N:Nat)(p1:Int)(y3:List Int):Nat->Int->Int->Int->(List Int)->(List Wt)->Int->Int->(List Int)->(List Int)->(List Int)->Int->Int->Int->Int->Int->Int->Int->Option (Ex (WD×Bool×Int) (Int×Int×List Int×List Wt×Int×Int×List Int×List Int×List Int×Int×Int×Int×Int×Int×Int×Int))
 |0,_,_,_,_,_,_,_,_,_,_,_,_,_,_,_,_,_=>none
 |n+1,v4,v5,v6,v7,v8,v9,v10,v11,v12,v13,v14,v15,v16,v17,v18,v19,v20=>
  bif (decide (v4<(y3.length:Int)))then(bnd (Xb y3 v4) λp21=>
   bnd (Qbb N v7 (wU ((wU (p1+1))+(wU p21)))) λy22=>
   bnd (QaZ N (WD.mk (Wk.mk (WT.mk v5 v6) v7 v8 v9 v10) v11 v12 v13 v14 (WM.mk v15 v16 v17 v18 v19 v20)) y22.1) λy23=>
   bif (y23.2.2 != 0)then some (.ret ((WD.mk zHp [] [] [] 0 (WM.mk 0 0 0 0 0 0)),false,y23.2.2))
   else bnd (Qdx N y23.1.h.w (wU ((wU (p1+1))+(wU p21))) y23.2.1) λy24=>
   Qbs N p1 y3 n (wI (v4+1)) y23.1.h.c.W y23.1.h.c.p y24.1 y23.1.h.p y23.1.h.s y23.1.h.b y23.1.o y23.1.t y23.1.q y23.1.d y23.1.r.j y23.1.r.K y23.1.r.F y23.1.r.E y23.1.r.f y23.1.r.y)
  else some (.nxt (v5,v6,v7,v8,v9,v10,v11,v12,v13,v14,v15,v16,v17,v18,v19,v20))
def QfF(N:Nat)(a0:WD):Option (WD×Bool×Int):=bif (decide (a0.d>=(a0.q.length:Int)))then some (a0,false,0)else bnd (Xb a0.q a0.d) λp1=>bnd (Qek N a0 p1) λy2=>bnd (Qfo N y2) λy3=>bnd (Qbs N p1 y3 N 0 a0.h.c.W a0.h.c.p a0.h.w a0.h.p a0.h.s a0.h.b a0.o a0.t a0.q a0.d a0.r.j a0.r.K a0.r.F a0.r.E a0.r.f a0.r.y) λe=>exK e (λr=>some r) λy25=>some ((WD.mk (Wk.mk (WT.mk y25.1 y25.2.1) y25.2.2.1 y25.2.2.2.1 y25.2.2.2.2.1 y25.2.2.2.2.2.1) y25.2.2.2.2.2.2.1 y25.2.2.2.2.2.2.2.1 y25.2.2.2.2.2.2.2.2.1 (wI (y25.2.2.2.2.2.2.2.2.2.1+1)) (WM.mk y25.2.2.2.2.2.2.2.2.2.2.1 y25.2.2.2.2.2.2.2.2.2.2.2.1 y25.2.2.2.2.2.2.2.2.2.2.2.2.1 y25.2.2.2.2.2.2.2.2.2.2.2.2.2.1 y25.2.2.2.2.2.2.2.2.2.2.2.2.2.2.1 (wI ((wI (y25.2.2.2.2.2.2.2.2.2.2.2.2.2.2.2+1))+(y3.length:Int))))),true,0)
def QbG(N:Nat):Nat->Int->Int->(List Int)->(List Wt)->Int->Int->(List Int)->(List Int)->(List Int)->Int->Int->Int->Int->Int->Int->Int->Option (WD×Int)
 |0,_,_,_,_,_,_,_,_,_,_,_,_,_,_,_,_=>none
 |n+1,v1,v2,v3,v4,v5,v6,v7,v8,v9,v10,v11,v12,v13,v14,v15,v16=>
  bnd (QfF N (WD.mk (Wk.mk (WT.mk v1 v2) v3 v4 v5 v6) v7 v8 v9 v10 (WM.mk v11 v12 v13 v14 v15 v16))) λy17=>
  bif (y17.2.2 != 0)then some ((WD.mk zHp [] [] [] 0 (WM.mk 0 0 0 0 0 0)),y17.2.2)
  else bif (!y17.2.1)then some (y17.1,0)
  else QbG N n y17.1.h.c.W y17.1.h.c.p y17.1.h.w y17.1.h.p y17.1.h.s y17.1.h.b y17.1.o y17.1.t y17.1.q y17.1.d y17.1.r.j y17.1.r.K y17.1.r.F y17.1.r.E y17.1.r.f y17.1.r.y
def QeU(N:Nat)(a0:WD):Option (WD×Int):=bnd (QbG N N a0.h.c.W a0.h.c.p a0.h.w a0.h.p a0.h.s a0.h.b a0.o a0.t a0.q a0.d a0.r.j a0.r.K a0.r.F a0.r.E a0.r.f a0.r.y) λr=>some r
def Qdz(N:Nat)(a0:WD)(a1:Int):Option Int:=bnd (QcT N a0.q a1) λy1=>bif y1 then some a1 else bnd (Qbb N a0.h.w a1) λy2=>bnd (Qcv N y2.1) λy3=>some y3.1
def Qbt(N:Nat)(a0:WD)(v4:List Wt)(p5:Wt)(v1:Int)(v2:Int):Nat->Int->(List Int)->Option (List Int)
 |0,_,_=>none
 |n+1,v7,v8=>
  bif (decide (v7<a0.h.c.W))then(bnd (Xb v8 (wI ((wI (v1*a0.h.c.W))+v7))) λp9=>
   Qbt N a0 v4 p5 v1 v2 n (wI (v7+1)) (v8.set (wI ((wI (v1*a0.h.c.W))+v7)).toNat 0))
  else some v8
def Qa0(N:Nat)(a0:WD):Nat->Int->Int->(List Int)->(List Wt)->Option (Int×List Int×List Wt)
 |0,_,_,_,_=>none
 |n+1,v1,v2,v3,v4=>
  grd (v4.length<=140737488355328) <|
  bif (decide (v1<(v4.length:Int)))then(bnd (Xb v4 v1) λp5=>
   bif (p5.k==0)then Qa0 N a0 n (wI (v1+1)) v2 v3 v4
   else bif (p5.s != a0.h.s)then Qa0 N a0 n (wI (v1+1)) v2 v3 v4
   else bnd (Xb v4 v1) λp6=>
   bnd (Qbt N a0 v4 p5 v1 v2 N 0 v3) λy10=>
   Qa0 N a0 n (wI (v1+1)) (wI (v2+1)) y10 (v4.set v1.toNat (Wt.mk 0 0 0 0)))
  else some (v2,v3,v4)
def Qeh(N:Nat)(a0:WD):Option WD:=grd (a0.h.p.length*32<=140737488355328) <| grd (a0.h.w.length*8<=140737488355328) <| bnd (Qa0 N a0 N 0 a0.r.E a0.h.w a0.h.p) λy11=>some (WD.mk (Wk.mk a0.h.c y11.2.1 y11.2.2 a0.h.s a0.h.b) a0.o a0.t a0.q a0.d (WM.mk a0.r.j a0.r.K a0.r.F y11.1 a0.r.f a0.r.y))
def QaT(N:Nat)(a0:WD):Nat->Int->(List Int)->Int->Option (List Int×Int)
 |0,_,_,_=>none
 |n+1,v1,v2,v3=>
  bif (decide (v1<(a0.o.length:Int)))then(bnd (Xb a0.o v1) λp4=>
   bnd (QcL N a0.h.c p4) λy5=>
   bnd (QcW N (WD.mk (Wk.mk a0.h.c v2 a0.h.p a0.h.s a0.h.b) a0.o a0.t a0.q a0.d (WM.mk a0.r.j a0.r.K v3 a0.r.E a0.r.f a0.r.y)) y5.1) λy6=>
   bif (!y6)then QaT N a0 n (wI (v1+1)) v2 v3
   else bnd (Xb a0.o v1) λp7=>
   bnd (QcT N a0.q p7) λy8=>
   bif y8 then QaT N a0 n (wI (v1+1)) v2 v3
   else bnd (Xb a0.o v1) λp9=>
   bnd (Qek N (WD.mk (Wk.mk a0.h.c v2 a0.h.p a0.h.s a0.h.b) a0.o a0.t a0.q a0.d (WM.mk a0.r.j a0.r.K v3 a0.r.E a0.r.f a0.r.y)) p9) λy10=>
   bnd (Qcq N (Wy.mk 0 y10.n 0)) λy11=>
   bnd (Xb a0.o v1) λp12=>
   grd (0<=y10.n/\y10.n.toNat*8<=140737488355328) <|
   grd ((1+y10.n.toNat)*8<=140737488355328) <|
   bnd (Qca N v2 p12 ([y11.1]++(List.replicate y10.n.toNat (0:Int)))) λy13=>
   QaT N a0 n (wI (v1+1)) y13.1 (wI (v3+1)))
  else some (v2,v3)
def QeV(N:Nat)(a0:WD):Option WD:=bnd (QaT N a0 N 0 a0.h.w a0.r.F) λy14=>some (WD.mk (Wk.mk a0.h.c y14.1 a0.h.p a0.h.s a0.h.b) a0.o a0.t a0.q a0.d (WM.mk a0.r.j a0.r.K y14.2 a0.r.E a0.r.f a0.r.y))
def Qa2(N:Nat)(a2:List Int)(y5:WD×List Int×Int)(y6:WD×Int):Nat->Int->Int->(List Int)->Option (Int×List Int)
 |0,_,_,_=>none
 |n+1,v7,v8,v9=>
  bif (decide (v7<(a2.length:Int)))then(bnd (Xb a2 v7) λp10=>
   jn (λ(x14:Int) (x15:Int)=>
    grd ((v9.length+1)*8<=140737488355328) <|
    Qa2 N a2 y5 y6 n (wI (v7+1)) x15 (v9++[x14])) λj3=>
   bif (p10 != 0)then(bnd (Xb a2 v7) λp11=>
    bnd (Qdz N (WD.mk y6.1.h y6.1.o y6.1.t y6.1.q y6.1.d (WM.mk y6.1.r.j y6.1.r.K y6.1.r.F y6.1.r.E v8 y6.1.r.y)) p11) λy12=>
    jn (λ(x13:Int)=>
     j3 y12 x13) λj2=>
    bif (y12==0)then j2 (wI (v8+1))
    else j2 v8)
   else j3 0 v8)
  else some (v8,v9)
def QcJ(N:Nat)(a0:Wk)(a1:List Int)(a2:List Int):Option (Wk×List Int×List Int×WM×Int):=bnd (Qab N a0) λy1=>bif (!y1)then some (zHp,[],[],(WM.mk 0 0 0 0 0 0),1)else jn (λ(_:Unit)=>some (zHp,[],[],(WM.mk 0 0 0 0 0 0),19)) λj1=>bnd (Qbc N a0 a1) λy2=>bif (!y2)then j1 ()else bnd (Qbc N a0 a2) λy3=>bif (!y3)then j1 ()else bnd (Qc2 N a0) λy4=>bnd (Qdy N y4.1 a1) λy5=>bif (y5.2.2 != 0)then some (zHp,[],[],(WM.mk 0 0 0 0 0 0),y5.2.2)else bnd (QeU N y5.1) λy6=>bif (y6.2 != 0)then some (zHp,[],[],(WM.mk 0 0 0 0 0 0),y6.2)else bnd (Qa2 N a2 y5 y6 N 0 y6.1.r.f []) λy16=>bnd (QeV N (WD.mk y6.1.h y6.1.o y6.1.t y6.1.q y6.1.d (WM.mk y6.1.r.j y6.1.r.K y6.1.r.F y6.1.r.E y16.1 y6.1.r.y))) λy17=>bnd (Qeh N y17) λy18=>jn (λ(x20:Int)=>some ((Wk.mk y18.h.c y18.h.w y18.h.p (wI (1-y18.h.s)) x20),y5.2.1,y16.2,y18.r,0)) λj4=>bif (decide ((y18.t.length:Int)>0))then(bnd (Xb y18.t (wI ((y18.t.length:Int)-1))) λp19=>j4 p19)else j4 (-1)
def Qbd(N:Nat)(a0:W9):Nat->Int->(List Int)->Option (List Int)
 |0,_,_=>none
 |n+1,v3,v4=>
  bif (decide (v3<(a0.P.length:Int)))then(bnd (Xb a0.P v3) λp5=>
   grd ((v4.length+1)*8<=140737488355328) <|
   Qbd N a0 n (wI (v3+1)) (v4++[p5.a]))
  else some v4
def QdG(N:Nat)(a0:W9):Option (List Int):=grd (a0.R.length*8<=140737488355328) <| bnd (QcE N a0.l) λy1=>grd ((a0.R.length+y1.length)*8<=140737488355328) <| bnd (Qbl N a0.g) λy2=>grd (((a0.R.length+y1.length)+y2.length)*8<=140737488355328) <| bnd (Qbd N a0 N 0 ((a0.R++y1)++y2)) λy6=>some y6
def Qa8(N:Nat)(a0:Ww)(a1:List Int):Nat->Int->Int->(List UM)->Option (Ex (Ww×Int) (List UM))
 |0,_,_,_=>none
 |n+1,v3,v4,v5=>
  grd (v5.length<=140737488355328) <|
  bif (decide (v4<(v5.length:Int)))then(bnd (Xb v5 v4) λp6=>
   bif (!p6.V)then Qa8 N a0 a1 n v3 (wI (v4+1)) v5
   else bnd (Xb a1 v3) λp7=>
   bif (p7==0)then some (.ret ((Ww.mk [] [] []),1))
   else bnd (Xb a1 v3) λp8=>
   bnd (Xb v5 v4) λp9=>
   Qa8 N a0 a1 n (wI (v3+1)) (wI (v4+1)) (v5.set v4.toNat (UM.mk p9.J p8 p9.V)))
  else some (.nxt v5)
def QdA(N:Nat)(a0:Ww)(a1:List Int):Option (Ww×Int):=bnd (Qb8 N a0) λy1=>bif (!y1)then some ((Ww.mk [] [] []),1)else bnd (QcE N a0) λy2=>bif ((a1.length:Int) != (y2.length:Int))then some ((Ww.mk [] [] []),1)else grd (a0.S.length*24<=140737488355328) <| bnd (Qa8 N a0 a1 N 0 0 a0.S) λe=>exK e (λr=>some r) λy10=>some ((Ww.mk y10 a0.x a0.i),0)
def Qa9(N:Nat)(a1:List Int):Nat->Int->Int->(List W8)->Option (List W8)
 |0,_,_,_=>none
 |n+1,v3,v4,v5=>
  grd (v5.length<=140737488355328) <|
  bif (decide (v4<(v5.length:Int)))then(bnd (Xb v5 v4) λp6=>
   bif p6.V then(bnd (Xb a1 v3) λp7=>
    bnd (Xb v5 v4) λp8=>
    Qa9 N a1 n (wI (v3+1)) (wI (v4+1)) (v5.set v4.toNat (W8.mk p8.G p7 p8.V)))
   else Qa9 N a1 n v3 (wI (v4+1)) v5)
  else some v5
def Qce(N:Nat)(a0:WE)(a1:List Int):Option (WE×Int):=bnd (Qb7 N a0) λy1=>bif (!y1)then some ((WE.mk []),1)else bnd (Qbl N a0) λy2=>grd (y2.length<=140737488355328) <| bif ((a1.length:Int) != (y2.length:Int))then some ((WE.mk []),1)else grd (a0.e.length*24<=140737488355328) <| bnd (Qa9 N a1 N 0 0 a0.e) λy9=>some ((WE.mk y9),0)
def QaU(N:Nat)(a0:W9)(y4:Wk×List Int×List Int×WM×Int)(y5:List Int)(y6:List Int)(y7:Ww×Int)(y8:WE×Int)(y9:WE×Int):Nat->Int->(List UH)->Option (List UH)
 |0,_,_=>none
 |n+1,v10,v11=>
  bif (decide (v10<(a0.P.length:Int)))then(bnd (Xb y4.2.1 (wI ((wI ((wI ((a0.R.length:Int)+(y5.length:Int)))+(y6.length:Int)))+v10))) λp12=>
   bnd (Xb a0.P v10) λp13=>
   grd ((v11.length+1)*16<=140737488355328) <|
   QaU N a0 y4 y5 y6 y7 y8 y9 n (wI (v10+1)) (v11++[(UH.mk p12 p13.M)]))
  else some v11
def Qba(N:Nat)(a0:W9):Option (W9×WM×Int):=bnd (Qcu N a0) λy1=>bif (!y1)then some ((W9.mk zHp (Ww.mk [] [] []) (WE.mk []) (WE.mk []) [] []),(WM.mk 0 0 0 0 0 0),19)else bnd (QdG N a0) λy2=>bnd (Qbl N a0.v) λy3=>bnd (QcJ N a0.h y2 y3) λy4=>bif (y4.2.2.2.2 != 0)then some ((W9.mk zHp (Ww.mk [] [] []) (WE.mk []) (WE.mk []) [] []),(WM.mk 0 0 0 0 0 0),y4.2.2.2.2)else bnd (QcE N a0.l) λy5=>bnd (Qbl N a0.g) λy6=>grd (y6.length<=140737488355328) <| grd (0<=0/\0<=(a0.R.length:Int)/\(a0.R.length:Int)<=(y4.2.1.length:Int)) <| grd ((min ((a0.R.length:Int).toNat) y4.2.1.length)*8<=140737488355328) <| grd (0<=(a0.R.length:Int)/\(a0.R.length:Int)<=(wI ((a0.R.length:Int)+(y5.length:Int)))/\(wI ((a0.R.length:Int)+(y5.length:Int)))<=(y4.2.1.length:Int)) <| bnd (QdA N a0.l ((y4.2.1.drop (a0.R.length:Int).toNat).take ((wI ((a0.R.length:Int)+(y5.length:Int))).toNat-(a0.R.length:Int).toNat))) λy7=>grd (0<=(wI ((a0.R.length:Int)+(y5.length:Int)))/\(wI ((a0.R.length:Int)+(y5.length:Int)))<=(wI ((wI ((a0.R.length:Int)+(y5.length:Int)))+(y6.length:Int)))/\(wI ((wI ((a0.R.length:Int)+(y5.length:Int)))+(y6.length:Int)))<=(y4.2.1.length:Int)) <| bnd (Qce N a0.g ((y4.2.1.drop (wI ((a0.R.length:Int)+(y5.length:Int))).toNat).take ((wI ((wI ((a0.R.length:Int)+(y5.length:Int)))+(y6.length:Int))).toNat-(wI ((a0.R.length:Int)+(y5.length:Int))).toNat))) λy8=>bnd (Qce N a0.v y4.2.2.1) λy9=>bnd (QaU N a0 y4 y5 y6 y7 y8 y9 N 0 []) λy14=>some ((W9.mk y4.1 y7.1 y8.1 y9.1 y14 (y4.2.1.take (a0.R.length:Int).toNat)),y4.2.2.2.1,0)
def Qc7(N:Nat)(a0:WV)(a1:List Int):Nat->Int->Option (Ex Bool Unit)
 |0,_=>none
 |n+1,v1=>
  bif (decide (v1<(a1.length:Int)))then(bnd (Xb a1 v1) λp2=>
   bif (decide (p2>(wU (a0.T.length:Int))))then some (.ret false)
   else Qc7 N a0 a1 n (wI (v1+1)))
  else some (.nxt ())
def Qc8(N:Nat)(a0:WV)(a1:List Int):Option Bool:=bnd (Qc7 N a0 a1 N 0) λe=>exK e (λr=>some r) λy3=>some true
def QdX(N:Nat)(a0:Ib):Nat->Int->(List Int)->Option (List Int)
 |0,_,_=>none
 |n+1,v1,v2=>
  bif (decide (v1<(a0.D.length:Int)))then(bnd (Qb9 N a0.H v1) λy3=>
   bif y3 then(bnd (Xb a0.D v1) λp4=>
    grd ((v2.length+1)*8<=140737488355328) <|
    QdX N a0 n (wI (v1+1)) (v2++[p4]))
   else QdX N a0 n (wI (v1+1)) v2)
  else some v2
def Qgr(N:Nat)(a0:Ib):Option (List Int):=bnd (QdX N a0 N 0 []) λy5=>some y5
def QeK(N:Nat)(a0:WV)(a1:Int):Nat->Int->Option (Ex Int Unit)
 |0,_=>none
 |n+1,v1=>
  bif (decide (v1<(a0.m.length:Int)))then(bnd (Xb a0.m v1) λp2=>
   bif (p2.I==a1)then some (.ret v1)
   else QeK N a0 a1 n (wI (v1+1)))
  else some (.nxt ())
def QfG(N:Nat)(a0:WV)(a1:Int):Option Int:=bnd (QeK N a0 a1 N 0) λe=>exK e (λr=>some r) λy3=>some (-1)
def Qdn(N:Nat)(a0:WV):Nat->Int->Option (Ex Bool Unit)
 |0,_=>none
 |n+1,v5=>
  bif (decide (v5<(a0.T.length:Int)))then(bnd (Xb a0.T v5) λp6=>
   bnd (Qc1 N p6.H) λy7=>
   bif (!y7)then some (.ret false)
   else bif (p6.H.k==0)then some (.ret false)
   else bif ((p6.D.length:Int) != p6.H.n)then some (.ret false)
   else bnd (Qgr N p6) λy8=>
   bnd (Qc8 N a0 y8) λy9=>
   bif (!y9)then some (.ret false)
   else Qdn N a0 n (wI (v5+1)))
  else some (.nxt ())
def Qdo(N:Nat)(a0:WV)(y11:List Int):Nat->Int->Option (Ex Bool Unit)
 |0,_=>none
 |n+1,v12=>
  grd (y11.length<=140737488355328) <|
  bif (decide (v12<(y11.length:Int)))then(bnd (Xb y11 v12) λp13=>
   bif (p13==0)then some (.ret false)
   else Qdo N a0 y11 n (wI (v12+1)))
  else some (.nxt ())
def Qdp(N:Nat)(a0:WV)(y11:List Int):Nat->Int->Option (Ex Bool Unit)
 |0,_=>none
 |n+1,v15=>
  bif (decide (v15<(a0.m.length:Int)))then(bnd (Xb a0.m v15) λp16=>
   bif (decide (p16.I<1))then some (.ret false)
   else bif (decide (p16.I>(wU (a0.T.length:Int))))then some (.ret false)
   else bnd (QfG N a0 p16.I) λy17=>
   bif (y17 != v15)then some (.ret false)
   else bif (decide (p16.M<1))then some (.ret false)
   else bif (decide (p16.M>1000))then some (.ret false)
   else Qdp N a0 y11 n (wI (v15+1)))
  else some (.nxt ())
def Qel(N:Nat)(a0:WV):Option Bool:=bnd (QaM N a0.c) λy1=>bif (!y1)then some false else bnd (Qb8 N a0.l) λy2=>bif (!y2)then some false else bnd (Qb7 N a0.g) λy3=>bif (!y3)then some false else bnd (Qb7 N a0.v) λy4=>bif (!y4)then some false else bif (decide ((a0.m.length:Int)>64))then some false else bnd (Qdn N a0 N 0) λe=>exK e (λr=>some r) λy10=>bnd (Qbl N a0.g) λy11=>bnd (Qdo N a0 y11 N 0) λe=>exK e (λr=>some r) λy14=>bnd (Qdp N a0 y11 N 0) λe=>exK e (λr=>some r) λy18=>bnd (Qc8 N a0 a0.R) λy19=>bif y19 then(bnd (QcE N a0.l) λy20=>bnd (Qc8 N a0 y20) λy21=>bif y21 then(bnd (Qc8 N a0 y11) λy22=>bif y22 then(bnd (Qbl N a0.v) λy23=>bnd (Qc8 N a0 y23) λy24=>some y24)else some false)else some false)else some false
def QeW(N:Nat)(a0:WV):Nat->Int->(List Int)->Option (List Int)
 |0,_,_=>none
 |n+1,v3,v4=>
  bif (decide (v3<(a0.m.length:Int)))then(bnd (Xb a0.m v3) λp5=>
   grd ((v4.length+1)*8<=140737488355328) <|
   QeW N a0 n (wI (v3+1)) (v4++[p5.I]))
  else some v4
def Qha(N:Nat)(a0:WV):Option (List Int):=grd (a0.R.length*8<=140737488355328) <| bnd (QcE N a0.l) λy1=>grd ((a0.R.length+y1.length)*8<=140737488355328) <| bnd (Qbl N a0.g) λy2=>grd (((a0.R.length+y1.length)+y2.length)*8<=140737488355328) <| bnd (QeW N a0 N 0 ((a0.R++y1)++y2)) λy6=>some y6
def QcM(N:Nat)(a0:WV):Nat->Int->(List Bool)->(List Int)->Option (List Bool)
 |0,_,_,_=>none
 |n+1,v3,v4,v5=>
  grd (v5.length<=140737488355328) <|
  bif (decide (v3<(v5.length:Int)))then(bnd (Xb v5 v3) λp6=>
   bif (p6==0)then QcM N a0 n (wI (v3+1)) v4 v5
   else bnd (Xb v5 v3) λp7=>
   bnd (Xb v4 (wU (p7-1))) λp8=>
   bif p8 then QcM N a0 n (wI (v3+1)) v4 v5
   else bnd (Xb v5 v3) λp9=>
   bnd (Xb v4 (wU (p9-1))) λp10=>
   bnd (Xb v5 v3) λp11=>
   bnd (Xb a0.T (wU (p11-1))) λp12=>
   bnd (Qgr N p12) λy13=>
   grd ((v5.length+y13.length)*8<=140737488355328) <|
   QcM N a0 n (wI (v3+1)) (v4.set (wU (p9-1)).toNat true) (v5++y13))
  else some v4
def QfQ(N:Nat)(a0:WV):Option (List Bool):=bnd (Qel N a0) λy1=>bif (!y1)then some []else grd (0<=(a0.T.length:Int)/\(a0.T.length:Int).toNat<=140737488355328) <| bnd (Qha N a0) λy2=>bnd (QcM N a0 N 0 (List.replicate (a0.T.length:Int).toNat false) y2) λy14=>some y14
def Qa3(N:Nat)(a0:WV)(y2:List Bool):Nat->Int->(List Int)->Option (List Int)
 |0,_,_=>none
 |n+1,v4,v5=>
  grd (v5.length<=140737488355328) <|
  bif (decide (v4<(v5.length:Int)))then(bnd (Xb v5 v4) λp6=>
   bif (p6 != 0)then(bnd (Xb v5 v4) λp7=>
    bnd (Xb y2 (wU (p7-1))) λp8=>
    bif (!p8)then(bnd (Xb v5 v4) λp9=>
     Qa3 N a0 y2 n (wI (v4+1)) (v5.set v4.toNat 0))
    else Qa3 N a0 y2 n (wI (v4+1)) v5)
   else Qa3 N a0 y2 n (wI (v4+1)) v5)
  else some v5
def Qdg(N:Nat)(a0:WV):Option (WV×Int):=bnd (Qel N a0) λy1=>bif (!y1)then some (zWd,19)else bnd (QfQ N a0) λy2=>bnd (Qbl N a0.v) λy3=>bnd (Qa3 N a0 y2 N 0 y3) λy10=>bnd (Qce N a0.v y10) λy11=>some ((WV.mk a0.c a0.T a0.l a0.g y11.1 a0.m a0.R),0)
def Qaf(N:Nat)(a0:Int):Option (W9×Int×Int):=some ((W9.mk zHp (Ww.mk [] [] []) (WE.mk []) (WE.mk []) [] []),0,a0)
def Qcf(N:Nat)(a0:WT)(a1:Wy):Option Bool:=bnd (Qc1 N a1) λy1=>bif y1 then(bif (a1.k != 0)then(bnd (QcG N a1) λy2=>bnd (QeT N a0 y2) λy3=>some (y3 != (-1)))else some false)else some false
def Qf2(N:Nat)(a0:WT):Option Int:=bnd (QaM N a0) λy1=>bif (!y1)then some 0 else some (wI (a0.p.tdiv 4))
def Qbx(N:Nat)(a0:List Wt):Nat->Int->Int->Option Int
 |0,_,_=>none
 |n+1,v1,v2=>
  bif (decide (v2<(a0.length:Int)))then(bnd (Xb a0 v2) λp3=>
   bif (p3.k != 0)then Qbx N a0 n (wI (v1+1)) (wI (v2+1))
   else Qbx N a0 n v1 (wI (v2+1)))
  else some v1
def Qcx(N:Nat)(a0:List Wt):Option Int:=bnd (Qbx N a0 N 0 0) λy4=>some y4
def Qem(N:Nat)(a0:Wk)(a1:Int):Option (Wk×Int×Bool):=grd (a0.p.length*32<=140737488355328) <| bnd (Qf2 N a0.c) λy1=>bnd (Qcx N a0.p) λy2=>jn (λ(_:Unit)=>bnd (Qbi N a0.p 1) λy5=>bif (decide (y5<0))then some (zHp,0,false)else bif (decide (y2>=y1))then some (zHp,0,false)else bnd (Qbz N a0.p y5 a0.s) λy6=>bnd (Xb y6.1 y5) λp11=>bnd (Xb y6.1 y5) λp12=>bnd (Xb y6.1 y5) λp13=>some ((Wk.mk a0.c a0.w (y6.1.set y5.toNat (Wt.mk p13.k p13.s (wI (p12.u+a1)) p13.P)) a0.s y5),(wU (wI ((wI (4096+(wI (y5*a0.c.W))))+p11.u))),true)) λj1=>bif (decide (a0.b<0))then j1 ()else bnd (Xb a0.p a0.b) λp3=>bif (p3.s != a0.s)then j1 ()else bnd (Xb a0.p a0.b) λp4=>bif (decide ((wI (p4.u+a1))>a0.c.W))then j1 ()else bif (decide (y2>y1))then j1 ()else bnd (Xb a0.p a0.b) λp14=>bnd (Xb a0.p a0.b) λp15=>bnd (Xb a0.p a0.b) λp16=>some ((Wk.mk a0.c a0.w (a0.p.set a0.b.toNat (Wt.mk p16.k p16.s (wI (p15.u+a1)) p16.P)) a0.s a0.b),(wU (wI ((wI (4096+(wI (a0.b*a0.c.W))))+p14.u))),true)
def QdB(N:Nat)(a0:WT)(a1:List Wt)(a2:Int)(a3:Int)(a4:Int):Option (List Wt×Int):=bnd (QeT N a0 a4) λy1=>bif (decide (y1<1))then some ([],1)else bif (decide (a3<0))then some ([],1)else bif (decide (a3>1))then some ([],1)else bnd (Qc6 N a1 a2 y1 (Wt.mk 2 a3 a4 0) (Wt.mk 3 a3 0 0)) λy2=>some (y2.1,y2.2)
def Qen(N:Nat)(a0:Wk)(a1:Int)(a2:Int):Option (Wk×Int×Bool):=bnd (Qbi N a0.p a2) λy1=>bif (decide (y1<0))then some (zHp,0,false)else bnd (Qcx N a0.p) λy2=>bnd (Qf2 N a0.c) λy3=>bif (decide ((wI (y2+a2))>y3))then some (zHp,0,false)else bnd (QdB N a0.c a0.p y1 a0.s a1) λy4=>some ((Wk.mk a0.c a0.w y4.1 a0.s a0.b),(wU (wI (4096+(wI (y1*a0.c.W))))),true)
def Qbe(N:Nat)(a0:Wk)(a1:Int)(a2:Wy):Option (Wk×Int):=bnd (Qcq N a2) λy1=>bnd (Qab N a0) λy2=>bif (!y2)then some (zHp,1)else bif (y1.2 != 0)then some (zHp,1)else grd (0<=a2.n/\a2.n.toNat*8<=140737488355328) <| grd ((1+a2.n.toNat)*8<=140737488355328) <| bnd (Qca N a0.w a1 ([y1.1]++(List.replicate a2.n.toNat (0:Int)))) λy3=>bif (y3.2 != 0)then some (zHp,y3.2)else some ((Wk.mk a0.c y3.1 a0.p a0.s a0.b),0)
def QbW(N:Nat)(a0:Wk)(a1:Wy):Option (Wk×Int×Int):=bnd (Qab N a0) λy1=>bif (!y1)then some (zHp,0,1)else bnd (Qcf N a0.c a1) λy2=>bif (!y2)then some (zHp,0,1)else bnd (QcG N a1) λy3=>bnd (QeT N a0.c y3) λy4=>bnd (Qem N a0 y3) λy5=>jn (λ(x7:Int) (x8:Bool) (x9:Int) (x10:Int) (x11:List Int) (x12:List Wt) (x13:Int) (x14:Int)=>bif (!x8)then some (zHp,0,3)else bnd (Qbe N (Wk.mk (WT.mk x9 x10) x11 x12 x13 x14) x7 a1) λy15=>some (y15.1,x7,0)) λj1=>bif (decide (y4>0))then(bnd (Qen N a0 y3 y4) λy6=>j1 y6.2.1 y6.2.2 y6.1.c.W y6.1.c.p y6.1.w y6.1.p y6.1.s y6.1.b)else j1 y5.2.1 y5.2.2 y5.1.c.W y5.1.c.p y5.1.w y5.1.p y5.1.s y5.1.b
def QbA(N:Nat)(a0:W9)(a1:Wy):Option (W9×Int×Int):=bnd (Qcu N a0) λy1=>bif (!y1)then some ((W9.mk zHp (Ww.mk [] [] []) (WE.mk []) (WE.mk []) [] []),0,19)else bnd (QbW N a0.h a1) λy2=>jn (λ(x5:Int) (x6:Int) (x7:Int) (x8:Int) (x9:List Int) (x10:List Wt) (x11:Int) (x12:Int) (x13:List UM) (x14:List UU) (x15:List Int) (x16:List W8) (x17:List W8) (x18:List UH) (x19:List Int) (x20:Int) (x21:Int) (x22:List Int) (x23:List Wt) (x24:Int) (x25:Int)=>bif (x6 != 0)then some ((W9.mk zHp (Ww.mk [] [] []) (WE.mk []) (WE.mk []) [] []),0,x6)else some ((W9.mk (Wk.mk (WT.mk x20 x21) x22 x23 x24 x25) (Ww.mk x13 x14 x15) (WE.mk x16) (WE.mk x17) x18 x19),x5,0)) λj1=>bif (y2.2.2==3)then(bnd (Qba N a0) λy3=>bif (y3.2.2 != 0)then some ((W9.mk zHp (Ww.mk [] [] []) (WE.mk []) (WE.mk []) [] []),0,y3.2.2)else bnd (QbW N y3.1.h a1) λy4=>j1 y4.2.1 y4.2.2 y3.1.h.c.W y3.1.h.c.p y3.1.h.w y3.1.h.p y3.1.h.s y3.1.h.b y3.1.l.S y3.1.l.x y3.1.l.i y3.1.g.e y3.1.v.e y3.1.P y3.1.R y4.1.c.W y4.1.c.p y4.1.w y4.1.p y4.1.s y4.1.b)else j1 y2.2.1 y2.2.2 a0.h.c.W a0.h.c.p a0.h.w a0.h.p a0.h.s a0.h.b a0.l.S a0.l.x a0.l.i a0.g.e a0.v.e a0.P a0.R y2.1.c.W y2.1.c.p y2.1.w y2.1.p y2.1.s y2.1.b
def Qcy(N:Nat)(a0:Int)(a1:Int)(a2:Int):Option (Wy×Bool):=bif (a0==1)then(bif (decide (a1<=2147483647))then some ((Wy.mk a0 (wI (Zc .u64 a1 2147483647)) (wW a2)),(decide (a2<=4294967295)))else some ((Wy.mk a0 (wI (Zc .u64 a1 2147483647)) (wW a2)),false))else some ((Wy.mk a0 (wI (Zc .u64 a1 2147483647)) 0),(decide (a1<=2147483647)))
def Qeo(N:Nat)(a0:Ww)(a1:Int):Option (Ww×Int×Int×Int):=bnd (Qb8 N a0) λy1=>bif (!y1)then some ((Ww.mk [] [] []),0,0,1)else bif (a1==0)then some ((Ww.mk [] [] []),0,0,1)else bif ((a0.x.length:Int)==0)then some ((Ww.mk [] [] []),0,0,9)else bnd (Xb a0.x (wI ((a0.x.length:Int)-1))) λp2=>bnd (Qgp N a0 p2.O (a0.S.length:Int)) λy3=>bnd (Xb a0.x (wI ((a0.x.length:Int)-1))) λp4=>bif (decide (y3>=p4.C0))then some ((Ww.mk [] [] []),0,0,10)else bif ((a0.i.length:Int)==4096)then some ((Ww.mk [] [] []),0,0,18)else grd (a0.i.length*8<=140737488355328) <| grd ((a0.i.length+1)*8<=140737488355328) <| grd (a0.S.length*24<=140737488355328) <| grd ((a0.S.length+1)*24<=140737488355328) <| some ((Ww.mk (a0.S++[(UM.mk (wI ((a0.i.length:Int)+1)) a1 true)]) a0.x (a0.i++[(a0.S.length:Int)])),(a0.S.length:Int),(wI ((a0.i.length:Int)+1)),0)
def QhA(N:Nat)(a0:IA):Option Bool:=bif (decide (a0.Tag>=1))then(bif (decide (a0.Tag<=3))then(bif (decide (a0.Index>=0))then(bif (decide (a0.Index<=65535))then(bif (decide (a0.J>=1))then some (decide (a0.J<=4294967295))else some false)else some false)else some false)else some false)else some false
def Qb1(N:Nat)(a0:IA):Option (Int×Int):=bnd (QhA N a0) λy1=>bif (!y1)then some (0,1)else some ((wU ((wU ((wU a0.Tag)+(ZQ .u64 (wU a0.Index) 2)))+(ZQ .u64 (wU a0.J) 18))),0)
def Qcz(N:Nat)(a0:W9)(a1:Int):Option (W9×Int×Int):=bif (a1==0)then some (a0,0,0)else bnd (Qeo N a0.l a1) λy1=>bif (y1.2.2.2 != 0)then(bnd (Qaf N y1.2.2.2) λy2=>some (y2.1,y2.2.1,y2.2.2))else bnd (Qb1 N (IA.mk 1 y1.2.1 y1.2.2.1)) λy3=>some ((W9.mk a0.h y1.1 a0.g a0.v a0.P a0.R),y3.1,0)
def QdH(N:Nat)(a0:W9)(a1:Int)(a2:Int)(a3:Int):Option (W9×Int×Int):=bif (decide ((a0.P.length:Int)>0))then(bnd (Qaf N 15) λy1=>some (y1.1,y1.2.1,y1.2.2))else bnd (Qcy N a1 a2 a3) λy2=>jn (λ(_:Unit)=>bnd (Qaf N 1) λy4=>some (y4.1,y4.2.1,y4.2.2)) λj1=>bif (!y2.2)then j1 ()else bnd (Qcf N a0.h.c y2.1) λy3=>bif (!y3)then j1 ()else bnd (Qeo N a0.l 1) λy5=>bif (y5.2.2.2 != 0)then(bnd (Qaf N y5.2.2.2) λy6=>some (y6.1,y6.2.1,y6.2.2))else bnd (QbA N a0 y2.1) λy7=>bif (y7.2.2 != 0)then(bnd (Qaf N y7.2.2) λy8=>some (y8.1,y8.2.1,y8.2.2))else bnd (Qcz N y7.1 y7.2.1) λy9=>some (y9.1,y9.2.1,y9.2.2)
def QcA(N:Nat)(a0:Int):Option (IA×Int):=bif (a0==0)then some ((IA.mk 0 0 0),5)else bnd (Qb1 N (IA.mk (wI (Zc .u64 a0 3)) (wI (Zc .u64 (YA .u64 a0 2) 65535)) (wI (YA .u64 a0 18)))) λy1=>bif (y1.2 != 0)then some ((IA.mk 0 0 0),6)else bif (y1.1 != a0)then some ((IA.mk 0 0 0),6)else some ((IA.mk (wI (Zc .u64 a0 3)) (wI (Zc .u64 (YA .u64 a0 2) 65535)) (wI (YA .u64 a0 18))),0)
def QeX(N:Nat)(a0:Ww)(a1:Int)(a2:Int):Option (Int×Int):=bnd (Qb8 N a0) λy1=>bif (!y1)then some (0,1)else bif (decide (a2<1))then some (0,6)else bif (decide (a2>(a0.i.length:Int)))then some (0,6)else bnd (Xb a0.i (wI (a2-1))) λp2=>bif (p2 != a1)then some (0,6)else bif (decide (a1>=(a0.S.length:Int)))then some (0,7)else bnd (Xb a0.S a1) λp3=>bif (p3.J != a2)then some (0,7)else bnd (Xb a0.S a1) λp4=>bif (!p4.V)then some (0,8)else bnd (Xb a0.S a1) λp5=>some (p5.a,0)
def QdI(N:Nat)(a0:WE)(a1:Int)(a2:Int):Option (Int×Int):=bnd (Qb7 N a0) λy1=>bif (!y1)then some (0,1)else bif (decide (a1<0))then some (0,6)else bif (decide (a1>=(a0.e.length:Int)))then some (0,6)else bif (decide (a2<1))then some (0,6)else bnd (Xb a0.e a1) λp2=>bif (decide (a2>p2.G))then some (0,6)else bnd (Xb a0.e a1) λp3=>bif (decide (a2<p3.G))then some (0,8)else bnd (Xb a0.e a1) λp4=>bif (!p4.V)then some (0,8)else bnd (Xb a0.e a1) λp5=>some (p5.a,0)
def Qbu(N:Nat)(a0:W9)(a1:Int):Option (Int×Int):=bnd (Qcu N a0) λy1=>bif (!y1)then some (0,19)else bif (a1==0)then some (0,0)else bnd (QcA N a1) λy2=>bif (y2.2 != 0)then some (0,y2.2)else bif (y2.1.Tag==1)then(bnd (QeX N a0.l y2.1.Index y2.1.J) λy3=>some (y3.1,y3.2))else bif (y2.1.Tag==2)then(bnd (QdI N a0.g y2.1.Index y2.1.J) λy4=>some (y4.1,y4.2))else bnd (QdI N a0.v y2.1.Index y2.1.J) λy5=>some (y5.1,y5.2)
def QdC(N:Nat)(a0:W9)(a1:Int):Option (Int×Int):=bnd (Qbu N a0 a1) λy1=>bif (y1.2==0)then(bif (y1.1==0)then some (0,5)else some (y1.1,y1.2))else some (y1.1,y1.2)
def Qep(N:Nat)(a0:W9)(a1:Int)(a2:Int)(a3:Bool):Option (Int×Int×Int):=bnd (QdC N a0 a1) λy1=>bif (y1.2 != 0)then some (0,0,y1.2)else bnd (Qb0 N a0.h y1.1) λy2=>bif (decide (a2>=(wU y2.1.n)))then some (0,0,2)else bnd (Qb9 N y2.1 (wI a2)) λy3=>bif (!(y3==a3))then some (0,0,4)else some (y1.1,(wI a2),0)
def QbN(N:Nat)(a0:Wk)(a1:Int)(a2:Int):Option (Int×Int):=bnd (Qb0 N a0 a1) λy1=>bif (y1.2 != 0)then some (0,y1.2)else bif (decide (a2<0))then some (0,2)else bif (decide (a2>=y1.1.n))then some (0,2)else bnd (Qbb N a0.w (wU ((wU (a1+1))+(wU a2)))) λy2=>some (y2.1,y2.2)
def QbO(N:Nat)(a0:Wk)(a1:Int)(a2:Int)(a3:Int):Option (Wk×Int):=bnd (QbN N a0 a1 a2) λy1=>bif (y1.2 != 0)then some (zHp,y1.2)else bnd (Qdx N a0.w (wU ((wU (a1+1))+(wU a2))) a3) λy2=>some ((Wk.mk a0.c y2.1 a0.p a0.s a0.b),0)
def Qeq(N:Nat)(a0:W9)(a1:Int)(a2:Int)(a3:Int)(a4:Int):Option (W9×Int×Int):=jn (λ(x3:Int) (x4:Int) (x5:Int)=>bif (x5 != 0)then(bnd (Qaf N x5) λy6=>some (y6.1,y6.2.1,y6.2.2))else bnd (QbN N a0.h x3 x4) λy7=>bif (a1==6)then some (a0,y7.1,0)else bif (a1==8)then(bnd (Qcz N a0 y7.1) λy8=>some (y8.1,y8.2.1,y8.2.2))else jn (λ(x11:Int)=>bnd (QbO N a0.h x3 x4 x11) λy12=>some ((W9.mk y12.1 a0.l a0.g a0.v a0.P a0.R),0,0)) λj2=>bif (a1==9)then(bnd (Qbu N a0 a4) λy9=>bif (y9.2 != 0)then(bnd (Qaf N y9.2) λy10=>some (y10.1,y10.2.1,y10.2.2))else j2 y9.1)else j2 a4) λj1=>bif (a1==8)then(bnd (Qep N a0 a2 a3 true) λy1=>j1 y1.1 y1.2.1 y1.2.2)else bnd (Qep N a0 a2 a3 (a1==9)) λy2=>j1 y2.1 y2.2.1 y2.2.2
def Qer(N:Nat)(a0:W9)(a1:Int)(a2:Int)(a3:Int):Option (W9×Int×Int):=jn (λ(x1:Bool)=>bif x1 then(bnd (QdC N a0 a2) λy2=>bif (y2.2 != 0)then(bnd (Qaf N y2.2) λy3=>some (y3.1,y3.2.1,y3.2.2))else bnd (Qb0 N a0.h y2.1) λy4=>bif (a1==4)then some (a0,(wU y4.1.n),0)else some (a0,(wU y4.1.k),0))else bif (a1==10)then(bnd (Qbu N a0 a2) λy5=>bif (y5.2 != 0)then(bnd (Qaf N y5.2) λy6=>some (y6.1,y6.2.1,y6.2.2))else bnd (Qbu N a0 a3) λy7=>bif (y7.2 != 0)then(bnd (Qaf N y7.2) λy8=>some (y8.1,y8.2.1,y8.2.2))else bif (y5.1==y7.1)then some (a0,1,0)else some (a0,0,0))else bnd (Qbu N a0 a2) λy9=>bif (y9.2 != 0)then(bnd (Qaf N y9.2) λy10=>some (y10.1,y10.2.1,y10.2.2))else bnd (Qcz N a0 y9.1) λy11=>some (y11.1,y11.2.1,y11.2.2)) λj1=>bif (a1==4)then j1 true else j1 (a1==5)
def QbH(N:Nat)(a0:WE)(a1:Int):Nat->Int->Option (Ex (WE×Int×Int×Int) Unit)
 |0,_=>none
 |n+1,v2=>
  grd (a0.e.length<=140737488355328) <|
  bif (decide (v2<(a0.e.length:Int)))then(bnd (Xb a0.e v2) λp3=>
   bif (!p3.V)then(bnd (Xb a0.e v2) λp4=>
    bif (decide (p4.G<4294967295))then(bnd (Xb a0.e v2) λp5=>
     bnd (Xb a0.e v2) λp6=>
     bnd (Xb (a0.e.set v2.toNat (W8.mk (wI (p5.G+1)) a1 true)) v2) λp7=>
     some (.ret ((WE.mk (a0.e.set v2.toNat (W8.mk (wI (p5.G+1)) a1 true))),v2,p7.G,0)))
    else QbH N a0 a1 n (wI (v2+1)))
   else QbH N a0 a1 n (wI (v2+1)))
  else some (.nxt ())
def QcX(N:Nat)(a0:WE)(a1:Int):Option (WE×Int×Int×Int):=bnd (Qb7 N a0) λy1=>bif (!y1)then some ((WE.mk []),0,0,1)else grd (a0.e.length*24<=140737488355328) <| bnd (QbH N a0 a1 N 0) λe=>exK e (λr=>some r) λy8=>grd (a0.e.length<=140737488355328) <| bif ((a0.e.length:Int)==64)then some ((WE.mk []),0,0,18)else grd ((a0.e.length+1)*24<=140737488355328) <| grd (a0.e.length<=140737488355328) <| some ((WE.mk (a0.e++[(W8.mk 1 a1 true)])),(a0.e.length:Int),1,0)
def Qdh(N:Nat)(a0:W9)(a1:Int)(a2:Int):Option (W9×Int×Int):=bnd (QdC N a0 a2) λy1=>bif (y1.2 != 0)then(bnd (Qaf N y1.2) λy2=>some (y2.1,y2.2.1,y2.2.2))else jn (λ(x3:Int) (x4:List W8)=>bnd (QcX N (WE.mk x4) y1.1) λy5=>bif (y5.2.2.2 != 0)then(bnd (Qaf N y5.2.2.2) λy6=>some (y6.1,y6.2.1,y6.2.2))else jn (λ(x7:List W8) (x8:List W8)=>bnd (Qb1 N (IA.mk x3 y5.2.1 y5.2.2.1)) λy9=>some ((W9.mk a0.h a0.l (WE.mk x7) (WE.mk x8) a0.P a0.R),y9.1,0)) λj2=>bif (a1==15)then j2 a0.g.e y5.1.e else j2 y5.1.e a0.v.e) λj1=>bif (a1==15)then j1 3 a0.v.e else j1 2 a0.g.e
def QdJ(N:Nat)(a0:Ww)(a1:Int)(a2:Int):Option (Ww×Int):=bnd (QeX N a0 a1 a2) λy1=>bif (y1.2 != 0)then some ((Ww.mk [] [] []),y1.2)else grd (a0.S.length*24<=140737488355328) <| bnd (Xb a0.S a1) λp2=>some ((Ww.mk (a0.S.set a1.toNat (UM.mk a2 0 false)) a0.x a0.i),0)
def QgY(N:Nat)(a0:WE)(a1:Int)(a2:W8):Option WE:=grd (a0.e.length*24<=140737488355328) <| bnd (Xb a0.e a1) λp1=>some (WE.mk (a0.e.set a1.toNat a2))
def QcB(N:Nat)(a0:WE)(a1:Int)(a2:Int):Option (WE×Int):=bnd (QdI N a0 a1 a2) λy1=>bif (y1.2 != 0)then some ((WE.mk []),y1.2)else bnd (QgY N a0 a1 (W8.mk a2 0 false)) λy2=>some (y2,0)
def QdK(N:Nat)(a0:W9)(a1:Int)(a2:Int):Option (W9×Int×Int):=bif (a2==0)then(bnd (Qaf N 5) λy1=>some (y1.1,y1.2.1,y1.2.2))else bnd (Qbu N a0 a2) λy2=>bif (y2.2 != 0)then(bnd (Qaf N y2.2) λy3=>some (y3.1,y3.2.1,y3.2.2))else bnd (QcA N a2) λy4=>jn (λ(_:Unit)=>bif (a1==12)then(bnd (QdJ N a0.l y4.1.Index y4.1.J) λy6=>some ((W9.mk a0.h y6.1 a0.g a0.v a0.P a0.R),0,0))else bif (a1==14)then(bnd (QcB N a0.g y4.1.Index y4.1.J) λy7=>some ((W9.mk a0.h a0.l y7.1 a0.v a0.P a0.R),0,0))else bnd (QcB N a0.v y4.1.Index y4.1.J) λy8=>some ((W9.mk a0.h a0.l a0.g y8.1 a0.P a0.R),0,0)) λj2=>jn (λ(_:Unit)=>bnd (Qaf N 4) λy5=>some (y5.1,y5.2.1,y5.2.2)) λj1=>bif (a1==12)then(bif (y4.1.Tag != 1)then j1 ()else bif (a1==14)then(bif (y4.1.Tag != 2)then j1 ()else bif (a1==16)then(bif (y4.1.Tag != 3)then j1 ()else j2 ())else j2 ())else bif (a1==16)then(bif (y4.1.Tag != 3)then j1 ()else j2 ())else j2 ())else bif (a1==14)then(bif (y4.1.Tag != 2)then j1 ()else bif (a1==16)then(bif (y4.1.Tag != 3)then j1 ()else j2 ())else j2 ())else bif (a1==16)then(bif (y4.1.Tag != 3)then j1 ()else j2 ())else j2 ()
def Qgs(N:Nat)(a0:Ww)(a1:Int)(a2:Bool):Option (Ww×Int):=bnd (Qb8 N a0) λy1=>bif (!y1)then some ((Ww.mk [] [] []),1)else bif (decide (a1<0))then some ((Ww.mk [] [] []),1)else bif (decide (a1>64))then some ((Ww.mk [] [] []),1)else jn (λ(_:Unit)=>bif ((a0.x.length:Int)==64)then some ((Ww.mk [] [] []),17)else grd (a0.x.length*24<=140737488355328) <| grd ((a0.x.length+1)*24<=140737488355328) <| some ((Ww.mk a0.S (a0.x++[(UU.mk (a0.S.length:Int) a1 a2)]) a0.i),0)) λj1=>bif (!a2)then(bif ((a0.x.length:Int)==0)then some ((Ww.mk [] [] []),9)else j1 ())else j1 ()
def Qei(N:Nat)(a0:Ww)(a1:Int):Option (Ww×Int):=bnd (Qgs N a0 a1 false) λy1=>some (y1.1,y1.2)
def QgZ(N:Nat)(a0:Ww)(a1:Int):Option Ww:=bnd (Xb a0.x a1) λp1=>grd (0<=0/\0<=p1.O/\p1.O<=(a0.S.length:Int)) <| grd ((min p1.O.toNat a0.S.length)*24<=140737488355328) <| grd (0<=0/\0<=a1/\a1<=(a0.x.length:Int)) <| grd ((min a1.toNat a0.x.length)*24<=140737488355328) <| some (Ww.mk (a0.S.take p1.O.toNat) (a0.x.take a1.toNat) a0.i)
def QeY(N:Nat)(a0:Ww):Option (Ww×Int):=bnd (Qb8 N a0) λy1=>bif (!y1)then some ((Ww.mk [] [] []),1)else bif ((a0.x.length:Int)==0)then some ((Ww.mk [] [] []),9)else bnd (Xb a0.x (wI ((a0.x.length:Int)-1))) λp2=>bif p2.B0 then some ((Ww.mk [] [] []),9)else bnd (QgZ N a0 (wI ((a0.x.length:Int)-1))) λy3=>some (y3,0)
def QdL(N:Nat)(a0:W9)(a1:Int)(a2:Int):Option (W9×Int×Int):=bif (a1==17)then(bif (decide (a2>64))then(bnd (Qaf N 1) λy1=>some (y1.1,y1.2.1,y1.2.2))else bnd (Qei N a0.l (wI a2)) λy2=>bif (y2.2 != 0)then(bnd (Qaf N y2.2) λy3=>some (y3.1,y3.2.1,y3.2.2))else some ((W9.mk a0.h y2.1 a0.g a0.v a0.P a0.R),0,0))else bnd (Qbu N a0 a2) λy4=>bif (y4.2 != 0)then(bnd (Qaf N y4.2) λy5=>some (y5.1,y5.2.1,y5.2.2))else bnd (QeY N a0.l) λy6=>bif (y6.2 != 0)then(bnd (Qaf N y6.2) λy7=>some (y7.1,y7.2.1,y7.2.2))else bnd (Qcz N (W9.mk a0.h y6.1 a0.g a0.v a0.P a0.R) y4.1) λy8=>some (y8.1,y8.2.1,y8.2.2)
def QcC(N:Nat)(a0:Wk)(a1:Int)(a2:Int):Option Wk:=grd (a0.p.length*32<=140737488355328) <| bnd (QfD N a0 a1) λy1=>bnd (Xb a0.p y1) λp2=>bnd (Xb a0.p y1) λp3=>some (Wk.mk a0.c a0.w (a0.p.set y1.toNat (Wt.mk p3.k p3.s p3.u (wI (p2.P+a2)))) a0.s a0.b)
def Qcb(N:Nat)(a0:Wk)(a1:List UH)(a2:Int):Option (Wk×List UH×Int):=bnd (Qct N a0 a1) λy1=>bif (!y1)then some (zHp,[],19)else bif (a2==0)then some (zHp,[],5)else bnd (QgV N a1 a2) λy2=>bif (decide (y2<0))then some (zHp,[],12)else grd (a1.length*16<=140737488355328) <| bnd (Xb a1 y2) λp3=>bnd (Xb a1 y2) λp4=>bnd (Xb (a1.set y2.toNat (UH.mk p4.a (wI (p3.M-1)))) y2) λp5=>bif (p5.M==0)then(grd (0<=0/\0<=y2/\y2<=(a1.length:Int)) <| grd (0<=(wI (y2+1))/\(wI (y2+1))<=(a1.length:Int)/\(a1.length:Int)<=(a1.length:Int)) <| grd (y2.toNat≠a1.length/\(y2.toNat+(a1.length-(wI (y2+1)).toNat))<=a1.length) <| bnd (QcC N a0 a2 (-1)) λy7=>some (y7,(((((a1.set y2.toNat (UH.mk p4.a (wI (p3.M-1)))).take y2.toNat)++(((a1.set y2.toNat (UH.mk p4.a (wI (p3.M-1)))).drop (wI (y2+1)).toNat).take (a1.length-(wI (y2+1)).toNat)))++((a1.set y2.toNat (UH.mk p4.a (wI (p3.M-1)))).drop (y2.toNat+(a1.length-(wI (y2+1)).toNat)))).take (y2.toNat+(a1.length-(wI (y2+1)).toNat))),0))else bnd (QcC N a0 a2 (-1)) λy8=>some (y8,(a1.set y2.toNat (UH.mk p4.a (wI (p3.M-1)))),0)
def Qfp(N:Nat)(a0:Wk)(a1:Int):Option Bool:=bnd (Qay N a0) λy1=>bnd (QcT N y1.1 a1) λy2=>some y2
def QcN(N:Nat)(a0:Wk)(a1:Int):Nat->Int->Int->Option Int
 |0,_,_=>none
 |n+1,v3,v4=>
  bif (decide (v4<(a0.p.length:Int)))then(bnd (Xb a0.p v4) λp5=>
   bif (p5.k==1)then(bnd (Xb a0.p v4) λp6=>
    bif (decide (p6.P>0))then QcN N a0 a1 n (wI (v3+1)) (wI (v4+1))
    else QcN N a0 a1 n v3 (wI (v4+1)))
   else QcN N a0 a1 n v3 (wI (v4+1)))
  else some v3
def QdY(N:Nat)(a0:Wk)(a1:Int):Option Bool:=bnd (Qbm N a0) λy1=>bif (!y1)then some false else bnd (Qfp N a0 a1) λy2=>bif (!y2)then some false else bnd (QcN N a0 a1 N 0 0) λy7=>bnd (QfD N a0 a1) λy8=>bnd (Xb a0.p y8) λp9=>bif (p9.k==1)then(bif (p9.P==0)then some (decide (y7>=(wI (a0.c.p.tdiv 4))))else some false)else some false
def QdM(N:Nat)(a0:Wk)(a1:List UH)(a2:Int):Option (Wk×List UH×Int×Int):=bnd (Qct N a0 a1) λy1=>bif (!y1)then some (zHp,[],0,19)else bif (a2==0)then some (zHp,[],0,5)else bnd (Qfp N a0 a2) λy2=>bif (!y2)then some (zHp,[],0,1)else bnd (QgV N a1 a2) λy3=>jn (λ(_:Unit)=>grd (a1.length*16<=140737488355328) <| jn (λ(x11:List UH)=>bnd (QcC N a0 a2 1) λy12=>some (y12,x11,(wU (a2+1)),0)) λj2=>bif (decide (y3>=0))then(bnd (Xb a1 y3) λp9=>bnd (Xb a1 y3) λp10=>j2 (a1.set y3.toNat (UH.mk p10.a (wI (p9.M+1)))))else grd ((a1.length+1)*16<=140737488355328) <| j2 (a1++[(UH.mk a2 1)])) λj1=>bif (decide (y3>=0))then(bnd (Xb a1 y3) λp4=>bif (p4.M==1000)then some (zHp,[],0,18)else bif (decide (y3<0))then(bif ((a1.length:Int)==64)then some (zHp,[],0,18)else bnd (QdY N a0 a2) λy5=>bif y5 then some (zHp,[],0,18)else j1 ())else bnd (QdY N a0 a2) λy6=>bif y6 then some (zHp,[],0,18)else j1 ())else bif (decide (y3<0))then(bif ((a1.length:Int)==64)then some (zHp,[],0,18)else bnd (QdY N a0 a2) λy7=>bif y7 then some (zHp,[],0,18)else j1 ())else bnd (QdY N a0 a2) λy8=>bif y8 then some (zHp,[],0,18)else j1 ()
def QfH(N:Nat)(a0:W9)(a1:Int)(a2:Int):Option (W9×Int×Int):=bnd (QdC N a0 a2) λy1=>bif (y1.2 != 0)then(bnd (Qaf N y1.2) λy2=>some (y2.1,y2.2.1,y2.2.2))else bif (a1==20)then(bnd (Qcb N a0.h a0.P y1.1) λy3=>bif (y3.2.2 != 0)then(bnd (Qaf N y3.2.2) λy4=>some (y4.1,y4.2.1,y4.2.2))else some ((W9.mk y3.1 a0.l a0.g a0.v y3.2.1 a0.R),0,0))else bnd (QdM N a0.h a0.P y1.1) λy5=>bif (y5.2.2.2 != 0)then(bnd (Qaf N y5.2.2.2) λy6=>some (y6.1,y6.2.1,y6.2.2))else some ((W9.mk y5.1 a0.l a0.g a0.v y5.2.1 a0.R),y5.2.2.1,0)
def QeZ(N:Nat)(a0:W9)(a1:Int)(a2:Int)(a3:Int)(a4:Int):Option (W9×Int×Int):=bnd (Qcu N a0) λy1=>bif (!y1)then(bnd (Qaf N 19) λy2=>some (y2.1,y2.2.1,y2.2.2))else jn (λ(x4:Bool)=>bif x4 then(bnd (QdH N a0 a1 a2 a3) λy5=>some (y5.1,y5.2.1,y5.2.2))else jn (λ(x8:Bool)=>bif x8 then(bnd (Qeq N a0 a1 a2 a3 a4) λy9=>some (y9.1,y9.2.1,y9.2.2))else jn (λ(x12:Bool)=>bif x12 then(bnd (Qer N a0 a1 a2 a3) λy13=>some (y13.1,y13.2.1,y13.2.2))else jn (λ(x14:Bool)=>bif x14 then(bnd (Qdh N a0 a1 a2) λy15=>some (y15.1,y15.2.1,y15.2.2))else jn (λ(x17:Bool)=>bif x17 then(bnd (QdK N a0 a1 a2) λy18=>some (y18.1,y18.2.1,y18.2.2))else jn (λ(x19:Bool)=>bif x19 then(bnd (QdL N a0 a1 a2) λy20=>some (y20.1,y20.2.1,y20.2.2))else jn (λ(x21:Bool)=>bif x21 then(bnd (QfH N a0 a1 a2) λy22=>some (y22.1,y22.2.1,y22.2.2))else bnd (Qaf N 1) λy23=>some (y23.1,y23.2.1,y23.2.2)) λj13=>bif (a1==19)then j13 true else j13 (a1==20)) λj12=>bif (a1==17)then j12 true else j12 (a1==18)) λj11=>bif (a1==12)then j11 true else jn (λ(x16:Bool)=>j11 x16) λj10=>bif (a1==14)then j10 true else j10 (a1==16)) λj9=>bif (a1==13)then j9 true else j9 (a1==15)) λj8=>bif (a1==4)then j8 true else jn (λ(x11:Bool)=>j8 x11) λj7=>bif (a1==5)then j7 true else jn (λ(x10:Bool)=>j7 x10) λj6=>bif (a1==10)then j6 true else j6 (a1==11)) λj5=>bif (a1==6)then j5 true else jn (λ(x7:Bool)=>j5 x7) λj4=>bif (a1==7)then j4 true else jn (λ(x6:Bool)=>j4 x6) λj3=>bif (a1==8)then j3 true else j3 (a1==9)) λj2=>bif (a1==1)then j2 true else jn (λ(x3:Bool)=>j2 x3) λj1=>bif (a1==2)then j1 true else j1 (a1==3)
def QeL(N:Nat)(a0:W9)(a1:W9)(a2:Int)(a3:Int)(a4:Int):Option I6:=jn (λ(x1:Bool)=>jn (λ(x2:Bool)=>bif (a2==19)then(bif (a4==0)then some (I6.mk x1 x2 a3)else some (I6.mk x1 x2 0))else some (I6.mk x1 x2 0)) λj2=>bif (a4==0)then j2 (a0.h.s != a1.h.s)else j2 false) λj1=>bif (a4==3)then j1 true else bif (a4==18)then j1 (a2==19)else j1 false
def Qc3(N:Nat)(a0:Ww)(a1:Int):Option Int:=bif (a1==0)then some 0 else bnd (Qeo N a0 a1) λy1=>some y1.2.2.2
def QfR(N:Nat)(a0:WV)(a1:Int)(a2:Int)(a3:Int)(a4:Bool):Option Int:=bif (decide ((a0.m.length:Int)>0))then some 15 else bnd (Qcy N a1 a2 a3) λy1=>bif (!y1.2)then some 1 else bnd (Qcf N a0.c y1.1) λy2=>bif (!y2)then some 1 else bnd (Qc3 N a0.l 1) λy3=>bif (y3 != 0)then some y3 else bif a4 then some 3 else some 0
def QaI(N:Nat)(a0:WV)(a1:Int):Option (Int×Int):=bnd (Qel N a0) λy1=>bif (!y1)then some (0,19)else bif (a1==0)then some (0,0)else bnd (QcA N a1) λy2=>bif (y2.2 != 0)then some (0,y2.2)else bif (y2.1.Tag==1)then(bnd (QeX N a0.l y2.1.Index y2.1.J) λy3=>some (y3.1,y3.2))else bif (y2.1.Tag==2)then(bnd (QdI N a0.g y2.1.Index y2.1.J) λy4=>some (y4.1,y4.2))else bnd (QdI N a0.v y2.1.Index y2.1.J) λy5=>some (y5.1,y5.2)
def Qes(N:Nat)(a0:WV)(a1:Int):Option (Int×Int):=bnd (QaI N a0 a1) λy1=>bif (y1.2==0)then(bif (y1.1==0)then some (0,5)else some (y1.1,y1.2))else some (y1.1,y1.2)
def Qgf(N:Nat)(a0:WV)(a1:Int)(a2:Int)(a3:Int)(a4:Int):Option Int:=bnd (Qes N a0 a2) λy1=>bif (y1.2 != 0)then some y1.2 else bnd (Xb a0.T (wU (y1.1-1))) λp2=>bif (decide (a3>=(wU p2.H.n)))then some 2 else jn (λ(x3:Bool)=>bnd (Qb9 N p2.H (wI a3)) λy4=>bif (!(y4==x3))then some 4 else bif (a1==8)then(bnd (Xb p2.D a3) λp5=>bnd (Qc3 N a0.l p5) λy6=>some y6)else bif (a1==9)then(bnd (QaI N a0 a4) λy7=>some y7.2)else some y1.2) λj1=>bif (a1==8)then j1 true else j1 (a1==9)
def QfS(N:Nat)(a0:WV)(a1:Int)(a2:Int):Option Int:=bif (a2==0)then some 5 else bnd (QaI N a0 a2) λy1=>bif (y1.2 != 0)then some y1.2 else bnd (QcA N a2) λy2=>jn (λ(x3:Int)=>bif (a1==16)then(bif (y2.1.Tag != 3)then some 4 else some 0)else bif (y2.1.Tag != x3)then some 4 else some 0) λj1=>bif (a1==14)then j1 2 else j1 1
def QgL(N:Nat)(a0:WV)(a1:Int)(a2:Int):Option Int:=bnd (Qes N a0 a2) λy1=>bif (y1.2 != 0)then some y1.2 else jn (λ(x2:List W8)=>bnd (QcX N (WE.mk x2) y1.1) λy3=>some y3.2.2.2) λj1=>bif (a1==15)then j1 a0.v.e else j1 a0.g.e
def Qgg(N:Nat)(a0:WV)(a1:Int)(a2:Int):Option Int:=bif (a1==17)then(bif (decide (a2>64))then some 1 else bnd (Qei N a0.l (wI a2)) λy1=>some y1.2)else bnd (QaI N a0 a2) λy2=>bif (y2.2 != 0)then some y2.2 else bnd (QeY N a0.l) λy3=>bif (y3.2 != 0)then some y3.2 else bnd (Qc3 N y3.1 y2.1) λy4=>some y4
def Qhb(N:Nat)(a0:WV)(a1:Int)(a2:Int)(a3:Bool):Option Int:=bnd (Qes N a0 a2) λy1=>bif (y1.2 != 0)then some y1.2 else bnd (QfG N a0 y1.1) λy2=>bif (a1==20)then(bif (decide (y2<0))then some 12 else some 0)else bif (decide (y2>=0))then(bnd (Xb a0.m y2) λp3=>bif (p3.M==1000)then some 18 else bif (decide (y2<0))then(bif ((a0.m.length:Int)==64)then some 18 else bif a3 then some 18 else some 0)else bif a3 then some 18 else some 0)else bif (decide (y2<0))then(bif ((a0.m.length:Int)==64)then some 18 else bif a3 then some 18 else some 0)else bif a3 then some 18 else some 0
def QgM(N:Nat)(a0:WV)(a1:Int)(a2:Int)(a3:Int):Option Int:=jn (λ(_:Unit)=>bnd (Qes N a0 a2) λy1=>some y1.2) λj1=>bif (a1==4)then j1 ()else bif (a1==5)then j1 ()else bnd (QaI N a0 a2) λy2=>bif (y2.2 != 0)then some y2.2 else bif (a1==10)then(bnd (QaI N a0 a3) λy3=>some y3.2)else bnd (Qc3 N a0.l y2.1) λy4=>some y4
def QfT(N:Nat)(a0:WV)(a1:Int)(a2:Int)(a3:Int)(a4:Int)(a5:Bool):Option Int:=bnd (Qel N a0) λy1=>bif (!y1)then some 19 else jn (λ(x3:Bool)=>bif x3 then(bnd (QfR N a0 a1 a2 a3 a5) λy4=>some y4)else jn (λ(x7:Bool)=>bif x7 then(bnd (Qgf N a0 a1 a2 a3 a4) λy8=>some y8)else jn (λ(x10:Bool)=>bif x10 then(bnd (QfS N a0 a1 a2) λy11=>some y11)else jn (λ(x12:Bool)=>bif x12 then(bnd (QgL N a0 a1 a2) λy13=>some y13)else jn (λ(x14:Bool)=>bif x14 then(bnd (Qgg N a0 a1 a2) λy15=>some y15)else jn (λ(x16:Bool)=>bif x16 then(bnd (Qhb N a0 a1 a2 a5) λy17=>some y17)else jn (λ(x20:Bool)=>bif x20 then(bnd (QgM N a0 a1 a2 a3) λy21=>some y21)else some 1) λj13=>bif (a1==4)then j13 true else jn (λ(x19:Bool)=>j13 x19) λj12=>bif (a1==5)then j12 true else jn (λ(x18:Bool)=>j12 x18) λj11=>bif (a1==10)then j11 true else j11 (a1==11)) λj10=>bif (a1==19)then j10 true else j10 (a1==20)) λj9=>bif (a1==17)then j9 true else j9 (a1==18)) λj8=>bif (a1==13)then j8 true else j8 (a1==15)) λj7=>bif (a1==12)then j7 true else jn (λ(x9:Bool)=>j7 x9) λj6=>bif (a1==14)then j6 true else j6 (a1==16)) λj5=>bif (a1==6)then j5 true else jn (λ(x6:Bool)=>j5 x6) λj4=>bif (a1==7)then j4 true else jn (λ(x5:Bool)=>j4 x5) λj3=>bif (a1==8)then j3 true else j3 (a1==9)) λj2=>bif (a1==1)then j2 true else jn (λ(x2:Bool)=>j2 x2) λj1=>bif (a1==2)then j1 true else j1 (a1==3)
def Qc4(N:Nat)(a0:WV)(a1:Int):Option (WV×Int):=bif (a1==0)then some (a0,0)else bnd (Qeo N a0.l a1) λy1=>bnd (Qb1 N (IA.mk 1 y1.2.1 y1.2.2.1)) λy2=>some ((WV.mk a0.c a0.T y1.1 a0.g a0.v a0.m a0.R),y2.1)
def Qfy(N:Nat)(a0:WV)(a1:Int)(a2:Int)(a3:Int):Option WV:=grd (a0.T.length*48<=140737488355328) <| bnd (Xb a0.T (wU (a1-1))) λp1=>grd (p1.D.length*8<=140737488355328) <| bnd (Xb p1.D a2) λp2=>bnd (Xb a0.T (wU (a1-1))) λp3=>some (WV.mk a0.c (a0.T.set (wU (a1-1)).toNat (Ib.mk p1.H (p1.D.set a2.toNat a3))) a0.l a0.g a0.v a0.m a0.R)
def QeM(N:Nat)(a0:WV)(a1:Int)(a2:Int):Option (WV×Int):=jn (λ(x3:List W8) (x4:List W8) (x5:Int) (x6:Int) (x7:Int)=>bnd (Qb1 N (IA.mk x5 x6 x7)) λy8=>some ((WV.mk a0.c a0.T a0.l (WE.mk x3) (WE.mk x4) a0.m a0.R),y8.1)) λj1=>bif (a1==15)then(bnd (QcX N a0.v a2) λy1=>j1 a0.g.e y1.1.e 3 y1.2.1 y1.2.2.1)else bnd (QcX N a0.g a2) λy2=>j1 y2.1.e a0.v.e 2 y2.2.1 y2.2.2.1
def Qfq(N:Nat)(a0:WV)(a1:Int):Option WV:=bnd (QcA N a1) λy1=>bif (y1.1.Tag==1)then(bnd (QdJ N a0.l y1.1.Index y1.1.J) λy2=>some (WV.mk a0.c a0.T y2.1 a0.g a0.v a0.m a0.R))else bif (y1.1.Tag==2)then(bnd (QcB N a0.g y1.1.Index y1.1.J) λy3=>some (WV.mk a0.c a0.T a0.l y3.1 a0.v a0.m a0.R))else bnd (QcB N a0.v y1.1.Index y1.1.J) λy4=>some (WV.mk a0.c a0.T a0.l a0.g y4.1 a0.m a0.R)
def Qhc(N:Nat)(a0:WV)(a1:Int):Option Int:=bnd (QfG N a0 a1) λy1=>some y1
def QfI(N:Nat)(a0:WV)(a1:Int)(a2:Int)(a3:Int):Option (WV×Int):=bnd (Qhc N a0 a2) λy1=>grd (a0.m.length*24<=140737488355328) <| bif (a1==20)then(bnd (Xb a0.m y1) λp2=>bnd (Xb a0.m y1) λp3=>bnd (Xb (a0.m.set y1.toNat (Il.mk p3.I (wI (p2.M-1)) p3.B0)) y1) λp4=>bif (p4.M==0)then(grd (0<=0/\0<=y1/\y1<=(a0.m.length:Int)) <| grd (0<=(wI (y1+1))/\(wI (y1+1))<=(a0.m.length:Int)/\(a0.m.length:Int)<=(a0.m.length:Int)) <| grd (y1.toNat≠a0.m.length/\(y1.toNat+(a0.m.length-(wI (y1+1)).toNat))<=a0.m.length) <| some ((WV.mk a0.c a0.T a0.l a0.g a0.v (((((a0.m.set y1.toNat (Il.mk p3.I (wI (p2.M-1)) p3.B0)).take y1.toNat)++(((a0.m.set y1.toNat (Il.mk p3.I (wI (p2.M-1)) p3.B0)).drop (wI (y1+1)).toNat).take (a0.m.length-(wI (y1+1)).toNat)))++((a0.m.set y1.toNat (Il.mk p3.I (wI (p2.M-1)) p3.B0)).drop (y1.toNat+(a0.m.length-(wI (y1+1)).toNat)))).take (y1.toNat+(a0.m.length-(wI (y1+1)).toNat))) a0.R),0))else some ((WV.mk a0.c a0.T a0.l a0.g a0.v (a0.m.set y1.toNat (Il.mk p3.I (wI (p2.M-1)) p3.B0)) a0.R),0))else bif (decide (y1>=0))then(bnd (Xb a0.m y1) λp7=>bnd (Xb a0.m y1) λp8=>bnd (Xb (a0.m.set y1.toNat (Il.mk p8.I (wI (p7.M+1)) p8.B0)) y1) λp9=>some ((WV.mk a0.c a0.T a0.l a0.g a0.v (a0.m.set y1.toNat (Il.mk p8.I (wI (p7.M+1)) p8.B0)) a0.R),p9.B0))else grd ((a0.m.length+1)*24<=140737488355328) <| some ((WV.mk a0.c a0.T a0.l a0.g a0.v (a0.m++[(Il.mk a2 1 a3)]) a0.R),a3)
def QfJ(N:Nat)(a0:WV)(a1:Int)(a2:Int)(a3:Int)(a4:Int)(a5:I6):Option (WV×Int×Int):=bnd (QfT N a0 a1 a2 a3 a4 a5.Failed) λy1=>bif (y1 != 0)then some (zWd,0,y1)else jn (λ(x3:Int)=>jn (λ(x5:Bool)=>bif x5 then(jn (λ(x7:Int) (x8:Int) (x9:List Ib) (x10:List UM) (x11:List UU) (x12:List Int) (x13:List W8) (x14:List W8) (x15:List Il) (x16:List Int)=>bnd (Qcy N a1 a2 a3) λy17=>grd (x9.length*48<=140737488355328) <| grd (0<=y17.1.n/\y17.1.n.toNat*8<=140737488355328) <| grd ((x9.length+1)*48<=140737488355328) <| grd ((x9.length+1)<=140737488355328) <| bnd (Qc4 N (WV.mk (WT.mk x7 x8) (x9++[(Ib.mk y17.1 (List.replicate y17.1.n.toNat (0:Int)))]) (Ww.mk x10 x11 x12) (WE.mk x13) (WE.mk x14) x15 x16) (wU (((x9.length+1):Nat):Int))) λy18=>some (y18.1,y18.2,0)) λj4=>bif a5.Collected then(bnd (Qdg N a0) λy6=>j4 y6.1.c.W y6.1.c.p y6.1.T y6.1.l.S y6.1.l.x y6.1.l.i y6.1.g.e y6.1.v.e y6.1.m y6.1.R)else j4 a0.c.W a0.c.p a0.T a0.l.S a0.l.x a0.l.i a0.g.e a0.v.e a0.m a0.R)else bif (a1==4)then(bnd (Xb a0.T (wU (x3-1))) λp19=>some (a0,(wU p19.H.n),0))else bif (a1==5)then(bnd (Xb a0.T (wU (x3-1))) λp20=>some (a0,(wU p20.H.k),0))else bif (a1==6)then(bnd (Xb a0.T (wU (x3-1))) λp21=>bnd (Xb p21.D a3) λp22=>some (a0,p22,0))else bif (a1==7)then(bnd (Qfy N a0 x3 (wI a3) a4) λy23=>some (y23,0,0))else bif (a1==8)then(bnd (Xb a0.T (wU (x3-1))) λp24=>bnd (Xb p24.D a3) λp25=>bnd (Qc4 N a0 p25) λy26=>some (y26.1,y26.2,0))else bif (a1==9)then(bnd (QaI N a0 a4) λy27=>bnd (Qfy N a0 x3 (wI a3) y27.1) λy28=>some (y28,0,0))else bif (a1==10)then(bnd (QaI N a0 a3) λy29=>bif (x3==y29.1)then some (a0,1,0)else some (a0,0,0))else bif (a1==11)then(bnd (Qc4 N a0 x3) λy30=>some (y30.1,y30.2,0))else jn (λ(x31:Bool)=>bif x31 then(bnd (QeM N a0 a1 x3) λy32=>some (y32.1,y32.2,0))else jn (λ(x34:Bool)=>bif x34 then(bnd (Qfq N a0 a2) λy35=>some (y35,0,0))else bif (a1==17)then(bnd (Qei N a0.l (wI a2)) λy36=>some ((WV.mk a0.c a0.T y36.1 a0.g a0.v a0.m a0.R),0,0))else bif (a1==18)then(bnd (QeY N a0.l) λy37=>bnd (Qc4 N (WV.mk a0.c a0.T y37.1 a0.g a0.v a0.m a0.R) x3) λy38=>some (y38.1,y38.2,0))else bnd (QfI N a0 a1 x3 a5.B0) λy39=>some (y39.1,y39.2,0)) λj7=>bif (a1==12)then j7 true else jn (λ(x33:Bool)=>j7 x33) λj6=>bif (a1==14)then j6 true else j6 (a1==16)) λj5=>bif (a1==13)then j5 true else j5 (a1==15)) λj3=>bif (a1==1)then j3 true else jn (λ(x4:Bool)=>j3 x4) λj2=>bif (a1==2)then j2 true else j2 (a1==3)) λj1=>bif (decide (a1>3))then(bif (a1 != 17)then(bnd (QaI N a0 a2) λy2=>j1 y2.1)else j1 0)else j1 0
def Qb2(N:Nat)(a0:Iw)(a1:IZ):Option (Iw×Int×Int):=bif (a1.Op==0)then(bnd (Qba N a0.N) λy1=>jn (λ(x3:Int) (x4:Int) (x5:List Int) (x6:List Wt) (x7:Int) (x8:Int) (x9:List UM) (x10:List UU) (x11:List Int) (x12:List W8) (x13:List W8) (x14:List UH) (x15:List Int) (x16:Int) (x17:Int) (x18:List Ib) (x19:List UM) (x20:List UU) (x21:List Int) (x22:List W8) (x23:List W8) (x24:List Il) (x25:List Int)=>some ((Iw.mk (W9.mk (Wk.mk (WT.mk x3 x4) x5 x6 x7 x8) (Ww.mk x9 x10 x11) (WE.mk x12) (WE.mk x13) x14 x15) (WV.mk (WT.mk x16 x17) x18 (Ww.mk x19 x20 x21) (WE.mk x22) (WE.mk x23) x24 x25) a0.w),0,0)) λj1=>bif (y1.2.2==0)then(bnd (Qdg N a0.z) λy2=>j1 y1.1.h.c.W y1.1.h.c.p y1.1.h.w y1.1.h.p y1.1.h.s y1.1.h.b y1.1.l.S y1.1.l.x y1.1.l.i y1.1.g.e y1.1.v.e y1.1.P y1.1.R y2.1.c.W y2.1.c.p y2.1.T y2.1.l.S y2.1.l.x y2.1.l.i y2.1.g.e y2.1.v.e y2.1.m y2.1.R)else j1 a0.N.h.c.W a0.N.h.c.p a0.N.h.w a0.N.h.p a0.N.h.s a0.N.h.b a0.N.l.S a0.N.l.x a0.N.l.i a0.N.g.e a0.N.v.e a0.N.P a0.N.R a0.z.c.W a0.z.c.p a0.z.T a0.z.l.S a0.z.l.x a0.z.l.i a0.z.g.e a0.z.v.e a0.z.m a0.z.R)else bnd (QeZ N a0.N a1.Op a1.A a1.B a1.C) λy26=>bnd (QeL N a0.N y26.1 a1.Op y26.2.1 y26.2.2) λy27=>bnd (QfJ N a0.z a1.Op a1.A a1.B a1.C y27) λy28=>jn (λ(x29:Int) (x30:Int) (x31:List Ib) (x32:List UM) (x33:List UU) (x34:List Int) (x35:List W8) (x36:List W8) (x37:List Il) (x38:List Int)=>bif (y26.2.2==0)then(bif (y26.2.1 != 0)then(grd (a0.w.length*8<=140737488355328) <| grd ((a0.w.length+1)*8<=140737488355328) <| some ((Iw.mk y26.1 (WV.mk (WT.mk x29 x30) x31 (Ww.mk x32 x33 x34) (WE.mk x35) (WE.mk x36) x37 x38) (a0.w++[y26.2.1])),y26.2.1,y26.2.2))else some ((Iw.mk y26.1 (WV.mk (WT.mk x29 x30) x31 (Ww.mk x32 x33 x34) (WE.mk x35) (WE.mk x36) x37 x38) a0.w),y26.2.1,y26.2.2))else some ((Iw.mk a0.N (WV.mk (WT.mk x29 x30) x31 (Ww.mk x32 x33 x34) (WE.mk x35) (WE.mk x36) x37 x38) a0.w),y26.2.1,y26.2.2)) λj2=>bif (y28.2.2==0)then j2 y28.1.c.W y28.1.c.p y28.1.T y28.1.l.S y28.1.l.x y28.1.l.i y28.1.g.e y28.1.v.e y28.1.m y28.1.R else j2 a0.z.c.W a0.z.c.p a0.z.T a0.z.l.S a0.z.l.x a0.z.l.i a0.z.g.e a0.z.v.e a0.z.m a0.z.R
def QbP(N:Nat)(a0:Iw)(a1:UG):Option (Int×UG):=bnd (Qaa N a1 14) λy1=>bif (y1.1==0)then(bnd (Qaa N y1.2 8) λy2=>bnd (Xb [0,1,262145,262146,524289,1125899906842624,4097,262149] y2.1) λp3=>some (p3,y2.2))else bif (y1.1==1)then(bnd (Qaa N y1.2 (a0.w.length:Int)) λy4=>bnd (Xb a0.w y4.1) λp5=>bnd (Qaa N y4.2 3) λy6=>some ((wU (p5+(wU y6.1))),y6.2))else jn (λ(x8:Bool)=>bif x8 then(bnd (Qaa N y1.2 (a0.w.length:Int)) λy9=>bnd (Xb a0.w y9.1) λp10=>some (p10,y9.2))else bnd (Qaa N y1.2 (if 6<(a0.w.length:Int)then 6 else(a0.w.length:Int))) λy11=>bnd (Xb a0.w (wI ((wI ((a0.w.length:Int)-1))-y11.1))) λp12=>some (p12,y11.2)) λj2=>bif (y1.1==2)then j2 true else jn (λ(x7:Bool)=>j2 x7) λj1=>bif (y1.1==3)then j1 true else j1 (y1.1==4)
def Qdq(N:Nat)(a0:Iw)(a1:UG):Option (IZ×UG):=bnd (Qaa N a1 32) λy1=>bnd (Xb [1,1,2,2,3,4,5,6,7,7,8,8,9,9,9,10,11,12,12,13,14,15,16,17,18,19,19,20,20,0,0,21] y1.1) λp2=>bif (p2==1)then(bnd (Qaa N y1.2 4) λy3=>grd (0<=(wU y3.1)) <| bnd (Qaa N y3.2 (ZQ .i64 1 (wU y3.1))) λy4=>some ((IZ.mk p2 (wU y3.1) (wU y4.1) 0),y4.2))else jn (λ(x5:Bool)=>bif x5 then(bnd (Qaa N y1.2 4) λy6=>bnd (Qaa N y6.2 9) λy7=>bif (y7.1==0)then(bnd (Qaa N y7.2 70) λy8=>some ((IZ.mk p2 (wU y8.1) 0 0),y8.2))else some ((IZ.mk p2 (wU y6.1) 0 0),y7.2))else bif (p2==17)then(bnd (Qaa N y1.2 9) λy9=>some ((IZ.mk p2 (wU y9.1) 0 0),y9.2))else bnd (QbP N a0 y1.2) λy10=>bnd (Qaa N y10.2 4) λy11=>bnd (Qaa N y11.2 1000) λy12=>jn (λ(x16:List Int) (x17:Int) (x18:Int)=>bif (p2==10)then(bnd (QbP N a0 (UG.mk x16 x17)) λy19=>some ((IZ.mk p2 y10.1 y19.1 x18),y19.2))else some ((IZ.mk p2 y10.1 (wU y11.1) x18),(UG.mk x16 x17))) λj2=>bif (p2==9)then(bnd (QbP N a0 y12.2) λy14=>j2 y14.2.L y14.2.at_ y14.1)else bnd (Qaa N y12.2 9) λy13=>bif (y13.1==0)then(bnd (QbP N a0 y13.2) λy15=>j2 y15.2.L y15.2.at_ y15.1)else j2 y13.2.L y13.2.at_ (wU y12.1)) λj1=>bif (p2==2)then j1 true else j1 (p2==3)
def Qgh(N:Nat)(a1:Int):Nat->Int->(List Int)->Int->Int->Int->(List Int)->(List Wt)->Int->Int->(List UM)->(List UU)->(List Int)->(List W8)->(List W8)->(List UH)->(List Int)->Int->Int->(List Ib)->(List UM)->(List UU)->(List Int)->(List W8)->(List W8)->(List Il)->(List Int)->(List Int)->Option (Int×Int×List Int×List Wt×Int×Int×List UM×List UU×List Int×List W8×List W8×List UH×List Int×Int×Int×List Ib×List UM×List UU×List Int×List W8×List W8×List Il×List Int×List Int)
 |0,_,_,_,_,_,_,_,_,_,_,_,_,_,_,_,_,_,_,_,_,_,_,_,_,_,_,_=>none
 |n+1,v2,v3,v4,v5,v6,v7,v8,v9,v10,v11,v12,v13,v14,v15,v16,v17,v18,v19,v20,v21,v22,v23,v24,v25,v26,v27,v28=>
  bif (decide (v2<a1))then(bnd (Qgo N (UG.mk v3 v4)) λy29=>
   bif (!y29)then(bnd (Qdq N (Iw.mk (W9.mk (Wk.mk (WT.mk v5 v6) v7 v8 v9 v10) (Ww.mk v11 v12 v13) (WE.mk v14) (WE.mk v15) v16 v17) (WV.mk (WT.mk v18 v19) v20 (Ww.mk v21 v22 v23) (WE.mk v24) (WE.mk v25) v26 v27) v28) (UG.mk v3 v4)) λy30=>
    bnd (Qb2 N (Iw.mk (W9.mk (Wk.mk (WT.mk v5 v6) v7 v8 v9 v10) (Ww.mk v11 v12 v13) (WE.mk v14) (WE.mk v15) v16 v17) (WV.mk (WT.mk v18 v19) v20 (Ww.mk v21 v22 v23) (WE.mk v24) (WE.mk v25) v26 v27) v28) y30.1) λy31=>
    Qgh N a1 n (wI (v2+1)) y30.2.L y30.2.at_ y31.1.N.h.c.W y31.1.N.h.c.p y31.1.N.h.w y31.1.N.h.p y31.1.N.h.s y31.1.N.h.b y31.1.N.l.S y31.1.N.l.x y31.1.N.l.i y31.1.N.g.e y31.1.N.v.e y31.1.N.P y31.1.N.R y31.1.z.c.W y31.1.z.c.p y31.1.z.T y31.1.z.l.S y31.1.z.l.x y31.1.z.l.i y31.1.z.g.e y31.1.z.v.e y31.1.z.m y31.1.z.R y31.1.w)
   else some (v5,v6,v7,v8,v9,v10,v11,v12,v13,v14,v15,v16,v17,v18,v19,v20,v21,v22,v23,v24,v25,v26,v27,v28))
  else some (v5,v6,v7,v8,v9,v10,v11,v12,v13,v14,v15,v16,v17,v18,v19,v20,v21,v22,v23,v24,v25,v26,v27,v28)
def Qie(N:Nat)(a0:List Int)(a1:Int):Option Iw:=bnd (QbZ N (UG.mk a0 0)) λy1=>bnd (Qgh N a1 N 0 y1.2.L y1.2.at_ y1.1.N.h.c.W y1.1.N.h.c.p y1.1.N.h.w y1.1.N.h.p y1.1.N.h.s y1.1.N.h.b y1.1.N.l.S y1.1.N.l.x y1.1.N.l.i y1.1.N.g.e y1.1.N.v.e y1.1.N.P y1.1.N.R y1.1.z.c.W y1.1.z.c.p y1.1.z.T y1.1.z.l.S y1.1.z.l.x y1.1.z.l.i y1.1.z.g.e y1.1.z.v.e y1.1.z.m y1.1.z.R y1.1.w) λy32=>some (Iw.mk (W9.mk (Wk.mk (WT.mk y32.1 y32.2.1) y32.2.2.1 y32.2.2.2.1 y32.2.2.2.2.1 y32.2.2.2.2.2.1) (Ww.mk y32.2.2.2.2.2.2.1 y32.2.2.2.2.2.2.2.1 y32.2.2.2.2.2.2.2.2.1) (WE.mk y32.2.2.2.2.2.2.2.2.2.1) (WE.mk y32.2.2.2.2.2.2.2.2.2.2.1) y32.2.2.2.2.2.2.2.2.2.2.2.1 y32.2.2.2.2.2.2.2.2.2.2.2.2.1) (WV.mk (WT.mk y32.2.2.2.2.2.2.2.2.2.2.2.2.2.1 y32.2.2.2.2.2.2.2.2.2.2.2.2.2.2.1) y32.2.2.2.2.2.2.2.2.2.2.2.2.2.2.2.1 (Ww.mk y32.2.2.2.2.2.2.2.2.2.2.2.2.2.2.2.2.1 y32.2.2.2.2.2.2.2.2.2.2.2.2.2.2.2.2.2.1 y32.2.2.2.2.2.2.2.2.2.2.2.2.2.2.2.2.2.2.1) (WE.mk y32.2.2.2.2.2.2.2.2.2.2.2.2.2.2.2.2.2.2.2.1) (WE.mk y32.2.2.2.2.2.2.2.2.2.2.2.2.2.2.2.2.2.2.2.2.1) y32.2.2.2.2.2.2.2.2.2.2.2.2.2.2.2.2.2.2.2.2.2.1 y32.2.2.2.2.2.2.2.2.2.2.2.2.2.2.2.2.2.2.2.2.2.2.1) y32.2.2.2.2.2.2.2.2.2.2.2.2.2.2.2.2.2.2.2.2.2.2.2)
def Qco(N:Nat)(a0:Ih)(y3:Int×UG):Nat->Int->(List Wt)->Option (List Wt)
 |0,_,_=>none
 |n+1,v22,v23=>
  grd (v23.length<=140737488355328) <|
  bif (decide (v22<(v23.length:Int)))then(bnd (Xb v23 v22) λp24=>
   bif (p24.k==1)then(bnd (Xb v23 v22) λp25=>
    Qco N a0 y3 n (wI (v22+1)) (v23.set v22.toNat (Wt.mk p25.k p25.s p25.u 1)))
   else Qco N a0 y3 n (wI (v22+1)) v23)
  else some v23
def QcO(N:Nat)(a0:Ih)(a1:UG):Option (Ih×UG):=grd (a0.h.w.length*8<=140737488355328) <| grd (a0.h.p.length*32<=140737488355328) <| grd (a0.h.w.length<=140737488355328) <| bnd (Qaa N a1 (a0.h.w.length:Int)) λy1=>grd (a0.h.p.length<=140737488355328) <| bnd (Qaa N y1.2 (a0.h.p.length:Int)) λy2=>bnd (Qaa N y2.2 12) λy3=>jn (λ(x4:Bool)=>bif x4 then(bnd (Qaa N y3.2 10) λy5=>bnd (Xb [0,1,5,21,4096,4097,4112,16386,1099511627776,61] y5.1) λp6=>bnd (Xb a0.h.w y1.1) λp7=>some ((Ih.mk (Wk.mk a0.h.c (a0.h.w.set y1.1.toNat p6) a0.h.p a0.h.s a0.h.b) a0.Strong a0.Weak),y5.2))else bif (y3.1==2)then(bnd (Xb a0.h.w y1.1) λp8=>bnd (Qaa N y3.2 64) λy9=>grd (0<=(wU y9.1)) <| bnd (Xb a0.h.w y1.1) λp10=>some ((Ih.mk (Wk.mk a0.h.c (a0.h.w.set y1.1.toNat (Xm0 .u64 p8 (ZQ .u64 1 (wU y9.1)))) a0.h.p a0.h.s a0.h.b) a0.Strong a0.Weak),y9.2))else bif (y3.1==3)then(bnd (Qaa N y3.2 5) λy11=>bnd (Xb a0.h.p y2.1) λp12=>some ((Ih.mk (Wk.mk a0.h.c a0.h.w (a0.h.p.set y2.1.toNat (Wt.mk y11.1 p12.s p12.u p12.P)) a0.h.s a0.h.b) a0.Strong a0.Weak),y11.2))else bif (y3.1==4)then(bnd (Qaa N y3.2 3) λy13=>bnd (Xb a0.h.p y2.1) λp14=>some ((Ih.mk (Wk.mk a0.h.c a0.h.w (a0.h.p.set y2.1.toNat (Wt.mk p14.k y13.1 p14.u p14.P)) a0.h.s a0.h.b) a0.Strong a0.Weak),y13.2))else bif (y3.1==5)then(bnd (Xb a0.h.p y2.1) λp15=>bnd (Qaa N y3.2 9) λy16=>bnd (Xb a0.h.p y2.1) λp17=>some ((Ih.mk (Wk.mk a0.h.c a0.h.w (a0.h.p.set y2.1.toNat (Wt.mk p17.k p17.s (wI ((wI (p15.u+y16.1))-4)) p17.P)) a0.h.s a0.h.b) a0.Strong a0.Weak),y16.2))else bif (y3.1==6)then(bnd (Qaa N y3.2 3) λy18=>bnd (Xb a0.h.p y2.1) λp19=>some ((Ih.mk (Wk.mk a0.h.c a0.h.w (a0.h.p.set y2.1.toNat (Wt.mk p19.k p19.s p19.u (wI (y18.1-1)))) a0.h.s a0.h.b) a0.Strong a0.Weak),y18.2))else bif (y3.1==7)then(bnd (Qaa N y3.2 3) λy20=>some ((Ih.mk (Wk.mk a0.h.c a0.h.w a0.h.p y20.1 a0.h.b) a0.Strong a0.Weak),y20.2))else bif (y3.1==8)then(grd (a0.h.p.length<=140737488355328) <| bnd (Qaa N y3.2 (wI ((a0.h.p.length:Int)+2))) λy21=>some ((Ih.mk (Wk.mk a0.h.c a0.h.w a0.h.p a0.h.s (wI (y21.1-1))) a0.Strong a0.Weak),y21.2))else bif (y3.1==9)then some ((Ih.mk (Wk.mk (WT.mk (wI (a0.h.c.W+4)) a0.h.c.p) a0.h.w a0.h.p a0.h.s a0.h.b) a0.Strong a0.Weak),y3.2)else bif (y3.1==10)then(grd (0<=1/\1<=(a0.h.p.length:Int)/\(a0.h.p.length:Int)<=(a0.h.p.length:Int)) <| some ((Ih.mk (Wk.mk a0.h.c a0.h.w ((a0.h.p.drop 1).take (a0.h.p.length-1)) a0.h.s a0.h.b) a0.Strong a0.Weak),y3.2))else bif (y3.1==11)then(bnd (Qco N a0 y3 N 0 a0.h.p) λy26=>some ((Ih.mk (Wk.mk a0.h.c a0.h.w y26 a0.h.s a0.h.b) a0.Strong a0.Weak),y3.2))else some (a0,y3.2)) λj1=>bif (y3.1==0)then j1 true else j1 (y3.1==1)
def Qg0(N:Nat)(a0:W9)(a1:UG):Option (W9×UG):=bnd (Qaa N a1 8) λy1=>bif (y1.1==0)then(bnd (QcO N (Ih.mk a0.h [] []) y1.2) λy2=>some ((W9.mk y2.1.h a0.l a0.g a0.v a0.P a0.R),y2.2))else bif (y1.1==1)then(grd (a0.R.length*8<=140737488355328) <| bnd (Qaa N y1.2 200) λy3=>grd ((a0.R.length+1)*8<=140737488355328) <| some ((W9.mk a0.h a0.l a0.g a0.v a0.P (a0.R++[(wU (wI (4096+y3.1)))])),y3.2))else bif (y1.1==2)then(bif (decide ((a0.l.S.length:Int)>0))then(grd (a0.l.S.length*24<=140737488355328) <| bnd (Qaa N y1.2 (a0.l.S.length:Int)) λy4=>bnd (Xb a0.l.S y4.1) λp5=>bnd (Qaa N y4.2 3) λy6=>bnd (Xb a0.l.S y4.1) λp7=>some ((W9.mk a0.h (Ww.mk (a0.l.S.set y4.1.toNat (UM.mk p7.J (wU (p5.a+(wU y6.1))) p7.V)) a0.l.x a0.l.i) a0.g a0.v a0.P a0.R),y6.2))else some (a0,y1.2))else bif (y1.1==3)then(grd (a0.g.e.length*24<=140737488355328) <| bnd (Qaa N y1.2 3) λy8=>bnd (Qaa N y8.2 2) λy9=>grd ((a0.g.e.length+1)*24<=140737488355328) <| some ((W9.mk a0.h a0.l (WE.mk (a0.g.e++[(W8.mk y8.1 0 (y9.1==0))])) a0.v a0.P a0.R),y9.2))else bif (y1.1==4)then(grd (a0.v.e.length*24<=140737488355328) <| bnd (Qaa N y1.2 3) λy10=>bnd (Qaa N y10.2 40) λy11=>grd ((a0.v.e.length+1)*24<=140737488355328) <| some ((W9.mk a0.h a0.l a0.g (WE.mk (a0.v.e++[(W8.mk y10.1 (wU (wI (4096+y11.1))) true)])) a0.P a0.R),y11.2))else bif (y1.1==5)then(grd (a0.P.length*16<=140737488355328) <| bnd (Qaa N y1.2 20) λy12=>bnd (Qaa N y12.2 2) λy13=>grd ((a0.P.length+1)*16<=140737488355328) <| some ((W9.mk a0.h a0.l a0.g a0.v (a0.P++[(UH.mk (wU (wI (4096+y12.1))) y13.1)]) a0.R),y13.2))else bif (y1.1==6)then(grd (a0.l.x.length*24<=140737488355328) <| bnd (Qaa N y1.2 4) λy14=>bnd (Qaa N y14.2 70) λy15=>grd ((a0.l.x.length+1)*24<=140737488355328) <| some ((W9.mk a0.h (Ww.mk a0.l.S (a0.l.x++[(UU.mk y14.1 y15.1 false)]) a0.l.i) a0.g a0.v a0.P a0.R),y15.2))else some ((W9.mk a0.h a0.l a0.g a0.v [] a0.R),y1.2)
def Qiv(N:Nat)(a0:Wk):Option Bool:=bif (decide ((a0.w.length:Int)<=5000))then some (decide ((a0.p.length:Int)<=100))else some false
def QgT(N:Nat)(a0:W9):Option Bool:=bnd (Qiv N a0.h) λy1=>bif y1 then(bif (decide ((a0.l.S.length:Int)<=200))then(bif (decide ((a0.l.x.length:Int)<=100))then(bif (decide ((a0.l.i.length:Int)<=5000))then(bif (decide ((a0.g.e.length:Int)<=200))then(bif (decide ((a0.v.e.length:Int)<=200))then(bif (decide ((a0.P.length:Int)<=100))then some (decide ((a0.R.length:Int)<=100))else some false)else some false)else some false)else some false)else some false)else some false)else some false
def QhO(N:Nat)(a0:W9)(a1:List Int)(a2:List Int):Option (List W9):=bnd (Qie N a1 60) λy1=>bnd (Qg0 N y1.N (UG.mk a2 0)) λy2=>bnd (QgT N a0) λy3=>bif y3 then some [y1.N,y2.1,a0]else some [y1.N,y2.1]
def QfU(N:Nat)(a0:W8):Option Bool:=bif (decide (a0.G<1))then some true else bif (decide (a0.G>4294967295))then some true else bif (!a0.V)then some (a0.a != 0)else some false
def Qak(N:Nat)(a0:List W8):Nat->Int->Option (Ex Int Unit)
 |0,_=>none
 |n+1,v1=>
  bif (decide (v1<(a0.length:Int)))then(bnd (Xb a0 v1) λp2=>
   bnd (QfU N p2) λy3=>
   bif y3 then some (.ret v1)
   else Qak N a0 n (wI (v1+1)))
  else some (.nxt ())
def QaL(N:Nat)(a0:List W8):Option Int:=bnd (Qak N a0 N 0) λe=>exK e (λr=>some r) λy4=>some (-1)
def QaG(N:Nat)(a0:List W8):Option Bool:=bnd (QaL N a0) λy1=>some (decide (y1>=0))
def Qet(N:Nat)(a0:WE):Option Bool:=bif (decide ((a0.e.length:Int)<=64))then(bnd (QaG N a0.e) λy1=>some (!y1))else some false
def QdZ(N:Nat)(a0:WE):Nat->Int->(List Int)->Option (List Int)
 |0,_,_=>none
 |n+1,v2,v3=>
  bif (decide (v2<(a0.e.length:Int)))then(bnd (Xb a0.e v2) λp4=>
   bif p4.V then(grd ((v3.length+1)*8<=140737488355328) <|
    QdZ N a0 n (wI (v2+1)) (v3++[p4.a]))
   else QdZ N a0 n (wI (v2+1)) v3)
  else some v3
def QdD(N:Nat)(a0:WE):Option (List Int):=bnd (Qet N a0) λy1=>bif (!y1)then some []else bnd (QdZ N a0 N 0 []) λy5=>some y5
def QaX(N:Nat)(a0:IV):Nat->Int->Int->Option (Ex Bool Unit)
 |0,_,_=>none
 |n+1,v1,v2=>
  bif (decide (v2<(a0.l.x.length:Int)))then(bnd (Xb a0.l.x v2) λp3=>
   bif (v2==0)then(bif (p3.O != 0)then some (.ret false)
    else bif (!p3.B0)then some (.ret false)
    else bif (decide (p3.O<v1))then some (.ret false)
    else bif (decide (p3.O>(a0.l.S.length:Int)))then some (.ret false)
    else bif (decide (p3.C0<0))then some (.ret false)
    else bif (decide (p3.C0>64))then some (.ret false)
    else QaX N a0 n p3.O (wI (v2+1)))
   else bif (decide (p3.O<v1))then some (.ret false)
   else bif (decide (p3.O>(a0.l.S.length:Int)))then some (.ret false)
   else bif (decide (p3.C0<0))then some (.ret false)
   else bif (decide (p3.C0>64))then some (.ret false)
   else QaX N a0 n p3.O (wI (v2+1)))
  else some (.nxt ())
def Qdj(N:Nat)(a0:IV):Option Bool:=jn (λ(_:Unit)=>bnd (QaX N a0 N 0 0) λe=>exK e (λr=>some r) λy4=>some true) λj1=>bif (decide ((a0.l.x.length:Int)>64))then some false else bif ((a0.l.x.length:Int)==0)then(bif (decide ((a0.l.S.length:Int)>0))then some false else j1 ())else j1 ()
def Qa5(N:Nat)(a0:IV):Nat->Int->Int->Option (Ex Bool Unit)
 |0,_,_=>none
 |n+1,v1,v2=>
  bif (decide (v2<(a0.l.S.length:Int)))then(bnd (Xb a0.l.S v2) λp3=>
   bif (decide (p3.J<=v1))then some (.ret false)
   else bif (decide (p3.J>(a0.l.i.length:Int)))then some (.ret false)
   else bnd (Xb a0.l.i (wI (p3.J-1))) λp4=>
   bif (p4 != v2)then some (.ret false)
   else bif (p3.V==(p3.a==0))then some (.ret false)
   else Qa5 N a0 n p3.J (wI (v2+1)))
  else some (.nxt ())
def Qc9(N:Nat)(a0:IV):Option Bool:=bnd (Qa5 N a0 N 0 0) λe=>exK e (λr=>some r) λy5=>some true
def QdN(N:Nat)(a0:IV)(a1:Int):Option (List UM):=bif (decide ((wI (a1+1))<(a0.l.x.length:Int)))then(bnd (Xb a0.l.x a1) λp1=>bnd (Xb a0.l.x (wI (a1+1))) λp2=>grd (0<=p1.O/\p1.O<=p2.O/\p2.O<=(a0.l.S.length:Int)) <| some ((a0.l.S.drop p1.O.toNat).take (p2.O.toNat-p1.O.toNat)))else bnd (Xb a0.l.x a1) λp3=>grd (0<=p3.O/\p3.O<=(a0.l.S.length:Int)/\(a0.l.S.length:Int)<=(a0.l.S.length:Int)) <| some (a0.l.S.drop p3.O.toNat)
def QbE(N:Nat)(y1:List UM):Nat->Int->Int->Option Int
 |0,_,_=>none
 |n+1,v2,v3=>
  bif (decide (v3<(y1.length:Int)))then(bnd (Xb y1 v3) λp4=>
   bif p4.V then QbE N y1 n (wI (v2+1)) (wI (v3+1))
   else QbE N y1 n v2 (wI (v3+1)))
  else some v2
def Qef(N:Nat)(a0:IV)(a1:Int):Option Int:=bnd (QdN N a0 a1) λy1=>bnd (QbE N y1 N 0 0) λy5=>some y5
def QfV(N:Nat)(a0:Int):Option Bool:=bif (decide (a0<0))then some true else some (decide (a0>=4096))
def QaF(N:Nat)(a0:List Int):Nat->Int->Option (Ex Int Unit)
 |0,_=>none
 |n+1,v1=>
  bif (decide (v1<(a0.length:Int)))then(bnd (Xb a0 v1) λp2=>
   bnd (QfV N p2) λy3=>
   bif y3 then some (.ret v1)
   else QaF N a0 n (wI (v1+1)))
  else some (.nxt ())
def QbJ(N:Nat)(a0:List Int):Option Int:=bnd (QaF N a0 N 0) λe=>exK e (λr=>some r) λy4=>some (-1)
def Qbn(N:Nat)(a0:List Int):Option Bool:=bnd (QbJ N a0) λy1=>some (decide (y1>=0))
def Qdr(N:Nat)(a0:Ww):Nat->Int->Option (Ex Bool Unit)
 |0,_=>none
 |n+1,v4=>
  bif (decide (v4<(a0.x.length:Int)))then(bnd (Xb a0.x v4) λp5=>
   bnd (Qef N (IV.mk a0) v4) λy6=>
   bif (decide (y6>p5.C0))then some (.ret false)
   else Qdr N a0 n (wI (v4+1)))
  else some (.nxt ())
def Qe9(N:Nat)(a0:Ww):Option Bool:=bif (decide ((a0.i.length:Int)>4096))then some false else bnd (Qbn N a0.i) λy1=>bif y1 then some false else bnd (Qdj N (IV.mk a0)) λy2=>bif (!y2)then some false else bnd (Qc9 N (IV.mk a0)) λy3=>bif (!y3)then some false else bnd (Qdr N a0 N 0) λe=>exK e (λr=>some r) λy7=>some true
def Qd0(N:Nat)(a0:Ww):Nat->Int->(List Int)->Option (List Int)
 |0,_,_=>none
 |n+1,v2,v3=>
  bif (decide (v2<(a0.S.length:Int)))then(bnd (Xb a0.S v2) λp4=>
   bif p4.V then(grd ((v3.length+1)*8<=140737488355328) <|
    Qd0 N a0 n (wI (v2+1)) (v3++[p4.a]))
   else Qd0 N a0 n (wI (v2+1)) v3)
  else some v3
def QfK(N:Nat)(a0:Ww):Option (List Int):=bnd (Qe9 N a0) λy1=>bif (!y1)then some []else bnd (Qd0 N a0 N 0 []) λy5=>some y5
def Qbk(N:Nat)(a1:Int):Option (List Int):=bif (decide (a1<0))then none else bif (decide ((wI (a1-(wI 0)))>0))then(grd (0=0/\0=0) <| grd (0<=(wI (a1-(wI 0)))/\(wI (a1-(wI 0))).toNat*8<=140737488355328) <| grd ((wI (a1-(wI 0))).toNat*8<=140737488355328) <| grd (0<=0/\0<=0/\0<=(((wI (a1-(wI 0))).toNat:Nat):Int)) <| some ((List.replicate (wI (a1-(wI 0))).toNat (0:Int)).take 0))else some []
def QaO(N:Nat)(a0:List (List Int)):Nat->Int->Int->Option Int
 |0,_,_=>none
 |n+1,v1,v2=>
  bif (decide (v2<(a0.length:Int)))then(bnd (Xb a0 v2) λp3=>
   bif (decide ((wI (v1+(p3.length:Int)))<0))then none
   else QaO N a0 n (wI (v1+(p3.length:Int))) (wI (v2+1)))
  else some v1
def QaP(N:Nat)(a0:List (List Int)):Nat->Int->(List Int)->Option (List Int)
 |0,_,_=>none
 |n+1,v6,v7=>
  bif (decide (v6<(a0.length:Int)))then(bnd (Xb a0 v6) λp8=>
   grd ((v7.length+p8.length)*8<=140737488355328) <|
   QaP N a0 n (wI (v6+1)) (v7++p8))
  else some v7
def QaK(N:Nat)(a0:List (List Int)):Option (List Int):=bnd (QaO N a0 N 0 0) λy4=>bnd (Qbk N y4) λy5=>bnd (QaP N a0 N 0 y5) λy9=>some y9
def Qgt(N:Nat)(a0:List (List Int)):Option (List Int):=bnd (QaK N a0) λy1=>some y1
def QeN(N:Nat)(a0:W9):Nat->Int->(List Int)->Option (List Int)
 |0,_,_=>none
 |n+1,v1,v2=>
  bif (decide (v1<(a0.P.length:Int)))then(bnd (Xb a0.P v1) λp3=>
   grd ((v2.length+1)*8<=140737488355328) <|
   QeN N a0 n (wI (v1+1)) (v2++[p3.a]))
  else some v2
def QhP(N:Nat)(a0:W9):Option (List Int):=bnd (QeN N a0 N 0 []) λy4=>some y4
def Qgu(N:Nat)(a0:W9):Option (List Int):=bnd (QfK N a0.l) λy1=>bnd (QdD N a0.g) λy2=>bnd (QhP N a0) λy3=>bnd (Qgt N [a0.R,y1,y2,y3]) λy4=>some y4
def QbQ(N:Nat)(a0:WT):Option Bool:=bif (decide (a0.W>=16))then(bif (decide (a0.W<=64))then(bif ((a0.W.tmod 4)==0)then(bif (decide (a0.p>=8))then some (decide (a0.p<=64))else some false)else some false)else some false)else some false
def Qe0(N:Nat)(a0:WT):Option Int:=bnd (QbQ N a0) λy1=>bif (!y1)then some 0 else some (wI (a0.W.tdiv 4))
def Qe1(N:Nat)(a0:WT)(a1:Int):Option Int:=bnd (QbQ N a0) λy1=>bif (!y1)then some (-1)else bif (decide (a1<1))then some (-1)else bif (decide (a1>(wI (4*a0.W))))then some (-1)else bnd (Qe0 N a0) λy2=>bif (decide (a1<=y2))then some 0 else grd (a0.W≠0) <| some (wI ((wI ((wI (a1+a0.W))-1)).tdiv a0.W))
def Qf8(N:Nat)(a0:Wt)(a1:WT):Option Bool:=some ((a0.k==0)&&((a0.s==0)&&((a0.u==0)&&(a0.P==0))))
def QbX(N:Nat)(a0:Wt):Option Bool:=bif (a0.s==0)then some true else some (a0.s==1)
def Qdd(N:Nat)(a0:Wt):Option Bool:=bif (decide (a0.P>=0))then some (decide (a0.P<=2147483647))else some false
def Qds(N:Nat)(a0:Wt)(a1:WT):Option Bool:=bnd (QbX N a0) λy1=>bif y1 then(bnd (Qdd N a0) λy2=>bif y2 then(bif (decide (a0.u>=0))then some (decide (a0.u<=a1.W))else some false)else some false)else some false
def Qdt(N:Nat)(a0:Wt)(a1:WT):Option Bool:=bnd (QbX N a0) λy1=>bif y1 then(bnd (Qdd N a0) λy2=>bif y2 then(bnd (Qe1 N a1 a0.u) λy3=>some (decide (y3>=1)))else some false)else some false
def Qfi(N:Nat)(a0:Wt)(a1:Wt):Option Bool:=some ((a0.k==3)&&((a0.s==a1.s)&&((a0.u==0)&&(a0.P==0))))
def Qfr(N:Nat)(a1:List Wt)(a2:Int)(p1:Wt)(x5:Int)(y6:Int):Nat->Int->Option (Ex Int Unit)
 |0,_=>none
 |n+1,v7=>
  bif (decide (v7<(((min ((wI (a2+y6)).toNat-(wI (a2+1)).toNat) (a1.length-(wI (a2+1)).toNat)):Nat):Int)))then(bnd (Xb ((a1.drop (wI (a2+1)).toNat).take ((wI (a2+y6)).toNat-(wI (a2+1)).toNat)) v7) λp8=>
   bnd (Qfi N p8 (Wt.mk x5 p1.s p1.u p1.P)) λy9=>
   bif (!y9)then some (.ret 0)
   else Qfr N a1 a2 p1 x5 y6 n (wI (v7+1)))
  else some (.nxt ())
def Qg1(N:Nat)(a0:WT)(a1:List Wt)(a2:Int):Option Int:=bnd (Xb a1 a2) λp1=>jn (λ(x5:Int)=>bif (x5 != 2)then some 1 else bnd (Qe1 N a0 p1.u) λy6=>bif (decide (y6>(wI ((a1.length:Int)-a2))))then some 0 else grd (0<=(wI (a2+1))/\(wI (a2+1))<=(wI (a2+y6))/\(wI (a2+y6))<=(a1.length:Int)) <| bnd (Qfr N a1 a2 p1 x5 y6 N 0) λe=>exK e (λr=>some r) λy10=>some y6) λj1=>bif (decide (p1.k<0))then some 0 else bif (decide (p1.k>=3))then some 0 else bif (p1.k==0)then(bnd (Qf8 N (Wt.mk 0 p1.s p1.u p1.P) a0) λy2=>bif (!y2)then some 0 else j1 0)else bif (p1.k==1)then(bnd (Qds N (Wt.mk 1 p1.s p1.u p1.P) a0) λy3=>bif (!y3)then some 0 else j1 1)else bif (p1.k==2)then(bnd (Qdt N (Wt.mk 2 p1.s p1.u p1.P) a0) λy4=>bif (!y4)then some 0 else j1 2)else none
def Qae(N:Nat)(a0:Wk):Nat->Int->Option (Ex Bool Unit)
 |0,_=>none
 |n+1,v3=>
  bif (decide (v3<(a0.p.length:Int)))then(bnd (Qg1 N a0.c a0.p v3) λy4=>
   bif (y4==0)then some (.ret false)
   else Qae N a0 n (wI (v3+y4)))
  else some (.nxt ())
def QbR(N:Nat)(a0:Wk):Option Bool:=jn (λ(_:Unit)=>jn (λ(_:Unit)=>bnd (Qae N a0 N 0) λe=>exK e (λr=>some r) λy5=>some true) λj2=>bif (a0.b != (-1))then(bif (decide (a0.b<0))then some false else bif (decide (a0.b>=(a0.p.length:Int)))then some false else bnd (Xb a0.p a0.b) λp2=>bif (p2.k != 1)then some false else j2 ())else j2 ()) λj1=>bnd (QbQ N a0.c) λy1=>bif (!y1)then some false else bif ((a0.w.length:Int) != (wI (a0.c.W*a0.c.p)))then some false else bif ((a0.p.length:Int) != a0.c.p)then some false else bif (a0.s != 0)then(bif (a0.s != 1)then some false else j1 ())else j1 ()
def Qde(N:Nat)(a0:List UJ):Nat->Int->(List Int)->Option (List Int)
 |0,_,_=>none
 |n+1,v1,v2=>
  bif (decide (v1<(a0.length:Int)))then(bnd (Xb a0 v1) λp3=>
   grd ((v2.length+1)*8<=140737488355328) <|
   Qde N a0 n (wI (v1+1)) (v2++[p3.addr]))
  else some v2
def Qcg(N:Nat)(a0:List UJ):Option (List Int):=bnd (Qde N a0 N 0 []) λy4=>some y4
def Qfs(N:Nat)(a0:Int):Nat->Int->Int->Option Int
 |0,_,_=>none
 |n+1,v1,v2=>
  bif (decide (v2<(if 64<(if a0<0 then 0 else a0)then 64 else(if a0<0 then 0 else a0))))then Qfs N a0 n (bOr .u64 (ZQ .u64 v1 1) 1) (wI (v2+1))
  else some v1
def QcY(N:Nat)(a0:Int):Option Int:=bnd (Qfs N a0 N 0 0) λy3=>some y3
def Qda(N:Nat)(a0:Wy):Option Bool:=bif (decide (a0.k<0))then some false else bif (decide (a0.k>3))then some false else bif (decide (a0.n<0))then some false else bif (decide (a0.n>255))then some false else bif (a0.k==1)then(jn (λ(x2:Bool)=>some x2) λj1=>bif (decide (a0.n<=32))then(bnd (QcY N a0.n) λy1=>j1 (decide ((wU a0.Map)<=y1)))else j1 false)else some ((a0.k==a0.k)&&((a0.n==a0.n)&&(a0.Map==0)))
def Qbj(N:Nat)(a0:Wy):Option Int:=bnd (Qda N a0) λy1=>bif (!y1)then some 0 else some (wI (a0.n+1))
def Qdb(N:Nat)(a0:WT)(a1:Int)(a2:Int):Option (Int×Int):=bnd (QbQ N a0) λy1=>bif (!y1)then some (0,1)else bif (decide (a1<0))then some (0,2)else bif (decide (a1>=a0.p))then some (0,2)else bif (decide (a2<0))then some (0,2)else bif (decide (a2>=a0.W))then some (0,2)else some ((wU (4096+(wU (wI ((wI (a1*a0.W))+a2))))),0)
def Qch(N:Nat)(a0:WT)(a1:Int):Option (Int×Int×Int):=bnd (QbQ N a0) λy1=>bif (!y1)then some (0,0,1)else bif (decide (a1<4096))then some (0,0,2)else bif (decide ((wU (a1-4096))>=(wU (wI (a0.W*a0.p)))))then some (0,0,2)else grd (a0.W≠0) <| grd (a0.W≠0) <| some ((wI ((wI (wU (a1-4096))).tdiv a0.W)),((wI (wU (a1-4096))).tmod a0.W),0)
def QaQ(N:Nat)(a0:Int)(a1:List Int):Nat->Int->Int->Option (Ex (List Int×Int) Unit)
 |0,_,_=>none
 |n+1,v1,v2=>
  bif (decide (v2<(a1.length:Int)))then(bnd (Xb a1 v2) λp3=>
   bif (decide (p3<1))then some (.ret ([],1))
   else bif (decide (p3>v1))then some (.ret ([],1))
   else QaQ N a0 a1 n (wI (v1-p3)) (wI (v2+1)))
  else some (.nxt ())
def QaR(N:Nat)(a1:List Int):Nat->Int->Int->(List Int)->Option (Int×List Int)
 |0,_,_,_=>none
 |n+1,v5,v6,v7=>
  bif (decide (v6<(a1.length:Int)))then(bnd (Xb a1 v6) λp8=>
   bnd (QcY N p8) λy9=>
   grd ((v7.length+1)*8<=140737488355328) <|
   grd (0<=p8) <|
   QaR N a1 n (YA .u64 v5 p8) (wI (v6+1)) (v7++[(Zc .u64 v5 y9)]))
  else some (v5,v7)
def Qfa(N:Nat)(a0:Int)(a1:List Int):Option (List Int×Int):=bnd (QaQ N a0 a1 N 64 0) λe=>exK e (λr=>some r) λy4=>bnd (QaR N a1 N a0 0 []) λy10=>bif (y10.1 != 0)then some ([],2)else some (y10.2,0)
def Qd1(N:Nat)(a0:Int):Option (Wy×Bool):=bnd (Qfa N a0 [2,2,12,32]) λy1=>bif (y1.2 != 0)then some ((Wy.mk 0 0 0),false)else bnd (Xb y1.1 0) λp2=>bif (p2 != 1)then some ((Wy.mk 0 0 0),false)else bnd (Xb y1.1 1) λp3=>bnd (Xb y1.1 2) λp4=>bnd (Xb y1.1 3) λp5=>bnd (Qda N (Wy.mk (wI p3) (wI p4) (wW p5))) λy6=>bif (!y6)then some ((Wy.mk 0 0 0),false)else some ((Wy.mk (wI p3) (wI p4) (wW p5)),true)
def Qfb(N:Nat)(a0:List Int)(a1:Int)(a2:Int):Option (Int×Bool):=bif (decide (a1<4096))then some (0,false)else bif (decide ((wU (a1-4096))>(wU (a0.length:Int))))then some (0,false)else some ((wI (wU (a1-4096))),(decide (a2<=(wI ((a0.length:Int)-(wI (wU (a1-4096))))))))
def QhB(N:Nat)(a0:List Int)(a1:Int):Option (Int×Int):=bnd (Qfb N a0 a1 1) λy1=>bif (!y1.2)then some (0,2)else some (y1.1,0)
def Qgv(N:Nat)(a0:List Int)(a1:Int):Option (Int×Int):=bnd (QhB N a0 a1) λy1=>bif (y1.2 != 0)then some (0,y1.2)else bnd (Xb a0 y1.1) λp2=>some (p2,0)
def QgU(N:Nat)(a0:Wk)(a1:Int):Option Int:=bnd (Qgv N a0.w a1) λy1=>some y1.1
def Qeu(N:Nat)(a0:Wk)(a1:Int):Option (Wy×Int):=bnd (QbR N a0) λy1=>bif (!y1)then some ((Wy.mk 0 0 0),1)else bnd (Qch N a0.c a1) λy2=>bif (y2.2.2 != 0)then some ((Wy.mk 0 0 0),y2.2.2)else bnd (Xb a0.p y2.1) λp3=>bnd (QgU N a0 a1) λy4=>bnd (Qd1 N y4) λy5=>bnd (Qbj N y5.1) λy6=>jn (λ(x10:Bool)=>bif (!x10)then some ((Wy.mk 0 0 0),19)else some (y5.1,0)) λj4=>bif (!y5.2)then j4 false else bif (decide (y2.2.1>=p3.u))then j4 false else jn (λ(x9:Bool)=>j4 x9) λj3=>bif (p3.k==1)then j3 (decide (y6<=(wI (p3.u-y2.2.1))))else jn (λ(x8:Bool)=>j3 x8) λj2=>bif (p3.k==2)then(jn (λ(x7:Bool)=>j2 x7) λj1=>bif (y2.2.1==0)then j1 (y6==p3.u)else j1 false)else j2 false
def QbS(N:Nat)(a0:Wk)(a1:Int)(p1:Wt):Nat->Int->List UJ->Option (List UJ×Int)
 |0,_,_=>none
 |n+1,v2,v3=>
  bif (decide (v2<p1.u))then(bnd (Qdb N a0.c a1 v2) λy4=>
   bif (y4.2==0)then(bnd (Qeu N a0 y4.1) λy5=>
    bif (y5.2==0)then(bnd (Qbj N y5.1) λy6=>
     grd ((v3.length+1)*32<=140737488355328) <|
     QbS N a0 a1 p1 n (wI (v2+y6)) (v3++[UJ.mk y4.1 y5.1]))
    else some ([],19))
   else some ([],19))
  else some (v3,0)
def Qf3(N:Nat)(a0:Wk)(a1:Int):Option (List UJ×Int):=bnd (Xb a0.p a1) λp1=>bif (p1.k != 1)then(bif (p1.k != 2)then some ([],0)else QbS N a0 a1 p1 N 0 [])else QbS N a0 a1 p1 N 0 []
def Qe2(N:Nat)(a0:Wk)(a1:Int):Option (List Int×Int):=bnd (QbR N a0) λy1=>bif (!y1)then some ([],1)else bif (decide (a1<0))then some ([],2)else bif (decide (a1>=(a0.p.length:Int)))then some ([],2)else bnd (Qf3 N a0 a1) λy2=>bif (y2.2 != 0)then some ([],y2.2)else bnd (Qcg N y2.1) λy3=>some (y3,0)
def Qci(N:Nat)(a0:Wk)(a1:Int)(a2:List Int):Nat->Int->Option (Ex (Int×Bool) Unit)
 |0,_=>none
 |n+1,v1=>
  bif (decide (v1<(a2.length:Int)))then(bnd (Xb a2 v1) λp2=>
   bnd (Qeu N a0 p2) λy3=>
   bnd (Qbj N y3.1) λy4=>
   bnd (Qe0 N a0.c) λy5=>
   bnd (Xb a0.p a1) λp6=>
   bif (p6.k==1)then(bif (!(decide (y4<=y5)))then some (.ret (p2,true))
    else bnd (Xb a0.p a1) λp7=>
    bif (p7.k==2)then(bif (y3.1.k==0)then some (.ret (p2,true))
     else Qci N a0 a1 a2 n (wI (v1+1)))
    else Qci N a0 a1 a2 n (wI (v1+1)))
   else bnd (Xb a0.p a1) λp8=>
   bif (p8.k==2)then(bif (y3.1.k==0)then some (.ret (p2,true))
    else Qci N a0 a1 a2 n (wI (v1+1)))
   else Qci N a0 a1 a2 n (wI (v1+1)))
  else some (.nxt ())
def Qf4(N:Nat)(a0:Wk)(a1:Int)(a2:List Int):Option (Int×Bool):=bnd (Qci N a0 a1 a2 N 0) λe=>exK e (λr=>some r) λy9=>some (0,false)
def Qad(N:Nat)(a0:List Int):Option (List Int):=some a0
def Qhd(N:Nat)(a0:List Int)(a1:Int)(a2:Int):Option (List Int×Int):=bif (decide (a2<0))then some ([],1)else bnd (Qfb N a0 a1 a2) λy1=>bif (!y1.2)then some ([],2)else grd (0<=y1.1/\y1.1<=(wI (y1.1+a2))/\(wI (y1.1+a2))<=(a0.length:Int)) <| bnd (Qad N ((a0.drop y1.1.toNat).take ((wI (y1.1+a2)).toNat-y1.1.toNat))) λy2=>some (y2,0)
def QeO(N:Nat)(a0:Wk):Nat->Int->Option Int
 |0,_=>none
 |n+1,v1=>
  bif (decide (v1>0))then(bnd (Xb a0.p v1) λp2=>
   bif (p2.k==3)then QeO N a0 n (wI (v1-1))
   else some v1)
  else some v1
def Qhe(N:Nat)(a0:Wk)(a1:Int):Option Int:=bnd (QeO N a0 N a1) λy3=>some y3
def Qhf(N:Nat)(a0:Int):Option Bool:=some (a0 != 0)
def Qau(N:Nat)(a0:List Int):Nat->Int->Option (Ex Int Unit)
 |0,_=>none
 |n+1,v1=>
  bif (decide (v1<(a0.length:Int)))then(bnd (Xb a0 v1) λp2=>
   bnd (Qhf N p2) λy3=>
   bif y3 then some (.ret v1)
   else Qau N a0 n (wI (v1+1)))
  else some (.nxt ())
def Qbf(N:Nat)(a0:List Int):Option Int:=bnd (Qau N a0 N 0) λe=>exK e (λr=>some r) λy4=>some (-1)
def Qd2(N:Nat)(a0:Wk)(y1:Int×Int)(y4:List Int×Int):Nat->Int->(List Int)->Option (List Int)
 |0,_,_=>none
 |n+1,v5,v6=>
  bif (decide (v5<(y4.1.length:Int)))then(bnd (Xb y4.1 v5) λp7=>
   bnd (Qeu N a0 p7) λy8=>
   jn (λ(x10:Int)=>
    grd (v6.length<=140737488355328) <|
    grd (v6.length<=140737488355328) <|
    grd (0<=(if(v6.length:Int)<(if(wI ((wI p7)-(wI y1.1)))<0 then 0 else(wI ((wI p7)-(wI y1.1))))then(v6.length:Int)else(if(wI ((wI p7)-(wI y1.1)))<0 then 0 else(wI ((wI p7)-(wI y1.1)))))/\(if(v6.length:Int)<(if(wI ((wI p7)-(wI y1.1)))<0 then 0 else(wI ((wI p7)-(wI y1.1))))then(v6.length:Int)else(if(wI ((wI p7)-(wI y1.1)))<0 then 0 else(wI ((wI p7)-(wI y1.1)))))<=(if(v6.length:Int)<(if(wI ((wI ((wI p7)-(wI y1.1)))+x10))<0 then 0 else(wI ((wI ((wI p7)-(wI y1.1)))+x10)))then(v6.length:Int)else(if(wI ((wI ((wI p7)-(wI y1.1)))+x10))<0 then 0 else(wI ((wI ((wI p7)-(wI y1.1)))+x10))))/\(if(v6.length:Int)<(if(wI ((wI ((wI p7)-(wI y1.1)))+x10))<0 then 0 else(wI ((wI ((wI p7)-(wI y1.1)))+x10)))then(v6.length:Int)else(if(wI ((wI ((wI p7)-(wI y1.1)))+x10))<0 then 0 else(wI ((wI ((wI p7)-(wI y1.1)))+x10))))<=(v6.length:Int)) <|
    Qd2 N a0 y1 y4 n (wI (v5+1)) (((v6.take (if(v6.length:Int)<(if(wI ((wI p7)-(wI y1.1)))<0 then 0 else(wI ((wI p7)-(wI y1.1))))then(v6.length:Int)else(if(wI ((wI p7)-(wI y1.1)))<0 then 0 else(wI ((wI p7)-(wI y1.1))))).toNat)++(List.replicate ((if(v6.length:Int)<(if(wI ((wI ((wI p7)-(wI y1.1)))+x10))<0 then 0 else(wI ((wI ((wI p7)-(wI y1.1)))+x10)))then(v6.length:Int)else(if(wI ((wI ((wI p7)-(wI y1.1)))+x10))<0 then 0 else(wI ((wI ((wI p7)-(wI y1.1)))+x10)))).toNat-(if(v6.length:Int)<(if(wI ((wI p7)-(wI y1.1)))<0 then 0 else(wI ((wI p7)-(wI y1.1))))then(v6.length:Int)else(if(wI ((wI p7)-(wI y1.1)))<0 then 0 else(wI ((wI p7)-(wI y1.1))))).toNat) (0:Int)))++(v6.drop ((if(v6.length:Int)<(if(wI ((wI p7)-(wI y1.1)))<0 then 0 else(wI ((wI p7)-(wI y1.1))))then(v6.length:Int)else(if(wI ((wI p7)-(wI y1.1)))<0 then 0 else(wI ((wI p7)-(wI y1.1))))).toNat+((if(v6.length:Int)<(if(wI ((wI ((wI p7)-(wI y1.1)))+x10))<0 then 0 else(wI ((wI ((wI p7)-(wI y1.1)))+x10)))then(v6.length:Int)else(if(wI ((wI ((wI p7)-(wI y1.1)))+x10))<0 then 0 else(wI ((wI ((wI p7)-(wI y1.1)))+x10)))).toNat-(if(v6.length:Int)<(if(wI ((wI p7)-(wI y1.1)))<0 then 0 else(wI ((wI p7)-(wI y1.1))))then(v6.length:Int)else(if(wI ((wI p7)-(wI y1.1)))<0 then 0 else(wI ((wI p7)-(wI y1.1))))).toNat))))) λj1=>
   bif (y8.1.k != 0)then(bnd (Qbj N y8.1) λy9=>
    j1 y9)
   else j1 1)
  else some v6
def Qgw(N:Nat)(a0:Wk)(a1:Int):Option (Int×Bool):=bnd (Qdb N a0.c a1 0) λy1=>bnd (Qhd N a0.w y1.1 a0.c.W) λy2=>bnd (Qhe N a0 a1) λy3=>bnd (Qe2 N a0 y3) λy4=>bnd (Qd2 N a0 y1 y4 N 0 y2.1) λy11=>bnd (Qbf N y11) λy12=>some ((wU (y1.1+(wU (if y12<0 then 0 else y12)))),(decide (y12>=0)))
def QaY(N:Nat)(a0:Wk):Nat->Int->Option (Ex Uc Unit)
 |0,_=>none
 |n+1,v1=>
  bif (decide (v1<(a0.p.length:Int)))then(bnd (Xb a0.p v1) λp2=>
   jn (λ(_:Unit)=>
    bnd (Qe2 N a0 v1) λy3=>
    bif (y3.2 != 0)then some (.ret (Uc.mk 3 v1 0))
    else bnd (Qf4 N a0 v1 y3.1) λy4=>
    bif y4.2 then some (.ret (Uc.mk 5 v1 y4.1))
    else bnd (Qgw N a0 v1) λy5=>
    bif y5.2 then some (.ret (Uc.mk 4 v1 y5.1))
    else QaY N a0 n (wI (v1+1))) λj1=>
   bif (p2.k != 0)then(bif (p2.s != a0.s)then some (.ret (Uc.mk 2 v1 0))
    else j1 ())
   else j1 ())
  else some (.nxt ())
def QgN(N:Nat)(a0:Wk):Option Uc:=bnd (QaY N a0 N 0) λe=>exK e (λr=>some r) λy6=>some (Uc.mk 0 0 0)
def Qf5(N:Nat)(a0:Wk):Nat->Int->(List UJ)->Option (Ex (List UJ×Int) (List UJ))
 |0,_,_=>none
 |n+1,v2,v3=>
  bif (decide (v2<(a0.p.length:Int)))then(bnd (Qf3 N a0 v2) λy4=>
   bif (y4.2 != 0)then some (.ret ([],y4.2))
   else grd ((v3.length+y4.1.length)*32<=140737488355328) <|
   Qf5 N a0 n (wI (v2+1)) (v3++y4.1))
  else some (.nxt v3)
def QhW(N:Nat)(a0:Wk):Option (List UJ×Int):=bnd (QbR N a0) λy1=>bif (!y1)then some ([],1)else bnd (Qf5 N a0 N 0 []) λe=>exK e (λr=>some r) λy5=>some (y5,0)
def Qex(N:Nat)(a0:UJ):Option Bool:=some (a0.hd.k==0)
def Qai(N:Nat)(a0:List UJ):Nat->Int->Option (Ex Int Unit)
 |0,_=>none
 |n+1,v1=>
  bif (decide (v1<(a0.length:Int)))then(bnd (Xb a0 v1) λp2=>
   bnd (Qex N p2) λy3=>
   bif y3 then some (.ret v1)
   else Qai N a0 n (wI (v1+1)))
  else some (.nxt ())
def Qat(N:Nat)(a0:List UJ):Option Int:=bnd (Qai N a0 N 0) λe=>exK e (λr=>some r) λy4=>some (-1)
def Qcm(N:Nat):Nat->Int->Int->(List UJ)->Option (Int×List UJ)
 |0,_,_,_=>none
 |n+1,v3,v4,v5=>
  grd (v5.length<=140737488355328) <|
  bif (decide (v4<(v5.length:Int)))then(bnd (Xb v5 v4) λp6=>
   bnd (Qex N p6) λy7=>
   bif (!y7)then(bnd (Xb v5 v3) λp8=>
    Qcm N n (wI (v3+1)) (wI (v4+1)) (v5.set v3.toNat p6))
   else Qcm N n v3 (wI (v4+1)) v5)
  else some (v3,v5)
def QdO(N:Nat)(a0:Wk):Option (List Int×Int):=bnd (QhW N a0) λy1=>bif (y1.2 != 0)then some ([],y1.2)else bnd (Qat N y1.1) λy2=>bif (y2==(-1))then(bnd (Qcg N y1.1) λy11=>some (y11,0))else bnd (Qcm N N y2 (wI (y2+1)) y1.1) λy9=>grd (0<=y9.1/\y9.1<=(y9.2.length:Int)/\(y9.2.length:Int)<=(y9.2.length:Int)) <| grd (0<=y9.1/\y9.1<=(((((min y9.1.toNat y9.2.length)+(y9.2.length-y9.1.toNat))+(y9.2.length-(y9.1.toNat+(y9.2.length-y9.1.toNat)))):Nat):Int)) <| bnd (Qcg N ((((y9.2.take y9.1.toNat)++(List.replicate (y9.2.length-y9.1.toNat) (UJ.mk 0 (Wy.mk 0 0 0))))++(y9.2.drop (y9.1.toNat+(y9.2.length-y9.1.toNat)))).take y9.1.toNat)) λy12=>some (y12,0)
def QeC(N:Nat)(a0:Int):Option Bool:=some (a0 != a0)
def Qf9(N:Nat)(a0:Int)(a1:Int):Option Bool:=bnd (QeC N a0) λy1=>bif y1 then(bnd (QeC N a1) λy2=>bif (!y2)then some true else some (decide (a0<a1)))else some (decide (a0<a1))
def Qdk(N:Nat)(a0:Int):Option Bool:=some (a0 != a0)
def Qaq(N:Nat)(a0:List Int)(a1:Int):Nat->Int->Int->Option Int
 |0,_,_=>none
 |n+1,v1,v2=>
  bif (decide (v1<v2))then(bnd (Xb a0 (wI (YA .u64 (wU (wI (v1+v2))) 1))) λp3=>
   bnd (Qf9 N p3 a1) λy4=>
   bif y4 then Qaq N a0 a1 n (wI ((wI (YA .u64 (wU (wI (v1+v2))) 1))+1)) v2
   else Qaq N a0 a1 n v1 (wI (YA .u64 (wU (wI (v1+v2))) 1)))
  else some v1
def Qaw(N:Nat)(a0:List Int)(a1:Int):Option (Int×Bool):=bnd (Qaq N a0 a1 N 0 (a0.length:Int)) λy5=>bif (decide (y5<(a0.length:Int)))then(bnd (Xb a0 y5) λp6=>bif (p6==a1)then some (y5,true)else bnd (Xb a0 y5) λp7=>bnd (Qdk N p7) λy8=>bif y8 then(bnd (Qdk N a1) λy9=>some (y5,y9))else some (y5,false))else some (y5,false)
def Qft(N:Nat)(a0:Wy)(a1:Int):Option Bool:=bnd (Qda N a0) λy1=>bif (!y1)then some false else bif (decide (a1<0))then some false else bif (decide (a1>=a0.n))then some false else bif (a0.k==2)then some true else bif (a0.k==1)then(grd (0<=a1) <| some ((Zc .u32 (YA .u32 a0.Map a1) 1)==1))else some false
def Qb3(N:Nat)(a0:Wy)(y1:Int):Nat->Int->(List Int)->Option (List Int)
 |0,_,_=>none
 |n+1,v2,v3=>
  bif (decide (v2<y1))then(bnd (Qft N a0 v2) λy4=>
   bif y4 then(grd ((v3.length+1)*8<=140737488355328) <|
    Qb3 N a0 y1 n (wI (v2+1)) (v3++[v2]))
   else Qb3 N a0 y1 n (wI (v2+1)) v3)
  else some v3
def QdR(N:Nat)(a0:Wy):Option (List Int):=bnd (Qbj N a0) λy1=>bnd (Qb3 N a0 y1 N 0 []) λy5=>some y5
def QaJ(N:Nat)(a0:Wk)(y1:List Int×Int)(v2:Int)(p3:Int)(y5:List Int):Nat->Int->Option (Ex Int Unit)
 |0,_=>none
 |n+1,v6=>
  bif (decide (v6<(y5.length:Int)))then(bnd (Xb y5 v6) λp7=>
   bnd (Qgv N a0.w (wU ((wU (p3+1))+(wU p7)))) λy8=>
   bnd (Qaw N y1.1 y8.1) λy9=>
   bif (y8.1 != 0)then(bif (!y9.2)then some (.ret (wU ((wU (p3+1))+(wU p7))))
    else QaJ N a0 y1 v2 p3 y5 n (wI (v6+1)))
   else QaJ N a0 y1 v2 p3 y5 n (wI (v6+1)))
  else some (.nxt ())
def Qck(N:Nat)(a0:Wk)(y1:List Int×Int):Nat->Int->Option Int
 |0,_=>none
 |n+1,v2=>
  bif (decide (v2<(y1.1.length:Int)))then(bnd (Xb y1.1 v2) λp3=>
   bnd (Qeu N a0 p3) λy4=>
   bnd (QdR N y4.1) λy5=>
   bnd (QaJ N a0 y1 v2 p3 y5 N 0) λe=>exK e (λy10=>some y10) λy11=>
   Qck N a0 y1 n (wI (v2+1)))
  else some 0
def Qfu(N:Nat)(a0:Wk):Option Uc:=bnd (QdO N a0) λy1=>bnd (Qck N a0 y1 N 0) λy12=>bif (y12==0)then some (Uc.mk 0 0 0)else bnd (Qch N a0.c y12) λy13=>some (Uc.mk 6 y13.1 y12)
def Qcj(N:Nat)(a0:Wk):Nat->Int->Int->Option Int
 |0,_,_=>none
 |n+1,v4,v5=>
  bif (decide (v5<(a0.p.length:Int)))then(bnd (Xb a0.p v5) λp6=>
   bif (p6.k==1)then(bif (decide (p6.P>0))then Qcj N a0 n (wI (v4+1)) (wI (v5+1))
    else Qcj N a0 n v4 (wI (v5+1)))
   else Qcj N a0 n v4 (wI (v5+1)))
  else some v4
def QhC(N:Nat)(a0:Wk):Option Uc:=bnd (QbR N a0) λy1=>bif (!y1)then some (Uc.mk 1 0 0)else bnd (QgN N a0) λy2=>bif (!((y2.Fault==0)&&((y2.Page==0)&&(y2.Addr==0))))then some y2 else bnd (Qfu N a0) λy3=>bif (!((y3.Fault==0)&&((y3.Page==0)&&(y3.Addr==0))))then some y3 else bnd (Qcj N a0 N 0 0) λy7=>bif (decide (y7>(wI (a0.c.p.tdiv 4))))then some (Uc.mk 7 0 0)else some (Uc.mk 0 0 0)
def QfL(N:Nat)(a0:Wk):Option Bool:=bnd (QhC N a0) λy1=>some ((y1.Fault==0)&&((y1.Page==0)&&(y1.Addr==0)))
def Qfj(N:Nat)(a0:UH)(a1:Int):Option Bool:=some (a0.a==a1)
def Qap(N:Nat)(a0:List UH)(c0:Int):Nat->Int->Option (Ex Int Unit)
 |0,_=>none
 |n+1,v1=>
  bif (decide (v1<(a0.length:Int)))then(bnd (Xb a0 v1) λp2=>
   bnd (Qfj N p2 c0) λy3=>
   bif y3 then some (.ret v1)
   else Qap N a0 c0 n (wI (v1+1)))
  else some (.nxt ())
def Qa1(N:Nat)(a0:List UH)(c0:Int):Option Int:=bnd (Qap N a0 c0 N 0) λe=>exK e (λr=>some r) λy4=>some (-1)
def QfW(N:Nat)(a0:List UH)(a1:Int):Option Int:=bnd (Qa1 N a0 a1) λy1=>some y1
def Qb4(N:Nat)(a0:List UH)(a1:Wk)(y1:List Int×Int):Nat->Int->(List Int)->Option (Ex (List Int×Bool) (List Int))
 |0,_,_=>none
 |n+1,v2,v3=>
  bif (decide (v2<(a0.length:Int)))then(bnd (Xb a0 v2) λp4=>
   bnd (Qaw N y1.1 p4.a) λy5=>
   bif (!y5.2)then some (.ret ([],false))
   else bif (decide (p4.M<1))then some (.ret ([],false))
   else bif (decide (p4.M>1000))then some (.ret ([],false))
   else bnd (QfW N a0 p4.a) λy6=>
   bif (y6 != v2)then some (.ret ([],false))
   else bnd (Qch N a1.c p4.a) λy7=>
   bnd (Xb v3 y7.1) λp8=>
   bnd (Xb v3 y7.1) λp9=>
   Qb4 N a0 a1 y1 n (wI (v2+1)) (v3.set y7.1.toNat (wI (p8+p4.M))))
  else some (.nxt v3)
def Qga(N:Nat)(a0:List UH)(a1:Wk):Option (List Int×Bool):=bnd (QdO N a1) λy1=>grd (0<=(a1.p.length:Int)/\(a1.p.length:Int).toNat*8<=140737488355328) <| bnd (Qb4 N a0 a1 y1 N 0 (List.replicate (a1.p.length:Int).toNat (0:Int))) λe=>exK e (λr=>some r) λy10=>some (y10,true)
def QeD(N:Nat)(a0:Wk)(y2:List Int×Bool):Nat->Int->Option (Ex Bool Unit)
 |0,_=>none
 |n+1,v3=>
  bif (decide (v3<(a0.p.length:Int)))then(bnd (Xb a0.p v3) λp4=>
   bnd (Xb y2.1 v3) λp5=>
   bif (p4.P != p5)then some (.ret false)
   else QeD N a0 y2 n (wI (v3+1)))
  else some (.nxt ())
def QhG(N:Nat)(a0:Wk)(a1:List UH):Option Bool:=bnd (QfL N a0) λy1=>bif (!y1)then some false else bif (decide ((a1.length:Int)>64))then some false else bnd (Qga N a1 a0) λy2=>bif (!y2.2)then some false else bnd (QeD N a0 y2 N 0) λe=>exK e (λr=>some r) λy6=>some true
def Qax(N:Nat)(a0:List Int)(a1:Int):Nat->Int->Option (Ex Int Unit)
 |0,_=>none
 |n+1,v1=>
  bif (decide (v1<(a0.length:Int)))then(bnd (Xb a0 v1) λp2=>
   bif (a1==p2)then some (.ret v1)
   else Qax N a0 a1 n (wI (v1+1)))
  else some (.nxt ())
def QbI(N:Nat)(a0:List Int)(a1:Int):Option Int:=bnd (Qax N a0 a1 N 0) λe=>exK e (λr=>some r) λy3=>some (-1)
def Qah(N:Nat)(a0:List Int)(a1:Int):Option Bool:=bnd (QbI N a0 a1) λy1=>some (decide (y1>=0))
def QeE(N:Nat)(a0:Int)(a1:List Int):Option Bool:=bnd (Qaw N a1 a0) λy1=>bif (a0 != 0)then some (!y1.2)else some false
def Qar(N:Nat)(a0:List Int)(c0:List Int):Nat->Int->Option (Ex Int Unit)
 |0,_=>none
 |n+1,v1=>
  bif (decide (v1<(a0.length:Int)))then(bnd (Xb a0 v1) λp2=>
   bnd (QeE N p2 c0) λy3=>
   bif y3 then some (.ret v1)
   else Qar N a0 c0 n (wI (v1+1)))
  else some (.nxt ())
def Qa4(N:Nat)(a0:List Int)(c0:List Int):Option Int:=bnd (Qar N a0 c0 N 0) λe=>exK e (λr=>some r) λy4=>some (-1)
def QaV(N:Nat)(a0:List Int)(c0:List Int):Option Bool:=bnd (Qa4 N a0 c0) λy1=>some (decide (y1>=0))
def QdP(N:Nat)(a0:Wk)(a1:List Int):Option Bool:=bnd (QfL N a0) λy1=>bif (!y1)then some false else bnd (QdO N a0) λy2=>bnd (QaV N a1 y2.1) λy3=>some (!y3)
def Qgi(N:Nat)(a0:W9):Option Bool:=bnd (QhG N a0.h a0.P) λy1=>bif (!y1)then some false else bnd (Qe9 N a0.l) λy2=>bif (!y2)then some false else bnd (Qet N a0.g) λy3=>bif (!y3)then some false else bnd (Qet N a0.v) λy4=>bif (!y4)then some false else bnd (QdD N a0.g) λy5=>bnd (Qah N y5 0) λy6=>bif y6 then some false else bnd (Qgu N a0) λy7=>bnd (QdD N a0.v) λy8=>bnd (Qgt N [y7,y8]) λy9=>bnd (QdP N a0.h y9) λy10=>some y10
def Qac(N:Nat)(a0:List Wt):Option (List Wt):=some a0
def QbY(N:Nat)(a0:Wk)(y3:List Int×Int)(y4:List Int)(y5:List Wt):Nat->Int->(List Wt)->Option (List Wt)
 |0,_,_=>none
 |n+1,v6,v7=>
  bif (decide (v6<(y5.length:Int)))then(bnd (Xb v7 v6) λp8=>
   bif (p8.k==1)then(bif (decide (p8.P>0))then(bnd (Xb v7 v6) λp9=>
       QbY N a0 y3 y4 y5 n (wI (v6+1)) (v7.set v6.toNat (Wt.mk p9.k (wI (1-a0.s)) p9.u p9.P)))
    else QbY N a0 y3 y4 y5 n (wI (v6+1)) v7)
   else QbY N a0 y3 y4 y5 n (wI (v6+1)) v7)
  else some v7
def Qey(N:Nat)(a0:Wk):Option (WD×Int):=bnd (QbR N a0) λy1=>bif (!y1)then some ((WD.mk zHp [] [] [] 0 (WM.mk 0 0 0 0 0 0)),1)else bnd (QfL N a0) λy2=>bif (!y2)then some ((WD.mk zHp [] [] [] 0 (WM.mk 0 0 0 0 0 0)),19)else bnd (QdO N a0) λy3=>bif (y3.2 != 0)then some ((WD.mk zHp [] [] [] 0 (WM.mk 0 0 0 0 0 0)),y3.2)else bnd (Qad N a0.w) λy4=>bnd (Qac N a0.p) λy5=>grd (y5.length<=140737488355328) <| bnd (QbY N a0 y3 y4 y5 N 0 y5) λy10=>some ((WD.mk (Wk.mk a0.c y4 y10 a0.s a0.b) y3.1 [] [] 0 (WM.mk 0 0 0 0 0 0)),0)
def QeP(N:Nat)(a0:Int):Option (Int×Bool):=bnd (Qfa N a0 [2,32]) λy1=>bif (y1.2 != 0)then some (0,false)else bnd (Xb y1.1 0) λp2=>bif (p2 != 2)then some (0,false)else bnd (Xb y1.1 1) λp3=>some (p3,true)
def QbC(N:Nat)(a0:List Int)(a1:Int):Nat->Int->Option (Ex Int Unit)
 |0,_=>none
 |n+1,v1=>
  bif (decide (v1<(a0.length:Int)))then(bnd (Xb a0 v1) λp2=>
   bif (a1==p2)then some (.ret v1)
   else QbC N a0 a1 n (wI (v1+1)))
  else some (.nxt ())
def Qej(N:Nat)(a0:List Int)(a1:Int):Option Int:=bnd (QbC N a0 a1 N 0) λe=>exK e (λr=>some r) λy3=>some (-1)
def Qa6(N:Nat)(a0:List Int)(a1:Int):Option Bool:=bnd (Qej N a0 a1) λy1=>some (decide (y1>=0))
def QcZ(N:Nat)(a0:WD)(a1:Int):Option Bool:=jn (λ(x4:Bool)=>some x4) λj2=>bif (decide (a1<0))then j2 false else grd (a0.h.p.length<=140737488355328) <| bif (decide (a1>=(a0.h.p.length:Int)))then j2 false else bnd (Xb a0.h.p a1) λp1=>jn (λ(x3:Bool)=>j2 x3) λj1=>bif (p1.k==1)then(bif (p1.s==(wI (1-a0.h.s)))then(bnd (Qa6 N a0.t a1) λy2=>j1 (!y2))else j1 false)else j1 false
def Qdi(N:Nat)(a0:List Wt):Nat->Int->Int->Option Int
 |0,_,_=>none
 |n+1,v1,v2=>
  bif (decide (v2<(a0.length:Int)))then(bnd (Xb a0 v2) λp3=>
   bif (p3.k != 0)then Qdi N a0 n (wI (v1+1)) (wI (v2+1))
   else Qdi N a0 n v1 (wI (v2+1)))
  else some v1
def Qgx(N:Nat)(a0:List Wt):Option Int:=bnd (Qdi N a0 N 0 0) λy4=>some y4
def Qg2(N:Nat)(a0:List Wt)(a1:Int)(a2:List Wt):Option (List Wt×Int):=bif (decide (a1<0))then some ([],2)else bif (decide (a1>(wI ((a0.length:Int)-(a2.length:Int)))))then some ([],2)else grd (0<=a1/\a1<=(wI (a1+(a2.length:Int)))/\(wI (a1+(a2.length:Int)))<=(a0.length:Int)) <| bnd (Qgx N ((a0.drop a1.toNat).take ((wI (a1+(a2.length:Int))).toNat-a1.toNat))) λy1=>bif (decide (y1>0))then some ([],20)else bnd (Qac N a0) λy2=>grd (0<=a1/\a1<=(y2.length:Int)/\(y2.length:Int)<=(y2.length:Int)) <| grd (a2.length<=(y2.length-a1.toNat)) <| some ((((y2.take a1.toNat)++a2)++(y2.drop (a1.toNat+a2.length))),0)
def QdE(N:Nat)(a0:List Wt)(a1:Int)(a2:Int):Option (List Wt×Int):=bnd (QbX N (Wt.mk 1 a2 0 0)) λy1=>bif (!y1)then some ([],1)else bnd (Qg2 N a0 a1 [(Wt.mk 1 a2 0 0)]) λy2=>some (y2.1,y2.2)
def QcD(N:Nat)(a0:List Wt):Nat->Int->(List IY)->Option (List IY)
 |0,_,_=>none
 |n+1,v1,v2=>
  bif (decide (v1<(a0.length:Int)))then(bnd (Xb a0 v1) λp3=>
   grd (v2.length<=140737488355328) <|
   bif (p3.k != 0)then QcD N a0 n (wI (v1+1)) v2
   else jn (λ(_:Unit)=>
    grd ((v2.length+1)*16<=140737488355328) <|
    QcD N a0 n (wI (v1+1)) (v2++[(IY.mk v1 1)])) λj1=>
   bif (decide ((wI ((v2.length:Int)-1))>=0))then(bnd (Xb v2 (wI ((v2.length:Int)-1))) λp4=>
    bnd (Xb v2 (wI ((v2.length:Int)-1))) λp5=>
    bif ((wI (p4.O+p5.Len))==v1)then(bnd (Xb v2 (wI ((v2.length:Int)-1))) λp6=>
     bnd (Xb v2 (wI ((v2.length:Int)-1))) λp7=>
     QcD N a0 n (wI (v1+1)) (v2.set (wI ((v2.length:Int)-1)).toNat (IY.mk p7.O (wI (p6.Len+1)))))
    else j1 ())
   else j1 ())
  else some v2
def QhH(N:Nat)(a0:List Wt):Option (List IY):=bnd (QcD N a0 N 0 []) λy8=>some y8
def Qd3(N:Nat)(a1:Int)(y1:List IY):Nat->Int->Option (Ex Int Unit)
 |0,_=>none
 |n+1,v2=>
  bif (decide (v2<(y1.length:Int)))then(bnd (Xb y1 v2) λp3=>
   bif (decide (p3.Len>=a1))then some (.ret p3.O)
   else Qd3 N a1 y1 n (wI (v2+1)))
  else some (.nxt ())
def QdF(N:Nat)(a0:List Wt)(a1:Int):Option Int:=bif (decide (a1<1))then some (-1)else bnd (QhH N a0) λy1=>bnd (Qd3 N a1 y1 N 0) λe=>exK e (λr=>some r) λy4=>some (-1)
def Qcl(N:Nat)(a0:WD)(a1:Int):Option (Int×Int×Int×List Wt×List Int):=jn (λ(x7:Int) (x8:Int) (x9:Int) (x10:List Wt) (x11:List Int)=>some (x7,x8,x9,x10,x11)) λj2=>grd (a0.t.length<=140737488355328) <| jn (λ(_:Unit)=>bnd (QdF N a0.h.p 1) λy5=>bif (decide (y5<0))then j2 0 0 3 a0.h.p a0.t else bnd (QdE N a0.h.p y5 (wI (1-a0.h.s))) λy6=>bif (y6.2 != 0)then none else grd ((a0.t.length+1)*8<=140737488355328) <| j2 y5 0 0 y6.1 (a0.t++[y5])) λj1=>bif (decide ((a0.t.length:Int)>0))then(bnd (Xb a0.t (wI ((a0.t.length:Int)-1))) λp1=>bif (decide (p1>=0))then(bnd (Xb a0.t (wI ((a0.t.length:Int)-1))) λp2=>grd (a0.h.p.length<=140737488355328) <| bif (decide (p2<(a0.h.p.length:Int)))then(bnd (Xb a0.t (wI ((a0.t.length:Int)-1))) λp3=>bnd (Xb a0.h.p p3) λp4=>bif (decide (a1<=(wI (a0.h.c.W-p4.u))))then j2 p3 p4.u 0 a0.h.p a0.t else j1 ())else j1 ())else j1 ())else j1 ()
def QdQ(N:Nat)(a0:Int)(a1:Int):Option Bool:=bnd (QcY N a1) λy1=>some ((XbF .u64 a0 y1)==0)
def Qbg(N:Nat)(a0:List U2):Nat->Int->Int->Option (Ex (Int×Int) Unit)
 |0,_,_=>none
 |n+1,v1,v2=>
  bif (decide (v2<(a0.length:Int)))then(bnd (Xb a0 v2) λp3=>
   bif (decide (p3.Width<1))then some (.ret (0,1))
   else bif (decide (p3.Width>v1))then some (.ret (0,1))
   else Qbg N a0 n (wI (v1-p3.Width)) (wI (v2+1)))
  else some (.nxt ())
def Qbh(N:Nat)(a0:List U2):Nat->Int->Int->Int->Option (Ex (Int×Int) Int)
 |0,_,_,_=>none
 |n+1,v5,v6,v7=>
  bif (decide (v7<(a0.length:Int)))then(bnd (Xb a0 v7) λp8=>
   bnd (QdQ N p8.Value p8.Width) λy9=>
   bif (!y9)then some (.ret (0,2))
   else grd (0<=v6) <|
   Qbh N a0 n (bOr .u64 v5 (ZQ .u64 p8.Value v6)) (wI (v6+p8.Width)) (wI (v7+1)))
  else some (.nxt v5)
def Qgj(N:Nat)(a0:List U2):Option (Int×Int):=bnd (Qbg N a0 N 64 0) λe=>exK e (λr=>some r) λy4=>bnd (Qbh N a0 N 0 0 0) λe=>exK e (λr=>some r) λy10=>some (y10,0)
def QbT(N:Nat)(a0:Int):Option (Int×Int):=bnd (QcY N 32) λy1=>bif (decide (a0>y1))then some (0,1)else bnd (Qgj N [(U2.mk 2 2),(U2.mk 32 a0)]) λy2=>some (y2.1,y2.2)
def QbD(N:Nat)(a0:WD)(a1:Int):Nat->Int->(List Wt)->Option (List Wt)
 |0,_,_=>none
 |n+1,v12,v13=>
  grd (v13.length<=140737488355328) <|
  bif (decide (v12<(v13.length:Int)))then(bnd (Xb v13 v12) λp14=>
   bif (p14.k==3)then(bnd (Xb v13 v12) λp15=>
    QbD N a0 a1 n (wI (v12+1)) (v13.set v12.toNat (Wt.mk p15.k (wI (1-a0.h.s)) p15.u p15.P)))
   else some v13)
  else some v13
def QaW(N:Nat)(a0:WD)(a1:Int):Option (Int×Int×WD):=jn (λ(x40:Int) (x41:Int) (x42:Int) (x43:Int) (x44:List Int) (x45:List Wt) (x46:List Int) (x47:List Int)=>some (x40,x41,(WD.mk (Wk.mk a0.h.c x44 x45 a0.h.s a0.h.b) a0.o x46 x47 a0.d (WM.mk x42 x43 a0.r.F a0.r.E a0.r.f a0.r.y)))) λj2=>bif (a1==0)then j2 a1 0 a0.r.j a0.r.K a0.h.w a0.h.p a0.t a0.q else bnd (Qah N a0.q a1) λy1=>bif y1 then j2 a1 0 a0.r.j a0.r.K a0.h.w a0.h.p a0.t a0.q else bnd (Qah N a0.o a1) λy2=>bif (!y2)then j2 0 19 a0.r.j a0.r.K a0.h.w a0.h.p a0.t a0.q else bnd (Qch N a0.h.c a1) λy3=>bif (y3.2.2 != 0)then j2 0 19 a0.r.j a0.r.K a0.h.w a0.h.p a0.t a0.q else grd (a0.h.w.length<=140737488355328) <| bif (decide (1>(wI ((a0.h.w.length:Int)-(wI ((wI (y3.1*a0.h.c.W))+y3.2.1))))))then j2 0 19 a0.r.j a0.r.K a0.h.w a0.h.p a0.t a0.q else grd (0<=(wI ((wI (y3.1*a0.h.c.W))+y3.2.1))/\(wI ((wI (y3.1*a0.h.c.W))+y3.2.1))<=(wI ((wI ((wI (y3.1*a0.h.c.W))+y3.2.1))+1))/\(wI ((wI ((wI (y3.1*a0.h.c.W))+y3.2.1))+1))<=(a0.h.w.length:Int)) <| bnd (Km a0.h.w ((wI ((wI (y3.1*a0.h.c.W))+y3.2.1)).toNat) ((wI ((wI ((wI (y3.1*a0.h.c.W))+y3.2.1))+1)).toNat-(wI ((wI (y3.1*a0.h.c.W))+y3.2.1)).toNat) 0) λp6=>bnd (QeP N p6) λy7=>bif y7.2 then j2 y7.1 0 a0.r.j a0.r.K a0.h.w a0.h.p a0.t a0.q else bnd (Qch N a0.h.c a1) λy8=>grd (a0.h.p.length<=140737488355328) <| bif (decide (y8.1>=(a0.h.p.length:Int)))then j2 0 19 a0.r.j a0.r.K a0.h.w a0.h.p a0.t a0.q else bnd (QcZ N a0 y8.1) λy9=>bif y9 then(grd ((a0.q.length+1)*8<=140737488355328) <| j2 a1 0 a0.r.j (wI (a0.r.K+1)) a0.h.w a0.h.p a0.t (a0.q++[a1]))else bnd (Xb a0.h.p y8.1) λp10=>bif (p10.k==2)then(bnd (Xb a0.h.p y8.1) λp11=>bnd (QbD N a0 a1 N (wI (y8.1+1)) (a0.h.p.set y8.1.toNat (Wt.mk p11.k (wI (1-a0.h.s)) p11.u p11.P))) λy16=>grd ((a0.q.length+1)*8<=140737488355328) <| j2 a1 0 a0.r.j (wI (a0.r.K+1)) a0.h.w y16 a0.t (a0.q++[a1]))else bnd (Km a0.h.w ((wI ((wI (y3.1*a0.h.c.W))+y3.2.1)).toNat) ((wI ((wI ((wI (y3.1*a0.h.c.W))+y3.2.1))+1)).toNat-(wI ((wI (y3.1*a0.h.c.W))+y3.2.1)).toNat) 0) λp17=>bnd (Qd1 N p17) λy18=>bnd (Qbj N y18.1) λy19=>bnd (Qch N a0.h.c a1) λy20=>bif (y20.2.2 != 0)then(bif (!y18.2)then j2 0 19 a0.r.j a0.r.K a0.h.w a0.h.p a0.t a0.q else j2 0 19 a0.r.j a0.r.K a0.h.w a0.h.p a0.t a0.q)else grd (a0.h.w.length<=140737488355328) <| bif (decide (y19>(wI ((a0.h.w.length:Int)-(wI ((wI (y20.1*a0.h.c.W))+y20.2.1))))))then(bif (!y18.2)then j2 0 19 a0.r.j a0.r.K a0.h.w a0.h.p a0.t a0.q else j2 0 19 a0.r.j a0.r.K a0.h.w a0.h.p a0.t a0.q)else grd (0<=(wI ((wI (y20.1*a0.h.c.W))+y20.2.1))/\(wI ((wI (y20.1*a0.h.c.W))+y20.2.1))<=(wI ((wI ((wI (y20.1*a0.h.c.W))+y20.2.1))+y19))/\(wI ((wI ((wI (y20.1*a0.h.c.W))+y20.2.1))+y19))<=(a0.h.w.length:Int)) <| bif (!y18.2)then j2 0 19 a0.r.j a0.r.K a0.h.w a0.h.p a0.t a0.q else grd (((wI ((wI ((wI (y20.1*a0.h.c.W))+y20.2.1))+y19)).toNat-(wI ((wI (y20.1*a0.h.c.W))+y20.2.1)).toNat)<=140737488355328) <| bnd (Qcl N a0 ((((wI ((wI ((wI (y20.1*a0.h.c.W))+y20.2.1))+y19)).toNat-(wI ((wI (y20.1*a0.h.c.W))+y20.2.1)).toNat):Nat):Int)) λy23=>bif (y23.2.2.1 != 0)then j2 0 y23.2.2.1 a0.r.j a0.r.K a0.h.w y23.2.2.2.1 y23.2.2.2.2 a0.q else jn (λ(x34:Int) (x35:Int) (x36:Int) (x37:List Int) (x38:List Wt) (x39:List Int)=>j2 x34 x35 x36 a0.r.K x37 x38 y23.2.2.2.2 x39) λj1=>bnd (Qdb N a0.h.c y23.1 y23.2.1) λy24=>bif (y24.2 != 0)then j1 0 y24.2 a0.r.j a0.h.w y23.2.2.2.1 a0.q else grd (((wI ((wI ((wI (y20.1*a0.h.c.W))+y20.2.1))+y19)).toNat-(wI ((wI (y20.1*a0.h.c.W))+y20.2.1)).toNat)<=140737488355328) <| bnd (Qch N a0.h.c y24.1) λy25=>bif (y25.2.2 != 0)then(bnd (QbT N y24.1) λy28=>j1 0 19 a0.r.j a0.h.w y23.2.2.2.1 a0.q)else grd (a0.h.w.length<=140737488355328) <| bif (decide (((((wI ((wI ((wI (y20.1*a0.h.c.W))+y20.2.1))+y19)).toNat-(wI ((wI (y20.1*a0.h.c.W))+y20.2.1)).toNat):Nat):Int)>(wI ((a0.h.w.length:Int)-(wI ((wI (y25.1*a0.h.c.W))+y25.2.1))))))then(bnd (QbT N y24.1) λy29=>j1 0 19 a0.r.j a0.h.w y23.2.2.2.1 a0.q)else grd (0<=(wI ((wI (y25.1*a0.h.c.W))+y25.2.1))/\(wI ((wI (y25.1*a0.h.c.W))+y25.2.1))<=(wI ((wI ((wI (y25.1*a0.h.c.W))+y25.2.1))+((((wI ((wI ((wI (y20.1*a0.h.c.W))+y20.2.1))+y19)).toNat-(wI ((wI (y20.1*a0.h.c.W))+y20.2.1)).toNat):Nat):Int)))/\(wI ((wI ((wI (y25.1*a0.h.c.W))+y25.2.1))+((((wI ((wI ((wI (y20.1*a0.h.c.W))+y20.2.1))+y19)).toNat-(wI ((wI (y20.1*a0.h.c.W))+y20.2.1)).toNat):Nat):Int)))<=(a0.h.w.length:Int)) <| bnd (QbT N y24.1) λy30=>bif (y30.2 != 0)then j1 0 19 a0.r.j a0.h.w y23.2.2.2.1 a0.q else grd (((wI ((wI ((wI (y20.1*a0.h.c.W))+y20.2.1))+y19)).toNat-(wI ((wI (y20.1*a0.h.c.W))+y20.2.1)).toNat)<=((wI ((wI ((wI (y25.1*a0.h.c.W))+y25.2.1))+((((wI ((wI ((wI (y20.1*a0.h.c.W))+y20.2.1))+y19)).toNat-(wI ((wI (y20.1*a0.h.c.W))+y20.2.1)).toNat):Nat):Int))).toNat-(wI ((wI (y25.1*a0.h.c.W))+y25.2.1)).toNat)) <| bnd (Km (((a0.h.w.take (wI ((wI (y25.1*a0.h.c.W))+y25.2.1)).toNat)++((a0.h.w.drop (wI ((wI (y20.1*a0.h.c.W))+y20.2.1)).toNat).take ((wI ((wI ((wI (y20.1*a0.h.c.W))+y20.2.1))+y19)).toNat-(wI ((wI (y20.1*a0.h.c.W))+y20.2.1)).toNat)))++(a0.h.w.drop ((wI ((wI (y25.1*a0.h.c.W))+y25.2.1)).toNat+((wI ((wI ((wI (y20.1*a0.h.c.W))+y20.2.1))+y19)).toNat-(wI ((wI (y20.1*a0.h.c.W))+y20.2.1)).toNat)))) ((wI ((wI (y20.1*a0.h.c.W))+y20.2.1)).toNat) ((wI ((wI ((wI (y20.1*a0.h.c.W))+y20.2.1))+y19)).toNat-(wI ((wI (y20.1*a0.h.c.W))+y20.2.1)).toNat) 0) λp31=>bnd (Xb y23.2.2.2.1 y23.1) λp32=>grd (((wI ((wI ((wI (y20.1*a0.h.c.W))+y20.2.1))+y19)).toNat-(wI ((wI (y20.1*a0.h.c.W))+y20.2.1)).toNat)<=140737488355328) <| bnd (Xb y23.2.2.2.1 y23.1) λp33=>grd ((a0.q.length+1)*8<=140737488355328) <| j1 y24.1 0 (wI (a0.r.j+1)) ((((a0.h.w.take (wI ((wI (y25.1*a0.h.c.W))+y25.2.1)).toNat)++((a0.h.w.drop (wI ((wI (y20.1*a0.h.c.W))+y20.2.1)).toNat).take ((wI ((wI ((wI (y20.1*a0.h.c.W))+y20.2.1))+y19)).toNat-(wI ((wI (y20.1*a0.h.c.W))+y20.2.1)).toNat)))++(a0.h.w.drop ((wI ((wI (y25.1*a0.h.c.W))+y25.2.1)).toNat+((wI ((wI ((wI (y20.1*a0.h.c.W))+y20.2.1))+y19)).toNat-(wI ((wI (y20.1*a0.h.c.W))+y20.2.1)).toNat)))).set (wI ((wI (y20.1*a0.h.c.W))+y20.2.1)).toNat y30.1) (y23.2.2.2.1.set y23.1.toNat (Wt.mk p33.k p33.s (wI (p32.u+((((wI ((wI ((wI (y20.1*a0.h.c.W))+y20.2.1))+y19)).toNat-(wI ((wI (y20.1*a0.h.c.W))+y20.2.1)).toNat):Nat):Int))) p33.P)) (a0.q++[y24.1])
def QaD(N:Nat)(a0:List Int):Option (List Int):=some a0
def Qd4(N:Nat)(a1:List Int):Nat->Int->Int->Int->Int->Int->Int->Int->Int->Int->Int->Int->Int->(List Int)->(List Wt)->(List Int)->(List Int)->(List Int)->(List Int)->Option (Ex (WD×List Int×Int) (Int×Int×Int×Int×Int×Int×Int×Int×Int×Int×Int×List Int×List Wt×List Int×List Int×List Int×List Int))
 |0,_,_,_,_,_,_,_,_,_,_,_,_,_,_,_,_,_,_=>none
 |n+1,v6,v7,v8,v9,v10,v11,v12,v13,v14,v15,v16,v17,v18,v19,v20,v21,v22,v23=>
  bif (decide (v6<(a1.length:Int)))then(bnd (Xb a1 v6) λp24=>
   bnd (QaW N (WD.mk (Wk.mk (WT.mk v7 v8) v18 v19 v9 v10) v20 v21 v22 v11 (WM.mk v12 v13 v14 v15 v16 v17)) p24) λy25=>
   bif (y25.2.1 != 0)then some (.ret ((WD.mk zHp [] [] [] 0 (WM.mk 0 0 0 0 0 0)),[],y25.2.1))
   else grd ((v23.length+1)*8<=140737488355328) <|
   Qd4 N a1 n (wI (v6+1)) y25.2.2.h.c.W y25.2.2.h.c.p y25.2.2.h.s y25.2.2.h.b y25.2.2.d y25.2.2.r.j y25.2.2.r.K y25.2.2.r.F y25.2.2.r.E y25.2.2.r.f y25.2.2.r.y y25.2.2.h.w y25.2.2.h.p y25.2.2.o y25.2.2.t y25.2.2.q (v23++[y25.1]))
  else some (.nxt (v7,v8,v9,v10,v11,v12,v13,v14,v15,v16,v17,v18,v19,v20,v21,v22,v23))
def QfM(N:Nat)(a0:WD)(a1:List Int):Option (WD×List Int×Int):=bnd (Qad N a0.h.w) λy1=>bnd (Qac N a0.h.p) λy2=>bnd (Qad N a0.o) λy3=>bnd (QaD N a0.t) λy4=>bnd (Qad N a0.q) λy5=>bnd (Qd4 N a1 N 0 a0.h.c.W a0.h.c.p a0.h.s a0.h.b a0.d a0.r.j a0.r.K a0.r.F a0.r.E a0.r.f a0.r.y y1 y2 y3 y4 y5 []) λe=>exK e (λr=>some r) λy26=>some ((WD.mk (Wk.mk (WT.mk y26.1 y26.2.1) y26.2.2.2.2.2.2.2.2.2.2.2.1 y26.2.2.2.2.2.2.2.2.2.2.2.2.1 y26.2.2.1 y26.2.2.2.1) y26.2.2.2.2.2.2.2.2.2.2.2.2.2.1 y26.2.2.2.2.2.2.2.2.2.2.2.2.2.2.1 y26.2.2.2.2.2.2.2.2.2.2.2.2.2.2.2.1 y26.2.2.2.2.1 (WM.mk y26.2.2.2.2.2.1 y26.2.2.2.2.2.2.1 y26.2.2.2.2.2.2.2.1 y26.2.2.2.2.2.2.2.2.1 y26.2.2.2.2.2.2.2.2.2.1 y26.2.2.2.2.2.2.2.2.2.2.1)),y26.2.2.2.2.2.2.2.2.2.2.2.2.2.2.2.2,0)
def Qfc(N:Nat)(v6:Int)(y28:Int)(y29:Int×Int×Int)(y32:List Int):Nat->Int->Int->Int->Int->Int->Int->Int->Int->Int->Int->Int->Int->(List Int)->(List Wt)->(List Int)->(List Int)->(List Int)->Option (Ex (Int×Int×Int×Int×Int×Int×Int×Int×Int×Int×Int×Int×List Int×List Wt×List Int×List Int×List Int) (Int×Int×Int×Int×Int×Int×Int×Int×Int×Int×Int×List Int×List Wt×List Int×List Int×List Int))
 |0,_,_,_,_,_,_,_,_,_,_,_,_,_,_,_,_,_=>none
 |n+1,v33,v34,v35,v36,v37,v38,v39,v40,v41,v42,v43,v44,v45,v46,v47,v48,v49=>
  bif (decide (v33<(y32.length:Int)))then(bnd (Xb y32 v33) λp50=>
   bnd (Km v45 ((wI ((wI (y29.1*v6))+y29.2.1)).toNat) ((wI ((wI ((wI (y29.1*v6))+y29.2.1))+y28)).toNat-(wI ((wI (y29.1*v6))+y29.2.1)).toNat) (wI (1+p50))) λp51=>
   bnd (QaW N (WD.mk (Wk.mk (WT.mk v34 v35) v45 v46 v36 v37) v47 v48 v49 v38 (WM.mk v39 v40 v41 v42 v43 v44)) p51) λy52=>
   bif (y52.2.1 != 0)then some (.ret (y52.2.1,y52.2.2.h.c.W,y52.2.2.h.c.p,y52.2.2.h.s,y52.2.2.h.b,y52.2.2.d,y52.2.2.r.j,y52.2.2.r.K,y52.2.2.r.F,y52.2.2.r.E,y52.2.2.r.f,y52.2.2.r.y,y52.2.2.h.w,y52.2.2.h.p,y52.2.2.o,y52.2.2.t,y52.2.2.q))
   else bnd (Km y52.2.2.h.w ((wI ((wI (y29.1*v6))+y29.2.1)).toNat) ((wI ((wI ((wI (y29.1*v6))+y29.2.1))+y28)).toNat-(wI ((wI (y29.1*v6))+y29.2.1)).toNat) (wI (1+p50))) λp53=>
   Qfc N v6 y28 y29 y32 n (wI (v33+1)) y52.2.2.h.c.W y52.2.2.h.c.p y52.2.2.h.s y52.2.2.h.b y52.2.2.d y52.2.2.r.j y52.2.2.r.K y52.2.2.r.F y52.2.2.r.E y52.2.2.r.f y52.2.2.r.y (y52.2.2.h.w.set ((wI ((wI (y29.1*v6))+y29.2.1)).toNat+(wI (1+p50)).toNat) y52.1) y52.2.2.h.p y52.2.2.o y52.2.2.t y52.2.2.q)
  else some (.nxt (v34,v35,v36,v37,v38,v39,v40,v41,v42,v43,v44,v45,v46,v47,v48,v49))
def Qfd(N:Nat):Nat->Int->Int->Int->Int->Int->Int->Int->Int->Int->Int->Int->(List Int)->(List Wt)->(List Int)->(List Int)->(List Int)->Option (WD×Int)
 |0,_,_,_,_,_,_,_,_,_,_,_,_,_,_,_,_=>none
 |n+1,v6,v7,v8,v9,v10,v11,v12,v13,v14,v15,v16,v17,v18,v19,v20,v21=>
  jn (λ(x56:Bool) (x57:Int) (x58:Int) (x59:Int) (x60:Int) (x61:Int) (x62:Int) (x63:Int) (x64:Int) (x65:Int) (x66:Int) (x67:Int) (x68:Int) (x69:List Int) (x70:List Wt) (x71:List Int) (x72:List Int) (x73:List Int)=>
   bif (x57 != 0)then some ((WD.mk zHp [] [] [] 0 (WM.mk 0 0 0 0 0 0)),x57)
   else bif (!x56)then some ((WD.mk (Wk.mk (WT.mk x58 x59) x69 x70 x60 x61) x71 x72 x73 x62 (WM.mk x63 x64 x65 x66 x67 x68)),0)
   else Qfd N n x58 x59 x60 x61 x62 x63 x64 x65 x66 x67 x68 x69 x70 x71 x72 x73) λj1=>
  bif (decide (v10<0))then j1 false 0 v6 v7 v8 v9 v10 v11 v12 v13 v14 v15 v16 v17 v18 v19 v20 v21
  else grd (v21.length<=140737488355328) <|
  bif (decide (v10>=(v21.length:Int)))then j1 false 0 v6 v7 v8 v9 v10 v11 v12 v13 v14 v15 v16 v17 v18 v19 v20 v21
  else bnd (Xb v21 v10) λp22=>
  bnd (Qch N (WT.mk v6 v7) p22) λy23=>
  bif (y23.2.2 != 0)then j1 false 19 v6 v7 v8 v9 v10 v11 v12 v13 v14 v15 v16 v17 v18 v19 v20 v21
  else grd (v17.length<=140737488355328) <|
  bif (decide (1>(wI ((v17.length:Int)-(wI ((wI (y23.1*v6))+y23.2.1))))))then j1 false 19 v6 v7 v8 v9 v10 v11 v12 v13 v14 v15 v16 v17 v18 v19 v20 v21
  else grd (0<=(wI ((wI (y23.1*v6))+y23.2.1))/\(wI ((wI (y23.1*v6))+y23.2.1))<=(wI ((wI ((wI (y23.1*v6))+y23.2.1))+1))/\(wI ((wI ((wI (y23.1*v6))+y23.2.1))+1))<=(v17.length:Int)) <|
  bnd (Km v17 ((wI ((wI (y23.1*v6))+y23.2.1)).toNat) ((wI ((wI ((wI (y23.1*v6))+y23.2.1))+1)).toNat-(wI ((wI (y23.1*v6))+y23.2.1)).toNat) 0) λp26=>
  bnd (Qd1 N p26) λy27=>
  bnd (Qbj N y27.1) λy28=>
  bnd (Qch N (WT.mk v6 v7) p22) λy29=>
  bif (y29.2.2 != 0)then(bif (!y27.2)then j1 false 19 v6 v7 v8 v9 v10 v11 v12 v13 v14 v15 v16 v17 v18 v19 v20 v21
   else j1 false 19 v6 v7 v8 v9 v10 v11 v12 v13 v14 v15 v16 v17 v18 v19 v20 v21)
  else grd (v17.length<=140737488355328) <|
  bif (decide (y28>(wI ((v17.length:Int)-(wI ((wI (y29.1*v6))+y29.2.1))))))then(bif (!y27.2)then j1 false 19 v6 v7 v8 v9 v10 v11 v12 v13 v14 v15 v16 v17 v18 v19 v20 v21
   else j1 false 19 v6 v7 v8 v9 v10 v11 v12 v13 v14 v15 v16 v17 v18 v19 v20 v21)
  else grd (0<=(wI ((wI (y29.1*v6))+y29.2.1))/\(wI ((wI (y29.1*v6))+y29.2.1))<=(wI ((wI ((wI (y29.1*v6))+y29.2.1))+y28))/\(wI ((wI ((wI (y29.1*v6))+y29.2.1))+y28))<=(v17.length:Int)) <|
  bif (!y27.2)then j1 false 19 v6 v7 v8 v9 v10 v11 v12 v13 v14 v15 v16 v17 v18 v19 v20 v21
  else bnd (QdR N y27.1) λy32=>
  bnd (Qfc N v6 y28 y29 y32 N 0 v6 v7 v8 v9 v10 v11 v12 v13 v14 v15 v16 v17 v18 v19 v20 v21) λe=>exK e (λy54=>j1 false y54.1 y54.2.1 y54.2.2.1 y54.2.2.2.1 y54.2.2.2.2.1 y54.2.2.2.2.2.1 y54.2.2.2.2.2.2.1 y54.2.2.2.2.2.2.2.1 y54.2.2.2.2.2.2.2.2.1 y54.2.2.2.2.2.2.2.2.2.1 y54.2.2.2.2.2.2.2.2.2.2.1 y54.2.2.2.2.2.2.2.2.2.2.2.1 y54.2.2.2.2.2.2.2.2.2.2.2.2.1 y54.2.2.2.2.2.2.2.2.2.2.2.2.2.1 y54.2.2.2.2.2.2.2.2.2.2.2.2.2.2.1 y54.2.2.2.2.2.2.2.2.2.2.2.2.2.2.2.1 y54.2.2.2.2.2.2.2.2.2.2.2.2.2.2.2.2) λy55=>
  j1 true 0 y55.1 y55.2.1 y55.2.2.1 y55.2.2.2.1 (wI (y55.2.2.2.2.1+1)) y55.2.2.2.2.2.1 y55.2.2.2.2.2.2.1 y55.2.2.2.2.2.2.2.1 y55.2.2.2.2.2.2.2.2.1 y55.2.2.2.2.2.2.2.2.2.1 (wI (y55.2.2.2.2.2.2.2.2.2.2.1+(wI (1+(y32.length:Int))))) y55.2.2.2.2.2.2.2.2.2.2.2.1 y55.2.2.2.2.2.2.2.2.2.2.2.2.1 y55.2.2.2.2.2.2.2.2.2.2.2.2.2.1 y55.2.2.2.2.2.2.2.2.2.2.2.2.2.2.1 y55.2.2.2.2.2.2.2.2.2.2.2.2.2.2.2
def Qgk(N:Nat)(a0:WD):Option (WD×Int):=bnd (Qad N a0.h.w) λy1=>bnd (Qac N a0.h.p) λy2=>bnd (Qad N a0.o) λy3=>bnd (QaD N a0.t) λy4=>bnd (Qad N a0.q) λy5=>bnd (Qfd N N a0.h.c.W a0.h.c.p a0.h.s a0.h.b a0.d a0.r.j a0.r.K a0.r.F a0.r.E a0.r.f a0.r.y y1 y2 y3 y4 y5) λr=>some r
def Qaj(N:Nat)(a0:Int):Option Unit:=bif (a0 != 0)then none else some ()
def QfX(N:Nat)(a0:WD)(a1:Int):Option Int:=bnd (Qah N a0.q a1) λy1=>bif y1 then some a1 else bnd (Qch N a0.h.c a1) λy2=>bnd (Qaj N y2.2.2) λy3=>bnd (Xb a0.h.w (wI ((wI (y2.1*a0.h.c.W))+y2.2.1))) λp4=>bnd (QeP N p4) λy5=>some y5.1
def Qcp(N:Nat)(a0:WD)(a1:List Int):Nat->Int->Int->(List Int)->Option (List Int×Int)
 |0,_,_,_=>none
 |n+1,v1,v2,v3=>
  bif (decide (v1<(a1.length:Int)))then(bnd (Xb a1 v1) λp4=>
   jn (λ(x7:Int) (x8:Int)=>
    grd ((v3.length+1)*8<=140737488355328) <|
    Qcp N a0 a1 n (wI (v1+1)) x8 (v3++[x7])) λj2=>
   bif (p4 != 0)then(bnd (QfX N (WD.mk a0.h a0.o a0.t a0.q a0.d (WM.mk a0.r.j a0.r.K a0.r.F a0.r.E v2 a0.r.y)) p4) λy5=>
    jn (λ(x6:Int)=>
     j2 y5 x6) λj1=>
    bif (y5==0)then j1 (wI (v2+1))
    else j1 v2)
   else j2 0 v2)
  else some (v3,v2)
def Qdu(N:Nat)(a0:WD)(a1:List Int):Option (List Int×WD):=bnd (Qcp N a0 a1 N 0 a0.r.f []) λy9=>some (y9.1,(WD.mk a0.h a0.o a0.t a0.q a0.d (WM.mk a0.r.j a0.r.K a0.r.F a0.r.E y9.2 a0.r.y)))
def Qeg(N:Nat)(a0:WD)(a1:Int):Option Bool:=jn (λ(x4:Bool)=>some x4) λj2=>bif (decide (a1<0))then j2 false else bif (decide (a1>=(a0.h.p.length:Int)))then j2 false else bnd (Xb a0.h.p a1) λp1=>jn (λ(x3:Bool)=>j2 x3) λj1=>bif (p1.k==1)then(bif (p1.s==(wI (1-a0.h.s)))then(bnd (Qa6 N a0.t a1) λy2=>j1 (!y2))else j1 false)else j1 false
def QfY(N:Nat)(a0:Wy):Option (Int×Int):=bnd (Qda N a0) λy1=>bif (!y1)then some (0,1)else bnd (Qgj N [(U2.mk 2 1),(U2.mk 2 (wU a0.k)),(U2.mk 12 (wU a0.n)),(U2.mk 32 (wU a0.Map))]) λy2=>some (y2.1,y2.2)
def QgO(N:Nat)(a0:List Int)(a1:Int)(a2:List Int):Option (List Int×Int):=bnd (Qfb N a0 a1 (a2.length:Int)) λy1=>bif (!y1.2)then some ([],2)else bnd (Qad N a0) λy2=>grd (0<=y1.1/\y1.1<=(y2.length:Int)/\(y2.length:Int)<=(y2.length:Int)) <| grd (a2.length<=(y2.length-y1.1.toNat)) <| some ((((y2.take y1.1.toNat)++a2)++(y2.drop (y1.1.toNat+a2.length))),0)
def Qgy(N:Nat)(a0:Wk)(a1:List Int)(a2:Int):Option (Wk×Int):=bif (a2 != 0)then some (zHp,a2)else bnd (Qac N a0.p) λy1=>some ((Wk.mk a0.c a1 y1 a0.s a0.b),0)
def Qfe(N:Nat)(a0:Wk)(a1:Int)(a2:Wy):Option (Wk×Int):=bnd (QfY N a2) λy1=>bif (y1.2 != 0)then some (zHp,1)else bnd (QbR N a0) λy2=>bif (!y2)then some (zHp,1)else bnd (Qbj N a2) λy3=>grd (0<=y3/\y3.toNat*8<=140737488355328) <| bnd (Xb (List.replicate y3.toNat (0:Int)) 0) λp4=>bnd (QgO N a0.w a1 ((List.replicate y3.toNat (0:Int)).set 0 y1.1)) λy5=>bnd (Qgy N a0 y5.1 y5.2) λy6=>some (y6.1,y6.2)
def Qif(N:Nat)(a0:Wk)(a1:Int)(a2:Int):Option (Wk×Int):=bif (decide (a2<1))then some (zHp,1)else bif (decide (a2>256))then some (zHp,1)else bnd (Qfe N a0 a1 (Wy.mk 0 (wI (a2-1)) 0)) λy1=>some (y1.1,y1.2)
def Qcn(N:Nat)(a0:WD)(y10:List Int×Int)(v1:Int):Nat->Int->Int->Int->(List Int)->(List Wt)->Int->Int->Int->Option (Int×Int×List Int×List Wt×Int×Int×Int)
 |0,_,_,_,_,_,_,_,_=>none
 |n+1,v12,v13,v14,v15,v16,v17,v18,v19=>
  bif (decide (v12<(y10.1.length:Int)))then(bnd (Xb y10.1 v12) λp20=>
   bnd (Qeu N (Wk.mk (WT.mk v13 v14) v15 v16 v17 v18) p20) λy21=>
   bnd (Qaj N y21.2) λy22=>
   bif (y21.1.k==0)then Qcn N a0 y10 v1 n (wI (v12+1)) v13 v14 v15 v16 v17 v18 v19
   else bnd (Qah N a0.q p20) λy23=>
   bif y23 then Qcn N a0 y10 v1 n (wI (v12+1)) v13 v14 v15 v16 v17 v18 v19
   else bnd (Qbj N y21.1) λy24=>
   bnd (Qif N (Wk.mk (WT.mk v13 v14) v15 v16 v17 v18) p20 y24) λy25=>
   bnd (Qaj N y25.2) λy26=>
   Qcn N a0 y10 v1 n (wI (v12+1)) y25.1.c.W y25.1.c.p y25.1.w y25.1.p y25.1.s y25.1.b (wI (v19+1)))
  else some (v13,v14,v15,v16,v17,v18,v19)
def Qdc(N:Nat)(a0:WD):Nat->Int->Int->Int->(List Int)->(List Wt)->Int->Int->Int->Option (Int×Int×List Int×List Wt×Int×Int×Int)
 |0,_,_,_,_,_,_,_,_=>none
 |n+1,v1,v2,v3,v4,v5,v6,v7,v8=>
  bif (decide (v1<(a0.h.p.length:Int)))then(bnd (Qeg N (WD.mk (Wk.mk (WT.mk v2 v3) v4 v5 v6 v7) a0.o a0.t a0.q a0.d (WM.mk a0.r.j a0.r.K v8 a0.r.E a0.r.f a0.r.y)) v1) λy9=>
   bif (!y9)then Qdc N a0 n (wI (v1+1)) v2 v3 v4 v5 v6 v7 v8
   else bnd (Qe2 N (Wk.mk (WT.mk v2 v3) v4 v5 v6 v7) v1) λy10=>
   bnd (Qaj N y10.2) λy11=>
   bnd (Qcn N a0 y10 v1 N 0 v2 v3 v4 v5 v6 v7 v8) λy27=>
   Qdc N a0 n (wI (v1+1)) y27.1 y27.2.1 y27.2.2.1 y27.2.2.2.1 y27.2.2.2.2.1 y27.2.2.2.2.2.1 y27.2.2.2.2.2.2)
  else some (v2,v3,v4,v5,v6,v7,v8)
def QeF(N:Nat)(a0:WD):Option WD:=bnd (Qdc N a0 N 0 a0.h.c.W a0.h.c.p a0.h.w a0.h.p a0.h.s a0.h.b a0.r.F) λy28=>some (WD.mk (Wk.mk (WT.mk y28.1 y28.2.1) y28.2.2.1 y28.2.2.2.1 y28.2.2.2.2.1 y28.2.2.2.2.2.1) a0.o a0.t a0.q a0.d (WM.mk a0.r.j a0.r.K y28.2.2.2.2.2.2 a0.r.E a0.r.f a0.r.y))
def QeG(N:Nat)(p1:Wt):Nat->Int->(List Wt)->Option (List Wt)
 |0,_,_=>none
 |n+1,v4,v5=>
  bif (p1.k==2)then(grd (v5.length<=140737488355328) <|
   bif (decide (v4<(v5.length:Int)))then(bnd (Xb v5 v4) λp6=>
    bif (p6.k==3)then(bnd (Xb v5 v4) λp7=>
     QeG N p1 n (wI (v4+1)) (v5.set v4.toNat (Wt.mk 0 0 0 0)))
    else some v5)
   else some v5)
  else some v5
def Qig(N:Nat)(a0:List Wt)(a1:Int):Option (List Wt×Int):=bif (decide (a1<0))then some ([],2)else bif (decide (a1>=(a0.length:Int)))then some ([],2)else bnd (Xb a0 a1) λp1=>jn (λ(_:Unit)=>bnd (Qac N a0) λy2=>bnd (Xb y2 a1) λp3=>bnd (QeG N p1 N (wI (a1+1)) (y2.set a1.toNat (Wt.mk 0 0 0 0))) λy8=>some (y8,0)) λj1=>bif (p1.k != 1)then(bif (p1.k != 2)then some ([],20)else j1 ())else j1 ()
def QbB(N:Nat)(a0:WD):Nat->Int->(List Wt)->Int->(List Int)->Option (List Int×List Wt×Int)
 |0,_,_,_,_=>none
 |n+1,v2,v3,v4,v5=>
  bif (decide (v2<(a0.h.p.length:Int)))then(bnd (Xb a0.h.p v2) λp6=>
   bif (p6.k==0)then QbB N a0 n (wI (v2+1)) v3 v4 v5
   else bif (p6.s != a0.h.s)then QbB N a0 n (wI (v2+1)) v3 v4 v5
   else grd (0<=(wI (v2*a0.h.c.W))/\(wI (v2*a0.h.c.W))<=(wI ((wI (v2+1))*a0.h.c.W))/\(wI ((wI (v2+1))*a0.h.c.W))<=(v5.length:Int)) <|
   bif (p6.k != 3)then(bnd (Qig N v3 v2) λy7=>
    bnd (Qaj N y7.2) λy8=>
    QbB N a0 n (wI (v2+1)) y7.1 (wI (v4+1)) (((v5.take (wI (v2*a0.h.c.W)).toNat)++(List.replicate ((wI ((wI (v2+1))*a0.h.c.W)).toNat-(wI (v2*a0.h.c.W)).toNat) (0:Int)))++(v5.drop ((wI (v2*a0.h.c.W)).toNat+((wI ((wI (v2+1))*a0.h.c.W)).toNat-(wI (v2*a0.h.c.W)).toNat)))))
   else QbB N a0 n (wI (v2+1)) v3 (wI (v4+1)) (((v5.take (wI (v2*a0.h.c.W)).toNat)++(List.replicate ((wI ((wI (v2+1))*a0.h.c.W)).toNat-(wI (v2*a0.h.c.W)).toNat) (0:Int)))++(v5.drop ((wI (v2*a0.h.c.W)).toNat+((wI ((wI (v2+1))*a0.h.c.W)).toNat-(wI (v2*a0.h.c.W)).toNat)))))
  else some (v5,v3,v4)
def QeH(N:Nat)(a0:WD):Option WD:=bnd (Qad N a0.h.w) λy1=>bnd (QbB N a0 N 0 a0.h.p a0.r.E y1) λy9=>some (WD.mk (Wk.mk a0.h.c y9.1 y9.2.1 a0.h.s a0.h.b) a0.o a0.t a0.q a0.d (WM.mk a0.r.j a0.r.K a0.r.F y9.2.2 a0.r.f a0.r.y))
def QdS(N:Nat)(a0:Wk)(a1:List Int)(a2:List Int):Option (Wk×List Int×List Int×WM×Int):=bnd (Qey N a0) λy1=>bif (y1.2==0)then(bnd (QaK N [a1,a2]) λy2=>bnd (QdP N a0 y2) λy3=>bif y3 then(bnd (QfM N y1.1 a1) λy4=>bif (y4.2.2==0)then(bnd (Qgk N y4.1) λy5=>bif (y5.2==0)then(bnd (Qdu N y5.1 a2) λy6=>bnd (QeF N y6.2) λy7=>bnd (QeH N y7) λy8=>grd (y8.t.length<=140737488355328) <| jn (λ(x9:Int)=>some ((Wk.mk y8.h.c y8.h.w y8.h.p (wI (1-y8.h.s)) x9),y4.2.1,y6.1,y8.r,0)) λj1=>bif (decide ((y8.t.length:Int)>0))then(bnd (Xb y8.t (wI ((y8.t.length:Int)-1))) λp10=>j1 p10)else j1 (-1))else some (zHp,[],[],(WM.mk 0 0 0 0 0 0),y5.2))else some (zHp,[],[],(WM.mk 0 0 0 0 0 0),y4.2.2))else none)else none
def QgP(N:Nat)(a0:Wk):Option Wk:=bnd (Qad N a0.w) λy1=>bnd (Qac N a0.p) λy2=>some (Wk.mk a0.c y1 y2 a0.s a0.b)
def QaE(N:Nat)(a0:List UM):Option (List UM):=some a0
def Qaz(N:Nat)(a0:List UU):Option (List UU):=some a0
def QfZ(N:Nat)(a0:Ww):Option Ww:=bnd (QaE N a0.S) λy1=>bnd (Qaz N a0.x) λy2=>bnd (QaD N a0.i) λy3=>some (Ww.mk y1 y2 y3)
def QaA(N:Nat)(a0:List W8):Option (List W8):=some a0
def Qfv(N:Nat)(a0:WE):Option WE:=bnd (QaA N a0.e) λy1=>some (WE.mk y1)
def Qby(N:Nat)(a0:List UH):Option (List UH):=some a0
def Qgz(N:Nat)(a0:W9):Option W9:=bnd (QgP N a0.h) λy1=>bnd (QfZ N a0.l) λy2=>bnd (Qfv N a0.g) λy3=>bnd (Qfv N a0.v) λy4=>bnd (Qby N a0.P) λy5=>bnd (Qad N a0.R) λy6=>some (W9.mk y1 y2 y3 y4 y5 y6)
def QhD(N:Nat)(a0:Ww):Option Ww:=bnd (QaE N a0.S) λy1=>bnd (Qaz N a0.x) λy2=>bnd (QaD N a0.i) λy3=>some (Ww.mk y1 y2 y3)
def Qd5(N:Nat)(y4:Ww):Nat->(List Int)->Int->(List UM)->Option (List UM)
 |0,_,_,_=>none
 |n+1,v5,v6,v7=>
  bif (decide (v6<(y4.S.length:Int)))then(bnd (Xb v7 v6) λp8=>
   bif p8.V then(bnd (Xb v5 0) λp9=>
    grd (0<=1/\1<=(v5.length:Int)/\(v5.length:Int)<=(v5.length:Int)) <|
    bnd (Xb v7 v6) λp10=>
    Qd5 N y4 n (v5.drop 1) (wI (v6+1)) (v7.set v6.toNat (UM.mk p10.J p9 p10.V)))
   else Qd5 N y4 n v5 (wI (v6+1)) v7)
  else some v7
def Qhg(N:Nat)(a0:Ww)(a1:List Int):Option (Ww×Int):=bnd (Qe9 N a0) λy1=>bif (!y1)then some ((Ww.mk [] [] []),1)else bnd (QfK N a0) λy2=>bif ((y2.length:Int) != (a1.length:Int))then some ((Ww.mk [] [] []),1)else bnd (Qah N a1 0) λy3=>bif y3 then some ((Ww.mk [] [] []),1)else bnd (QhD N a0) λy4=>grd (y4.S.length<=140737488355328) <| bnd (Qd5 N y4 N a1 0 y4.S) λy11=>some ((Ww.mk y11 y4.x y4.i),0)
def QhE(N:Nat)(a0:WE):Option WE:=bnd (QaA N a0.e) λy1=>some (WE.mk y1)
def Qd6(N:Nat)(y3:WE):Nat->(List Int)->Int->(List W8)->Option (List W8)
 |0,_,_,_=>none
 |n+1,v4,v5,v6=>
  bif (decide (v5<(y3.e.length:Int)))then(bnd (Xb v6 v5) λp7=>
   bif p7.V then(bnd (Xb v4 0) λp8=>
    grd (0<=1/\1<=(v4.length:Int)/\(v4.length:Int)<=(v4.length:Int)) <|
    bnd (Xb v6 v5) λp9=>
    Qd6 N y3 n (v4.drop 1) (wI (v5+1)) (v6.set v5.toNat (W8.mk p9.G p8 p9.V)))
   else Qd6 N y3 n v4 (wI (v5+1)) v6)
  else some v6
def QgA(N:Nat)(a0:WE)(a1:List Int):Option (WE×Int):=bnd (Qet N a0) λy1=>bif (!y1)then some ((WE.mk []),1)else bnd (QdD N a0) λy2=>bif ((y2.length:Int) != (a1.length:Int))then some ((WE.mk []),1)else bnd (QhE N a0) λy3=>grd (y3.e.length<=140737488355328) <| bnd (Qd6 N y3 N a1 0 y3.e) λy10=>some ((WE.mk y10),0)
def QdT(N:Nat)(a0:Int)(a1:List Int):Option (List Int×List Int):=grd (0<=0/\0<=a0/\a0<=(a1.length:Int)) <| grd (0<=a0/\a0<=(a1.length:Int)/\(a1.length:Int)<=(a1.length:Int)) <| some ((a1.take a0.toNat),(a1.drop a0.toNat))
def Qez(N:Nat)(y4:Wk×List Int×List Int×WM×Int)(y5:W9)(y6:List Int×List Int)(y9:Ww×Int)(y11:List Int×List Int)(y12:WE×Int)(y13:WE×Int):Nat->Int->(List UH)->Option (List UH)
 |0,_,_=>none
 |n+1,v14,v15=>
  bif (decide (v14<(y11.2.length:Int)))then(bnd (Xb y11.2 v14) λp16=>
   bnd (Xb v15 v14) λp17=>
   Qez N y4 y5 y6 y9 y11 y12 y13 n (wI (v14+1)) (v15.set v14.toNat (UH.mk p16 p17.M)))
  else some v15
def QgQ(N:Nat)(a0:W9):Option (W9×WM×Int):=bnd (Qgi N a0) λy1=>bif (!y1)then some ((W9.mk zHp (Ww.mk [] [] []) (WE.mk []) (WE.mk []) [] []),(WM.mk 0 0 0 0 0 0),19)else bnd (Qgu N a0) λy2=>bnd (QdD N a0.v) λy3=>bnd (QdS N a0.h y2 y3) λy4=>bif (y4.2.2.2.2 != 0)then some ((W9.mk zHp (Ww.mk [] [] []) (WE.mk []) (WE.mk []) [] []),(WM.mk 0 0 0 0 0 0),y4.2.2.2.2)else bnd (Qgz N a0) λy5=>bnd (QdT N (a0.R.length:Int) y4.2.1) λy6=>grd (y6.1.length<=y5.R.length) <| bnd (QfK N a0.l) λy7=>bnd (QdT N (y7.length:Int) y6.2) λy8=>bnd (Qhg N a0.l y8.1) λy9=>bnd (QdD N a0.g) λy10=>bnd (QdT N (y10.length:Int) y8.2) λy11=>bnd (QgA N a0.g y11.1) λy12=>bnd (QgA N a0.v y4.2.2.1) λy13=>bnd (Qez N y4 y5 y6 y9 y11 y12 y13 N 0 y5.P) λy18=>bif (!((y9.2==0)&&((y12.2==0)&&(y13.2==0))))then some ((W9.mk zHp (Ww.mk [] [] []) (WE.mk []) (WE.mk []) [] []),(WM.mk 0 0 0 0 0 0),19)else some ((W9.mk y4.1 y9.1 y12.1 y13.1 y18 (((y5.R.take 0)++y6.1)++(y5.R.drop y6.1.length))),y4.2.2.2.1,0)
def Qb5(N:Nat)(a0:List Wt)(a1:List Wt):Nat->Int->Option (Ex Bool Unit)
 |0,_=>none
 |n+1,v1=>
  bif (decide (v1<(a0.length:Int)))then(bnd (Xb a0 v1) λp2=>
   bnd (Xb a1 v1) λp3=>
   bif (!((p2.k==p3.k)&&((p2.s==p3.s)&&((p2.u==p3.u)&&(p2.P==p3.P)))))then some (.ret false)
   else Qb5 N a0 a1 n (wI (v1+1)))
  else some (.nxt ())
def Qe3(N:Nat)(a0:List Wt)(a1:List Wt):Option Bool:=bif ((a0.length:Int) != (a1.length:Int))then some false else bnd (Qb5 N a0 a1 N 0) λe=>exK e (λr=>some r) λy4=>some true
def Qd7(N:Nat)(a0:Wk)(a1:Wk):Nat->Int->Option (Ex Bool Unit)
 |0,_=>none
 |n+1,v2=>
  bif (decide (v2<(a0.w.length:Int)))then(bnd (Xb a0.w v2) λp3=>
   bnd (Xb a1.w v2) λp4=>
   bif (p3 != p4)then some (.ret false)
   else Qd7 N a0 a1 n (wI (v2+1)))
  else some (.nxt ())
def Qhh(N:Nat)(a0:Wk)(a1:Wk):Option Bool:=bif (!((a0.c.W==a1.c.W)&&(a0.c.p==a1.c.p)))then some false else bif (a0.s != a1.s)then some false else bif (a0.b != a1.b)then some false else bnd (Qe3 N a0.p a1.p) λy1=>bif (!y1)then some false else bif ((a0.w.length:Int) != (a1.w.length:Int))then some false else bnd (Qd7 N a0 a1 N 0) λe=>exK e (λr=>some r) λy5=>some true
def Qd8(N:Nat)(a0:Ww)(a1:Ww):Nat->Int->Option (Ex Bool Unit)
 |0,_=>none
 |n+1,v1=>
  bif (decide (v1<(a0.S.length:Int)))then(bnd (Xb a0.S v1) λp2=>
   bnd (Xb a1.S v1) λp3=>
   bif (!((p2.J==p3.J)&&((p2.a==p3.a)&&(p2.V==p3.V))))then some (.ret false)
   else Qd8 N a0 a1 n (wI (v1+1)))
  else some (.nxt ())
def Qd9(N:Nat)(a0:Ww)(a1:Ww):Nat->Int->Option (Ex Bool Unit)
 |0,_=>none
 |n+1,v5=>
  bif (decide (v5<(a0.x.length:Int)))then(bnd (Xb a0.x v5) λp6=>
   bnd (Xb a1.x v5) λp7=>
   bif (!((p6.O==p7.O)&&((p6.C0==p7.C0)&&(p6.B0==p7.B0))))then some (.ret false)
   else Qd9 N a0 a1 n (wI (v5+1)))
  else some (.nxt ())
def Qea(N:Nat)(a0:Ww)(a1:Ww):Nat->Int->Option (Ex Bool Unit)
 |0,_=>none
 |n+1,v9=>
  bif (decide (v9<(a0.i.length:Int)))then(bnd (Xb a0.i v9) λp10=>
   bnd (Xb a1.i v9) λp11=>
   bif (p10 != p11)then some (.ret false)
   else Qea N a0 a1 n (wI (v9+1)))
  else some (.nxt ())
def Qhi(N:Nat)(a0:Ww)(a1:Ww):Option Bool:=bif ((a0.S.length:Int) != (a1.S.length:Int))then some false else bif ((a0.x.length:Int) != (a1.x.length:Int))then some false else bif ((a0.i.length:Int) != (a1.i.length:Int))then some false else bnd (Qd8 N a0 a1 N 0) λe=>exK e (λr=>some r) λy4=>bnd (Qd9 N a0 a1 N 0) λe=>exK e (λr=>some r) λy8=>bnd (Qea N a0 a1 N 0) λe=>exK e (λr=>some r) λy12=>some true
def Qeb(N:Nat)(a0:WE)(a1:WE):Nat->Int->Option (Ex Bool Unit)
 |0,_=>none
 |n+1,v1=>
  bif (decide (v1<(a0.e.length:Int)))then(bnd (Xb a0.e v1) λp2=>
   bnd (Xb a1.e v1) λp3=>
   bif (!((p2.G==p3.G)&&((p2.a==p3.a)&&(p2.V==p3.V))))then some (.ret false)
   else Qeb N a0 a1 n (wI (v1+1)))
  else some (.nxt ())
def QgB(N:Nat)(a0:WE)(a1:WE):Option Bool:=bif ((a0.e.length:Int) != (a1.e.length:Int))then some false else bnd (Qeb N a0 a1 N 0) λe=>exK e (λr=>some r) λy4=>some true
def Qec(N:Nat)(a0:List UH)(a1:List UH):Nat->Int->Option (Ex Bool Unit)
 |0,_=>none
 |n+1,v1=>
  bif (decide (v1<(a0.length:Int)))then(bnd (Xb a0 v1) λp2=>
   bnd (Xb a1 v1) λp3=>
   bif (!((p2.a==p3.a)&&(p2.M==p3.M)))then some (.ret false)
   else Qec N a0 a1 n (wI (v1+1)))
  else some (.nxt ())
def Qhj(N:Nat)(a0:List UH)(a1:List UH):Option Bool:=bif ((a0.length:Int) != (a1.length:Int))then some false else bnd (Qec N a0 a1 N 0) λe=>exK e (λr=>some r) λy4=>some true
def Qed(N:Nat)(a0:List Int)(a1:List Int):Nat->Int->Option (Ex Bool Unit)
 |0,_=>none
 |n+1,v1=>
  bif (decide (v1<(a0.length:Int)))then(bnd (Xb a0 v1) λp2=>
   bnd (Xb a1 v1) λp3=>
   bif (p2 != p3)then some (.ret false)
   else Qed N a0 a1 n (wI (v1+1)))
  else some (.nxt ())
def Qhk(N:Nat)(a0:List Int)(a1:List Int):Option Bool:=bif ((a0.length:Int) != (a1.length:Int))then some false else bnd (Qed N a0 a1 N 0) λe=>exK e (λr=>some r) λy4=>some true
def Qhl(N:Nat)(a0:W9)(a1:W9):Option Bool:=bnd (Qhh N a0.h a1.h) λy1=>bif y1 then(bnd (Qhi N a0.l a1.l) λy2=>bif y2 then(bnd (QgB N a0.g a1.g) λy3=>bif y3 then(bnd (QgB N a0.v a1.v) λy4=>bif y4 then(bnd (Qhj N a0.P a1.P) λy5=>bif y5 then(bnd (Qhk N a0.R a1.R) λy6=>some y6)else some false)else some false)else some false)else some false)else some false
def QgC(N:Nat)(a0:WT)(a1:Wy):Option Bool:=bnd (Qda N a1) λy1=>bif y1 then(bif (a1.k != 0)then(bnd (Qbj N a1) λy2=>bnd (Qe1 N a0 y2) λy3=>some (decide (y3>=0)))else some false)else some false
def QeQ(N:Nat)(a1:List Wt)(a2:Int)(a3:Int)(y1:Int):Nat->(List Wt)->Option (List Wt)
 |0,_=>none
 |n+1,v3=>
  grd (v3.length<=140737488355328) <|
  bif (decide ((v3.length:Int)<y1))then(grd ((v3.length+1)*32<=140737488355328) <|
   QeQ N a1 a2 a3 y1 n (v3++[(Wt.mk 3 a3 0 0)]))
  else some v3
def Qhm(N:Nat)(a0:WT)(a1:List Wt)(a2:Int)(a3:Int)(a4:Int):Option (List Wt×Int):=bnd (Qe1 N a0 a4) λy1=>bif (decide (y1<1))then some ([],1)else bnd (QbX N (Wt.mk 2 a3 a4 0)) λy2=>bif (!y2)then some ([],1)else bnd (QeQ N a1 a2 a3 y1 N [(Wt.mk 2 a3 a4 0)]) λy4=>bnd (Qg2 N a1 a2 y4) λy5=>some (y5.1,y5.2)
def QhQ(N:Nat)(a0:WT):Option Int:=bnd (QbQ N a0) λy1=>bif (!y1)then some 0 else some (wI (a0.p.tdiv 4))
def QeA(N:Nat)(a0:Wk)(a1:Int):Option (Wk×IK×Int):=bnd (Qgx N a0.p) λy1=>bnd (QhQ N a0.c) λy2=>bnd (Qe1 N a0.c a1) λy3=>bif (decide (y3>0))then(bnd (QdF N a0.p y3) λy4=>jn (λ(_:Unit)=>some (zHp,(IK.mk 0 0),3)) λj1=>bif (decide (y4>=0))then(bif (decide (y1<=(wI (y2-y3))))then(bnd (Qhm N a0.c a0.p y4 a0.s a1) λy7=>some ((Wk.mk a0.c a0.w y7.1 a0.s a0.b),(IK.mk y4 0),y7.2))else j1 ())else j1 ())else jn (λ(_:Unit)=>bnd (QdF N a0.p 1) λy6=>jn (λ(_:Unit)=>some (zHp,(IK.mk 0 0),3)) λj4=>bif (decide (y6>=0))then(bif (decide (y1<y2))then(bnd (QdE N a0.p y6 a0.s) λy11=>bif (y11.2 != 0)then some (zHp,(IK.mk 0 0),y11.2)else bnd (Xb y11.1 y6) λp12=>some ((Wk.mk a0.c a0.w (y11.1.set y6.toNat (Wt.mk p12.k p12.s a1 p12.P)) a0.s y6),(IK.mk y6 0),0))else j4 ())else j4 ()) λj3=>bif (decide (a0.b>=0))then(bif (decide (y1<=y2))then(bnd (Xb a0.p a0.b) λp5=>jn (λ(_:Unit)=>j3 ()) λj2=>bif (p5.s==a0.s)then(bif (decide (a1<=(wI (a0.c.W-p5.u))))then(bnd (Qac N a0.p) λy8=>bnd (Xb y8 a0.b) λp9=>bnd (Xb y8 a0.b) λp10=>some ((Wk.mk a0.c a0.w (y8.set a0.b.toNat (Wt.mk p10.k p10.s (wI (p9.u+a1)) p10.P)) a0.s a0.b),(IK.mk a0.b p5.u),0))else j2 ())else j2 ())else j3 ())else j3 ()
def Qev(N:Nat)(a0:Wk)(a1:Wy):Option (Wk×Int×Int):=bnd (QbR N a0) λy1=>bif (!y1)then some (zHp,0,1)else bnd (QgC N a0.c a1) λy2=>bif (!y2)then some (zHp,0,1)else bnd (Qbj N a1) λy3=>bnd (QeA N a0 y3) λy4=>bif (y4.2.2 != 0)then some (zHp,0,y4.2.2)else bnd (Qdb N a0.c y4.2.1.page y4.2.1.offset) λy5=>bif (y5.2 != 0)then some (zHp,0,y5.2)else bnd (Qfe N y4.1 y5.1 a1) λy6=>bif (y6.2 != 0)then some (zHp,0,y6.2)else some (y6.1,y5.1,0)
def Qg3(N:Nat)(a0:W9)(a1:Wy):Option (W9×Int×Int):=bnd (Qgi N a0) λy1=>bif (!y1)then some ((W9.mk zHp (Ww.mk [] [] []) (WE.mk []) (WE.mk []) [] []),0,19)else bnd (QgC N a0.h.c a1) λy2=>bif (!y2)then some ((W9.mk zHp (Ww.mk [] [] []) (WE.mk []) (WE.mk []) [] []),0,1)else bnd (Qgz N a0) λy3=>bnd (Qev N a0.h a1) λy4=>bif (y4.2.2==3)then(bnd (QgQ N a0) λy5=>bif (y5.2.2 != 0)then some ((W9.mk zHp (Ww.mk [] [] []) (WE.mk []) (WE.mk []) [] []),0,y5.2.2)else bnd (Qev N y5.1.h a1) λy6=>bif (y6.2.2 != 0)then some ((W9.mk zHp (Ww.mk [] [] []) (WE.mk []) (WE.mk []) [] []),0,y6.2.2)else some ((W9.mk y6.1 y5.1.l y5.1.g y5.1.v y5.1.P y5.1.R),y6.2.1,0))else bif (y4.2.2 != 0)then some ((W9.mk zHp (Ww.mk [] [] []) (WE.mk []) (WE.mk []) [] []),0,y4.2.2)else some ((W9.mk y4.1 y3.l y3.g y3.v y3.P y3.R),y4.2.1,0)
def QiX(N:Nat)(a0:Int):Option (List Int×Int):=bif (decide (a0<0))then some ([],1)else bif (decide (a0>4096))then some ([],1)else grd (0<=a0/\a0.toNat*8<=140737488355328) <| some ((List.replicate a0.toNat (0:Int)),0)
def QjK(N:Nat)(a0:WT):Option (Wk×Int):=bnd (QbQ N a0) λy1=>bif (!y1)then some (zHp,1)else bnd (QiX N (wI (a0.W*a0.p))) λy2=>bif (y2.2 != 0)then some (zHp,y2.2)else grd (0<=a0.p/\a0.p.toNat*32<=140737488355328) <| some ((Wk.mk a0 y2.1 (List.replicate a0.p.toNat (Wt.mk 0 0 0 0)) 0 (-1)),0)
def Ql4(N:Nat)(a0:WT):Option (W9×Int):=bnd (QjK N a0) λy1=>bif (y1.2 != 0)then some ((W9.mk zHp (Ww.mk [] [] []) (WE.mk []) (WE.mk []) [] []),y1.2)else some ((W9.mk y1.1 (Ww.mk [] [] []) (WE.mk []) (WE.mk []) [] []),0)
def QhF(N:Nat):Option Bool:=bnd (Ql4 N (WT.mk 16 8)) λy1=>bnd (Qg3 N y1.1 (Wy.mk 3 3 0)) λy2=>bif (y1.2==0)then(bif (y2.2.2==0)then(bif (y2.2.1==4096)then(bnd (Qgi N y2.1) λy3=>some y3)else some false)else some false)else some false
def QcP(N:Nat)(a0:UG)(a1:WT):Option (Wy×UG):=bnd (QcK N a1) λy1=>bnd (Qaa N a0 y1) λy2=>bnd (Qaa N y2.2 12) λy3=>jn (λ(x5:Int) (x6:List Int) (x7:Int)=>bnd (Qaa N (UG.mk x6 x7) 4) λy8=>bif (y8.1==0)then some ((Wy.mk 2 x5 0),y8.2)else bif (y8.1==1)then some ((Wy.mk 3 x5 0),y8.2)else grd (0<=(wU (if 12<(if 32<x5 then 32 else x5)then 12 else(if 32<x5 then 32 else x5)))) <| bnd (Qaa N y8.2 (ZQ .i64 1 (wU (if 12<(if 32<x5 then 32 else x5)then 12 else(if 32<x5 then 32 else x5))))) λy9=>some ((Wy.mk 1 (if 32<x5 then 32 else x5) (wW y9.1)),y9.2)) λj1=>bif (y3.1==0)then(bnd (Qaa N y3.2 a1.W) λy4=>j1 (wI (y1+y4.1)) y4.2.L y4.2.at_)else j1 y2.1 y3.2.L y3.2.at_
def Qb6(N:Nat)(a3:Wy)(y1:List W9)(p5:W9)(y6:Wy×UG)(y7:Int×UG)(v2:Int):Nat->Int->Option (Ex Bool Unit)
 |0,_=>none
 |n+1,v8=>
  bif (decide (v8<3))then(bnd (Xb [a3,y6.1,(Wy.mk 2 y7.1 0)] v8) λp9=>
   bnd (Qg3 N p5 p9) λy10=>
   bnd (QbA N p5 p9) λy11=>
   bif (y10.2.2 != y11.2.2)then some (.ret false)
   else bif (y10.2.1 != y11.2.1)then some (.ret false)
   else bnd (Qhl N y10.1 y11.1) λy12=>
   bif (!y12)then some (.ret false)
   else Qb6 N a3 y1 p5 y6 y7 v2 n (wI (v8+1)))
  else some (.nxt ())
def Qc0(N:Nat)(a3:Wy)(y1:List W9):Nat->Int->(List Int)->Int->Option (Ex Bool Unit)
 |0,_,_,_=>none
 |n+1,v2,v3,v4=>
  bif (decide (v2<(y1.length:Int)))then(bnd (Xb y1 v2) λp5=>
   bnd (QcP N (UG.mk v3 v4) p5.h.c) λy6=>
   bnd (Qaa N y6.2 60) λy7=>
   bnd (Qb6 N a3 y1 p5 y6 y7 v2 N 0) λe=>exK e (λr=>some (.ret r)) λy13=>
   Qc0 N a3 y1 n (wI (v2+1)) y7.2.L y7.2.at_)
  else some (.nxt ())
def Qe4(N:Nat)(a0:W9)(a1:List Int)(a2:List Int)(a3:Wy):Option Bool:=bnd (QhO N a0 a1 a2) λy1=>bnd (Qc0 N a3 y1 N 0 a2 0) λe=>exK e (λr=>some r) λy14=>bnd (QhF N) λy15=>some y15
end Go.Sx
