import Derived.Test.YtgcneehkconghaaGreatDoorBA
set_option linter.all false
namespace Go.Sx
structure WX where
 PageWords:Int
 Pages:Int
structure Wx where
 Kind:Int
 Space:Int
 Used:Int
 Pins:Int
structure Wo where
 Conf:WX
 Words:List Int
 Pages:List Wx
 Space:Int
 Bump:Int
structure US where
 Stamp:Int
 Ref:Int
 Live:Bool
structure U2 where
 From:Int
 Cap:Int
 Base:Bool
structure Wq where
 Slots:List US
 Scopes:List U2
 Issued:List Int
structure W6 where
 Gen:Int
 Ref:Int
 Live:Bool
structure Wy where
 Entries:List W6
structure UE where
 Ref:Int
 Count:Int
structure Uh where
 Heap:Wo
 Locals:Wq
 Globals:Wy
 Weaks:Wy
 Pins:List UE
 Roots:List Int
structure Ww where
 Kind:Int
 Length:Int
 Map:Int
structure Ie where
 Header:Ww
 Fields:List Int
structure Iq where
 Id:Int
 Count:Int
 Base:Int
structure WI where
 Conf:WX
 Things:List Ie
 Locals:Wq
 Globals:Wy
 Weaks:Wy
 Marks:List Iq
 Roots:List Int
structure Io where
 Env:Uh
 World:WI
 Words:List Int
structure U7 where
 L:List Int
 at_:Int
structure I4 where
 Op:Int
 A:Int
 B:Int
 C:Int
structure UR where
 Tag:Int
 Index:Int
 Stamp:Int
structure Us where
 Copied:Int
 Kept:Int
 Filled:Int
 Freed:Int
 Cleared:Int
 Steps:Int
structure I6 where
 Failed:Bool
 Collected:Bool
 Base:Int
structure Og where
 Heap:Wo
 Strong:List Int
 Weak:List Int
structure Ii where
 Locals:Wq
structure IU where
 Width:Int
 Value:Int
structure I5 where
 page:Int
 offset:Int
structure WV where
 Heap:Wo
 Old:List Int
 Taken:List Int
 Queue:List Int
 Scanned:Int
 Report:Us
structure Ud where
 Fault:Int
 Page:Int
 Addr:Int
structure Uz where
 addr:Int
 hd:Ww
structure IZ where
 From:Int
 Len:Int
@[simp] abbrev zWd:WI:=WI.mk (WX.mk 0 0) [] (Wq.mk [] [] []) (Wy.mk []) (Wy.mk []) [] []
@[simp] abbrev zHp:Wo:=Wo.mk (WX.mk 0 0) [] [] 0 0
def Qac (N:Nat) (a0:U7) (a1:Int):Option (Int×U7):=bif (decide (a1<1)) then some (0,a0) else jn (λ (x2:Int)=>grd (a1≠0) <| grd (a1≠0) <| some (((wI ((x2.tmod a1)+a1)).tmod a1),(U7.mk a0.L (wI (a0.at_+1))))) λ j1=>bif (decide (a0.at_<((a0.L.length:Nat):Int))) then (bnd (Xb a0.L a0.at_) λ p1=>j1 p1) else j1 (wI ((wI (a0.at_*7))+3))
def Qeq (N:Nat) (a0:U7):Option (WX×U7):=bnd (Qac N a0 4) λ y1=>bnd (Xb [16,16,20,32] y1.1) λ p2=>bnd (Qac N y1.2 5) λ y3=>bnd (Xb [8,12,16,20,24] y3.1) λ p4=>some ((WX.mk p2 p4),y3.2)
def Qat (N:Nat) (a0:WX):Option Bool:=bif (decide (a0.PageWords>=16)) then (bif (decide (a0.PageWords<=64)) then (bif ((a0.PageWords.tmod 4)==0) then (bif (decide (a0.Pages>=8)) then some (decide (a0.Pages<=64)) else some false) else some false) else some false) else some false
def QfX (N:Nat) (a0:WX):Option (Wo×Int):=bnd (Qat N a0) λ y1=>bif (!y1) then some (zHp,1) else grd (0<=(wI (a0.Pages*a0.PageWords))/\(wI (a0.Pages*a0.PageWords)).toNat*8<=140737488355328) <| grd (0<=a0.Pages/\a0.Pages.toNat*32<=140737488355328) <| some ((Wo.mk a0 (List.replicate (wI (a0.Pages*a0.PageWords)).toNat (0:Int)) (List.replicate a0.Pages.toNat (Wx.mk 0 0 0 0)) 0 (-1)),0)
def Qff (N:Nat) (a0:WX):Option (Uh×Int):=bnd (QfX N a0) λ y1=>some ((Uh.mk y1.1 (Wq.mk [] [] []) (Wy.mk []) (Wy.mk []) [] []),y1.2)
def Qfg (N:Nat) (a0:WX):Option (WI×Int):=bnd (Qat N a0) λ y1=>bif (!y1) then some (zWd,1) else some ((WI.mk a0 [] (Wq.mk [] [] []) (Wy.mk []) (Wy.mk []) [] []),0)
def QbS (N:Nat) (a0:U7):Option (Io×U7):=bnd (Qeq N a0) λ y1=>bnd (Qff N y1.1) λ y2=>bnd (Qfg N y1.1) λ y3=>bnd (Qac N y1.2 40) λ y4=>some ((Io.mk (Uh.mk y2.1.Heap (Wq.mk y2.1.Locals.Slots [(U2.mk 0 (wI (4+y4.1)) true)] y2.1.Locals.Issued) y2.1.Globals y2.1.Weaks y2.1.Pins y2.1.Roots) (WI.mk y3.1.Conf y3.1.Things (Wq.mk y3.1.Locals.Slots [(U2.mk 0 (wI (4+y4.1)) true)] y3.1.Locals.Issued) y3.1.Globals y3.1.Weaks y3.1.Marks y3.1.Roots) [0]),y4.2)
def Qfu (N:Nat) (a0:U7):Option Bool:=some (decide (a0.at_>=((a0.L.length:Nat):Int)))
def Qer (N:Nat) (a0:List Int) (a1:Int):Nat->Int->Option (Ex Bool Unit)
 | 0,_=>none
 | n+1,v1 =>
  bif (decide (v1<((a0.length:Nat):Int))) then (bnd (Xb a0 v1) λ p2 =>
   bif (p2==a1) then some (.ret true)
   else Qer N a0 a1 n (wI (v1+1)))
  else some (.nxt ())
def Qb8 (N:Nat) (a0:List Int) (a1:Int):Option Bool:=bnd (Qer N a0 a1 N 0) λ e=>exK e (λ r=>some r) λ y3=>some false
def Qf3 (N:Nat) (a0:Int):Option Bool:=bif (decide (a0>=0)) then some (decide (a0<=2147483647)) else some false
def Qbt (N:Nat) (a0:WX):Option Int:=bnd (Qat N a0) λ y1=>bif (!y1) then some 0 else some (wI (a0.PageWords.tdiv 4))
def Qb1 (N:Nat) (a0:WX) (a1:Int):Nat->Int->Option (Ex Int Unit)
 | 0,_=>none
 | n+1,v3 =>
  bif (decide (v3<=4)) then (bif (decide ((wI (v3*a0.PageWords))>=a1)) then some (.ret v3)
   else Qb1 N a0 a1 n (wI (v3+1)))
  else some (.nxt ())
def QdZ (N:Nat) (a0:WX) (a1:Int):Option Int:=bnd (Qat N a0) λ y1=>bif (!y1) then some (-1) else bif (decide (a1<1)) then some (-1) else bnd (Qbt N a0) λ y2=>bif (decide (a1<=y2)) then some 0 else bnd (Qb1 N a0 a1 N 1) λ e=>exK e (λ r=>some r) λ y4=>some (-1)
def Qb9 (N:Nat) (a0:List Wx) (a2:Int):Nat->Int->Int->Option Int
 | 0,_,_=>none
 | n+1,v1,v2 =>
  bif (decide (v2<((a0.length:Nat):Int))) then (bnd (Xb a0 v2) λ p3 =>
   bif (p3.Kind==3) then (bnd (Xb a0 v2) λ p4 =>
    bif (p4.Space==a2) then Qb9 N a0 a2 n (wI (v1+1)) (wI (v2+1))
    else some v1)
   else some v1)
  else some v1
def Qeb (N:Nat) (a0:List Wx) (a1:Int) (a2:Int):Option Int:=bnd (Qb9 N a0 a2 N 0 (wI (a1+1))) λ y5=>some y5
def Qao (N:Nat) (a0:Wo):Nat->Int->Int->Option (Ex Bool Unit)
 | 0,_,_=>none
 | n+1,v3,v4 =>
  bif (decide (v4<((a0.Pages.length:Nat):Int))) then (bnd (Xb a0.Pages v4) λ p5 =>
   bif (!((p5.Kind==3)==(decide (v3>0)))) then some (.ret false)
   else bif (decide (p5.Space<0)) then some (.ret false)
   else bif (decide (p5.Space>1)) then some (.ret false)
   else bnd (Qf3 N p5.Pins) λ y6 =>
   bif (!y6) then some (.ret false)
   else jn (λ (x11:Int) =>
    Qao N a0 n (if 0<(wI (x11-1)) then (wI (x11-1)) else 0) (wI (v4+1))) λ j4 =>
   bif (p5.Kind==0) then (bif (!((p5.Kind==0)&&((p5.Space==0)&&((p5.Used==0)&&(p5.Pins==0))))) then some (.ret false)
    else j4 v3)
   else jn (λ (x10:Int) =>
    j4 x10) λ j3 =>
   bif (p5.Kind==1) then (bif (decide (p5.Used<0)) then some (.ret false)
    else bif (decide (p5.Used>a0.Conf.PageWords)) then some (.ret false)
    else j3 v3)
   else jn (λ (x9:Int) =>
    j3 x9) λ j2 =>
   bif (p5.Kind==2) then (bnd (QdZ N a0.Conf p5.Used) λ y7 =>
    bif (decide (y7<1)) then some (.ret false)
    else bnd (Qeb N a0.Pages v4 p5.Space) λ y8 =>
    bif (decide (y8<(wI (y7-1)))) then some (.ret false)
    else j2 y7)
   else bif (p5.Kind==3) then (bif (p5.Used != 0) then some (.ret false)
    else bif (p5.Pins != 0) then some (.ret false)
    else j2 v3)
   else some (.ret false))
  else some (.nxt ())
def Qad (N:Nat) (a0:Wo):Option Bool:=bnd (Qat N a0.Conf) λ y1=>bif (!y1) then some false else bif (((a0.Words.length:Nat):Int) != (wI (a0.Conf.Pages*a0.Conf.PageWords))) then some false else bif (((a0.Pages.length:Nat):Int) != a0.Conf.Pages) then some false else bif (decide (a0.Space<0)) then some false else bif (decide (a0.Space>1)) then some false else jn (λ (_:Unit)=>bnd (Qao N a0 N 0 0) λ e=>exK e (λ r=>some r) λ y12=>some true) λ j1=>bif (a0.Bump != (-1)) then (bif (decide (a0.Bump<0)) then some false else bif (decide (a0.Bump>=((a0.Pages.length:Nat):Int))) then some false else bnd (Xb a0.Pages a0.Bump) λ p2=>bif (p2.Kind != 1) then some false else j1 ()) else j1 ()
def QcM (N:Nat) (a0:WX) (a1:Int):Option (Int×Int×Int):=bnd (Qat N a0) λ y1=>bif (!y1) then some (0,0,1) else bif (decide (a1<4096)) then some (0,0,2) else bif (decide (a1>=(wU (wI (4096+(wI (a0.Pages*a0.PageWords))))))) then some (0,0,2) else grd (a0.PageWords≠0) <| grd (a0.PageWords≠0) <| some ((wI ((wI (wU (a1-4096))).tdiv a0.PageWords)),((wI (wU (a1-4096))).tmod a0.PageWords),0)
def QcZ (N:Nat) (a0:List Int) (a1:Int) (a2:Int):Option (Int×Bool):=bif (decide (a1<4096)) then some (0,false) else bif (decide (a1>(wU (4096+(wU ((a0.length:Nat):Int)))))) then some (0,false) else some ((wI (wU (a1-4096))),(decide (a2<=(wI (((a0.length:Nat):Int)-(wI (wU (a1-4096))))))))
def Qe4 (N:Nat) (a0:List Int) (a1:Int):Option (Int×Int):=bnd (QcZ N a0 a1 1) λ y1=>bif (!y1.2) then some (0,2) else some (y1.1,0)
def QaX (N:Nat) (a0:List Int) (a1:Int):Option (Int×Int):=bnd (Qe4 N a0 a1) λ y1=>bif (y1.2 != 0) then some (0,y1.2) else bnd (Xb a0 y1.1) λ p2=>some (p2,0)
def Qcg (N:Nat) (a0:Ww):Option Bool:=bif (decide (a0.Kind<0)) then some false else bif (decide (a0.Kind>3)) then some false else bif (decide (a0.Length<0)) then some false else bif (decide (a0.Length>255)) then some false else bif (a0.Kind != 1) then some (a0.Map==0) else bif (decide (a0.Length<=32)) then (grd (0<=(wU a0.Length)) <| some (decide ((wU a0.Map)<(Kq .u64 1 (wU a0.Length))))) else some false
def Qb2 (N:Nat) (a0:Ww):Option Int:=bnd (Qcg N a0) λ y1=>bif (!y1) then some 0 else some (wI (a0.Length+1))
def Qco (N:Nat) (a0:Ww):Option (Int×Int):=bnd (Qcg N a0) λ y1=>bif (!y1) then some (0,1) else some ((wU ((wU ((wU (1+(wU (4*(wU a0.Kind)))))+(wU (16*(wU a0.Length)))))+(Kq .u64 (wU a0.Map) 16))),0)
def Qbu (N:Nat) (a0:Int):Option (Ww×Bool):=bnd (Qco N (Ww.mk (wI (Yp .u64 (X2 .u64 a0 2) 3)) (wI (Yp .u64 (X2 .u64 a0 4) 4095)) (wW (X2 .u64 a0 16)))) λ y1=>bif (y1.2 != 0) then some ((Ww.mk 0 0 0),false) else bif (y1.1 != a0) then some ((Ww.mk 0 0 0),false) else some ((Ww.mk (wI (Yp .u64 (X2 .u64 a0 2) 3)) (wI (Yp .u64 (X2 .u64 a0 4) 4095)) (wW (X2 .u64 a0 16))),true)
def Qau (N:Nat) (a0:Wo) (a1:Int):Option (Ww×Int):=bnd (Qad N a0) λ y1=>bif (!y1) then some ((Ww.mk 0 0 0),1) else bnd (QcM N a0.Conf a1) λ y2=>bif (y2.2.2 != 0) then some ((Ww.mk 0 0 0),2) else bnd (Xb a0.Pages y2.1) λ p3=>bnd (QaX N a0.Words a1) λ y4=>bnd (Qbu N y4.1) λ y5=>jn (λ (_:Unit)=>bnd (Qb2 N y5.1) λ y6=>bif (p3.Kind==1) then (bif (decide ((wI (y2.2.1+y6))>p3.Used)) then some ((Ww.mk 0 0 0),19) else bif (p3.Kind==2) then (bif (y2.2.1 != 0) then some ((Ww.mk 0 0 0),19) else bif (y6 != p3.Used) then some ((Ww.mk 0 0 0),19) else some (y5.1,0)) else some (y5.1,0)) else bif (p3.Kind==2) then (bif (y2.2.1 != 0) then some ((Ww.mk 0 0 0),19) else bif (y6 != p3.Used) then some ((Ww.mk 0 0 0),19) else some (y5.1,0)) else some (y5.1,0)) λ j1=>bif (p3.Kind != 1) then (bif (p3.Kind != 2) then some ((Ww.mk 0 0 0),19) else bif (decide (y2.2.1>=p3.Used)) then some ((Ww.mk 0 0 0),19) else bif (!y5.2) then some ((Ww.mk 0 0 0),19) else j1 ()) else bif (decide (y2.2.1>=p3.Used)) then some ((Ww.mk 0 0 0),19) else bif (!y5.2) then some ((Ww.mk 0 0 0),19) else j1 ()
def QbD (N:Nat) (a0:WX) (a1:Int) (a2:Int):Option (Int×Int):=bnd (Qat N a0) λ y1=>bif (!y1) then some (0,1) else bif (decide (a1<0)) then some (0,2) else bif (decide (a1>=a0.Pages)) then some (0,2) else bif (decide (a2<0)) then some (0,2) else bif (decide (a2>=a0.PageWords)) then some (0,2) else some ((wU (wI ((wI (4096+(wI (a1*a0.PageWords))))+a2))),0)
def QaU (N:Nat) (a0:Wo) (a1:Int) (p2:Wx):Nat->Int->(List Int)->Option (Ex (List Int×Int) (List Int))
 | 0,_,_=>none
 | n+1,v3,v4 =>
  bif (decide (v3<p2.Used)) then (bnd (QbD N a0.Conf a1 v3) λ y5 =>
   bnd (Qau N a0 y5.1) λ y6 =>
   bif (y6.2 != 0) then some (.ret ([],19))
   else grd ((v4.length+1)*8<=140737488355328) <|
   bif (p2.Kind==2) then some (.nxt (v4++[y5.1]))
   else bnd (Qb2 N y6.1) λ y7 =>
   QaU N a0 a1 p2 n (wI (v3+y7)) (v4++[y5.1]))
  else some (.nxt v4)
def Qar (N:Nat) (a0:Wo) (a1:Int):Option (List Int×Int):=bnd (Qad N a0) λ y1=>bif (!y1) then some ([],1) else bif (decide (a1<0)) then some ([],2) else bif (decide (a1>=((a0.Pages.length:Nat):Int))) then some ([],2) else bnd (Xb a0.Pages a1) λ p2=>bif (p2.Kind==0) then some ([],0) else bif (p2.Kind==3) then some ([],0) else bnd (QaU N a0 a1 p2 N 0 []) λ e=>exK e (λ r=>some r) λ y8=>some (y8,0)
def QaV (N:Nat) (a0:Wo) (a1:Int) (a2:List Int):Nat->Int->Option (Ex Int Unit)
 | 0,_=>none
 | n+1,v1 =>
  bif (decide (v1<((a2.length:Nat):Int))) then (bnd (Xb a2 v1) λ p2 =>
   bnd (Qau N a0 p2) λ y3 =>
   bnd (Qb2 N y3.1) λ y4 =>
   bnd (Qbt N a0.Conf) λ y5 =>
   bnd (Xb a0.Pages a1) λ p6 =>
   bif (p6.Kind==1) then (bif (!(decide (y4<=y5))) then (bnd (Xb a2 v1) λ p9 =>
       some (.ret p9))
    else bnd (Xb a0.Pages a1) λ p7 =>
    bif (p7.Kind==2) then (bif (y3.1.Kind==0) then (bnd (Xb a2 v1) λ p10 =>
        some (.ret p10))
     else QaV N a0 a1 a2 n (wI (v1+1)))
    else QaV N a0 a1 a2 n (wI (v1+1)))
   else bnd (Xb a0.Pages a1) λ p8 =>
   bif (p8.Kind==2) then (bif (y3.1.Kind==0) then (bnd (Xb a2 v1) λ p11 =>
       some (.ret p11))
    else QaV N a0 a1 a2 n (wI (v1+1)))
   else QaV N a0 a1 a2 n (wI (v1+1)))
  else some (.nxt ())
def Qdp (N:Nat) (a0:Wo) (a1:Int) (a2:List Int):Option Int:=bnd (QaV N a0 a1 a2 N 0) λ e=>exK e (λ r=>some r) λ y12=>some 0
def QcB (N:Nat) (a0:Wo):Nat->Int->Option Int
 | 0,_=>none
 | n+1,v1 =>
  bnd (Xb a0.Pages v1) λ p2 =>
  bif (p2.Kind==3) then QcB N a0 n (wI (v1-1))
  else some v1
def Qd0 (N:Nat) (a0:Wo) (a1:Int):Option Int:=bnd (QcB N a0 N a1) λ y3=>some y3
def Qa6 (N:Nat) (a0:Wo) (a1:Int) (a2:List Int) (v1:Int) (x6:Int):Nat->Int->(List Bool)->Option (List Bool)
 | 0,_,_=>none
 | n+1,v7,v8 =>
  bif (decide (v7<x6)) then (bnd (Xb a2 v1) λ p9 =>
   bif (decide ((wI ((wI ((wI ((wI p9)-4096))+v7))-(wI (a1*a0.Conf.PageWords))))>=0)) then (grd (v8.length<=140737488355328) <|
    bif (decide ((wI ((wI ((wI ((wI p9)-4096))+v7))-(wI (a1*a0.Conf.PageWords))))<((v8.length:Nat):Int))) then (bnd (Xb v8 (wI ((wI ((wI ((wI p9)-4096))+v7))-(wI (a1*a0.Conf.PageWords))))) λ p10 =>
     Qa6 N a0 a1 a2 v1 x6 n (wI (v7+1)) (v8.set (wI ((wI ((wI ((wI p9)-4096))+v7))-(wI (a1*a0.Conf.PageWords)))).toNat true))
    else Qa6 N a0 a1 a2 v1 x6 n (wI (v7+1)) v8)
   else Qa6 N a0 a1 a2 v1 x6 n (wI (v7+1)) v8)
  else some v8
def Qb3 (N:Nat) (a0:Wo) (a1:Int) (a2:List Int):Nat->Int->(List Bool)->Option (List Bool)
 | 0,_,_=>none
 | n+1,v1,v2 =>
  bif (decide (v1<((a2.length:Nat):Int))) then (bnd (Xb a2 v1) λ p3 =>
   bnd (Qau N a0 p3) λ y4 =>
   bnd (Qb2 N y4.1) λ y5 =>
   jn (λ (x6:Int) =>
    bnd (Qa6 N a0 a1 a2 v1 x6 N 0 v2) λ y11 =>
    Qb3 N a0 a1 a2 n (wI (v1+1)) y11) λ j1 =>
   bif (y4.1.Kind==0) then j1 1
   else j1 y5)
  else some v2
def Qfv (N:Nat) (a0:Wo) (a1:Int) (a2:List Int):Option (List Bool):=grd (0<=a0.Conf.PageWords/\a0.Conf.PageWords.toNat<=140737488355328) <| bnd (Qb3 N a0 a1 a2 N 0 (List.replicate a0.Conf.PageWords.toNat false)) λ y12=>some y12
def Qf4 (N:Nat) (a0:Wo) (a1:Int) (a2:Int):Option Int:=bnd (QbD N a0.Conf a1 a2) λ y1=>bnd (QaX N a0.Words y1.1) λ y2=>some y2.1
def QeC (N:Nat) (a0:Wo) (a1:Int) (a2:Int):Option Int:=bnd (Qf4 N a0 a1 a2) λ y1=>some y1
def QeS (N:Nat) (a0:Wo) (a1:Int) (a2:Int):Option Int:=some (wU (wI ((wI (4096+(wI (a1*a0.Conf.PageWords))))+a2)))
def QbE (N:Nat) (a0:Wo) (a1:Int) (y3:List Bool):Nat->Int->Option (Ex Int Unit)
 | 0,_=>none
 | n+1,v4 =>
  bif (decide (v4<((y3.length:Nat):Int))) then (bnd (Xb y3 v4) λ p5 =>
   bif (!p5) then (bnd (QeC N a0 a1 v4) λ y6 =>
    bif (y6 != 0) then (bnd (QeS N a0 a1 v4) λ y7 =>
     some (.ret y7))
    else QbE N a0 a1 y3 n (wI (v4+1)))
   else QbE N a0 a1 y3 n (wI (v4+1)))
  else some (.nxt ())
def Qd1 (N:Nat) (a0:Wo) (a1:Int):Option Int:=bnd (Qd0 N a0 a1) λ y1=>bnd (Qar N a0 y1) λ y2=>bnd (Qfv N a0 a1 y2.1) λ y3=>bnd (QbE N a0 a1 y3 N 0) λ e=>exK e (λ r=>some r) λ y8=>some 0
def Qd2 (N:Nat) (a0:Wo) (a1:Int):Option Ud:=jn (λ (_:Unit)=>bnd (Qar N a0 a1) λ y3=>bif (y3.2 != 0) then some (Ud.mk 3 a1 0) else bnd (Qdp N a0 a1 y3.1) λ y4=>bif (y4 != 0) then some (Ud.mk 5 a1 y4) else bnd (Qd1 N a0 a1) λ y5=>bif (y5 != 0) then some (Ud.mk 4 a1 y5) else some (Ud.mk 0 0 0)) λ j1=>bnd (Xb a0.Pages a1) λ p1=>bif (p1.Kind != 0) then (bnd (Xb a0.Pages a1) λ p2=>bif (p2.Space != a0.Space) then some (Ud.mk 2 a1 0) else j1 ()) else j1 ()
def QaP (N:Nat) (a0:Wo):Nat->Int->(List Int)->Option (Ex (List Int×Int) (List Int))
 | 0,_,_=>none
 | n+1,v2,v3 =>
  bif (decide (v2<((a0.Pages.length:Nat):Int))) then (bnd (Qar N a0 v2) λ y4 =>
   bif (y4.2 != 0) then some (.ret ([],y4.2))
   else grd ((v3.length+y4.1.length)*8<=140737488355328) <|
   QaP N a0 n (wI (v2+1)) (v3++y4.1))
  else some (.nxt v3)
def Qcp (N:Nat) (a0:Wo):Option (List Int×Int):=bnd (Qad N a0) λ y1=>bif (!y1) then some ([],1) else bnd (QaP N a0 N 0 []) λ e=>exK e (λ r=>some r) λ y5=>some (y5,0)
def Qaz (N:Nat) (a0:Wo) (y1:List Int×Int):Nat->Int->(List Int)->Option (List Int)
 | 0,_,_=>none
 | n+1,v2,v3 =>
  bif (decide (v2<((y1.1.length:Nat):Int))) then (bnd (Xb y1.1 v2) λ p4 =>
   bnd (Qau N a0 p4) λ y5 =>
   bif (y5.1.Kind != 0) then (bnd (Xb y1.1 v2) λ p6 =>
    grd ((v3.length+1)*8<=140737488355328) <|
    Qaz N a0 y1 n (wI (v2+1)) (v3++[p6]))
   else Qaz N a0 y1 n (wI (v2+1)) v3)
  else some v3
def Qas (N:Nat) (a0:Wo):Option (List Int×Int):=bnd (Qcp N a0) λ y1=>bnd (Qaz N a0 y1 N 0 []) λ y7=>some (y7,y1.2)
def Qca (N:Nat) (a0:Wo) (a1:Int):Option (Ww×Int):=bnd (Qad N a0) λ y1=>bif (!y1) then some ((Ww.mk 0 0 0),1) else bif (a1==0) then some ((Ww.mk 0 0 0),5) else bnd (Qau N a0 a1) λ y2=>bif (y2.2==0) then (bif (y2.1.Kind==0) then some ((Ww.mk 0 0 0),4) else some (y2.1,y2.2)) else some (y2.1,y2.2)
def QbF (N:Nat) (a0:Ww) (a1:Int):Option Bool:=bnd (Qcg N a0) λ y1=>bif (!y1) then some false else bif (decide (a1<0)) then some false else bif (decide (a1>=a0.Length)) then some false else bif (a0.Kind==2) then some true else bif (a0.Kind==1) then (grd (0<=(wU a1)) <| some ((Yp .u32 (X2 .u32 a0.Map (wU a1)) 1)==1)) else some false
def Qcq (N:Nat) (a0:List Int) (a1:Int) (a2:Int):Option (List Int×Int):=bif (decide (a2<0)) then some ([],1) else bnd (QcZ N a0 a1 a2) λ y1=>bif (!y1.2) then some ([],2) else grd (0<=y1.1/\y1.1<=(wI (y1.1+a2))/\(wI (y1.1+a2))<=((a0.length:Nat):Int)) <| grd ((min ((wI (y1.1+a2)).toNat-y1.1.toNat) (a0.length-y1.1.toNat))*8<=140737488355328) <| some (((a0.drop y1.1.toNat).take ((wI (y1.1+a2)).toNat-y1.1.toNat)),0)
def QdI (N:Nat) (a0:Wo) (a1:Int):Option (List Int×Int):=bnd (Qca N a0 a1) λ y1=>bif (y1.2 != 0) then some ([],y1.2) else bnd (Qcq N a0.Words (wU (a1+1)) y1.1.Length) λ y2=>some (y2.1,y2.2)
def Qak (N:Nat) (a0:Wo) (y1:List Int×Int) (y6:List Int×Int) (v2:Int) (y4:Ww×Int):Nat->Int->Option (Ex Ud Unit)
 | 0,_=>none
 | n+1,v7 =>
  bif (decide (v7<((y6.1.length:Nat):Int))) then (bnd (QbF N y4.1 v7) λ y8 =>
   bif y8 then (bnd (Xb y6.1 v7) λ p9 =>
    bif (p9 != 0) then (bnd (Xb y6.1 v7) λ p10 =>
     bnd (Qb8 N y1.1 p10) λ y11 =>
     bif (!y11) then (bnd (Xb y1.1 v2) λ p12 =>
      bnd (QcM N a0.Conf (wU ((wU (p12+1))+(wU v7)))) λ y13 =>
      some (.ret (Ud.mk 6 y13.1 (wU ((wU (p12+1))+(wU v7))))))
     else Qak N a0 y1 y6 v2 y4 n (wI (v7+1)))
    else Qak N a0 y1 y6 v2 y4 n (wI (v7+1)))
   else Qak N a0 y1 y6 v2 y4 n (wI (v7+1)))
  else some (.nxt ())
def Qa3 (N:Nat) (a0:Wo) (y1:List Int×Int):Nat->Int->Option (Ex Ud Unit)
 | 0,_=>none
 | n+1,v2 =>
  bif (decide (v2<((y1.1.length:Nat):Int))) then (bnd (Xb y1.1 v2) λ p3 =>
   bnd (Qca N a0 p3) λ y4 =>
   bnd (Xb y1.1 v2) λ p5 =>
   bnd (QdI N a0 p5) λ y6 =>
   bnd (Qak N a0 y1 y6 v2 y4 N 0) λ e=>exK e (λ r=>some (.ret r)) λ y14 =>
   Qa3 N a0 y1 n (wI (v2+1)))
  else some (.nxt ())
def QcN (N:Nat) (a0:Wo):Option Ud:=bnd (Qas N a0) λ y1=>bnd (Qa3 N a0 y1 N 0) λ e=>exK e (λ r=>some r) λ y15=>some (Ud.mk 0 0 0)
def Qba (N:Nat) (a0:Wo):Nat->Int->Option (Ex Ud Unit)
 | 0,_=>none
 | n+1,v2 =>
  bif (decide (v2<((a0.Pages.length:Nat):Int))) then (bnd (Qd2 N a0 v2) λ y3 =>
   bif (y3.Fault != 0) then some (.ret y3)
   else Qba N a0 n (wI (v2+1)))
  else some (.nxt ())
def Qbb (N:Nat) (a0:Wo):Nat->Int->Int->Option Int
 | 0,_,_=>none
 | n+1,v6,v7 =>
  bif (decide (v7<((a0.Pages.length:Nat):Int))) then (bnd (Xb a0.Pages v7) λ p8 =>
   bif (p8.Kind==1) then (bnd (Xb a0.Pages v7) λ p9 =>
    bif (decide (p9.Pins>0)) then Qbb N a0 n (wI (v6+1)) (wI (v7+1))
    else Qbb N a0 n v6 (wI (v7+1)))
   else Qbb N a0 n v6 (wI (v7+1)))
  else some v6
def QfK (N:Nat) (a0:Wo):Option Ud:=bnd (Qad N a0) λ y1=>bif (!y1) then some (Ud.mk 1 0 0) else bnd (Qba N a0 N 0) λ e=>exK e (λ r=>some r) λ y4=>bnd (QcN N a0) λ y5=>bif (y5.Fault != 0) then some y5 else bnd (Qbb N a0 N 0 0) λ y10=>bif (decide (y10>(wI (a0.Conf.Pages.tdiv 4)))) then some (Ud.mk 7 0 0) else some (Ud.mk 0 0 0)
def Qb4 (N:Nat) (a0:Wo):Option Bool:=bnd (QfK N a0) λ y1=>some ((y1.Fault==0)&&((y1.Page==0)&&(y1.Addr==0)))
def Qdq (N:Nat) (a0:List UE) (a1:Int):Nat->Int->Option (Ex Int Unit)
 | 0,_=>none
 | n+1,v1 =>
  bif (decide (v1<((a0.length:Nat):Int))) then (bnd (Xb a0 v1) λ p2 =>
   bif (p2.Ref==a1) then some (.ret v1)
   else Qdq N a0 a1 n (wI (v1+1)))
  else some (.nxt ())
def QeD (N:Nat) (a0:List UE) (a1:Int):Option Int:=bnd (Qdq N a0 a1 N 0) λ e=>exK e (λ r=>some r) λ y3=>some (-1)
def QeE (N:Nat) (a0:Wo) (a1:Int):Option Int:=bnd (QcM N a0.Conf a1) λ y1=>some y1.1
def Qbn (N:Nat) (a0:Wo) (a1:List UE) (y2:List Int×Int):Nat->Int->(List Int)->Option (Ex Bool (List Int))
 | 0,_,_=>none
 | n+1,v3,v4 =>
  bif (decide (v3<((a1.length:Nat):Int))) then (bnd (Xb a1 v3) λ p5 =>
   bnd (Qb8 N y2.1 p5.Ref) λ y6 =>
   bif (!y6) then some (.ret false)
   else bnd (Xb a1 v3) λ p7 =>
   bnd (QeD N a1 p7.Ref) λ y8 =>
   bif (y8 != v3) then some (.ret false)
   else bnd (Xb a1 v3) λ p9 =>
   bif (decide (p9.Count<1)) then some (.ret false)
   else bnd (Xb a1 v3) λ p10 =>
   bif (decide (p10.Count>1000)) then some (.ret false)
   else bnd (Xb a1 v3) λ p11 =>
   bnd (QeE N a0 p11.Ref) λ y12 =>
   bnd (Xb v4 y12) λ p13 =>
   bnd (Xb a1 v3) λ p14 =>
   bnd (Xb v4 y12) λ p15 =>
   Qbn N a0 a1 y2 n (wI (v3+1)) (v4.set y12.toNat (wI (p13+p14.Count))))
  else some (.nxt v4)
def QbM (N:Nat) (a0:Wo) (y16:List Int):Nat->Int->Option (Ex Bool Unit)
 | 0,_=>none
 | n+1,v17 =>
  bif (decide (v17<((a0.Pages.length:Nat):Int))) then (bnd (Xb a0.Pages v17) λ p18 =>
   bnd (Xb y16 v17) λ p19 =>
   bif (p18.Pins != p19) then some (.ret false)
   else QbM N a0 y16 n (wI (v17+1)))
  else some (.nxt ())
def QbW (N:Nat) (a0:Wo) (a1:List UE):Option Bool:=bnd (Qb4 N a0) λ y1=>bif (!y1) then some false else bif (decide (((a1.length:Nat):Int)>64)) then some false else bnd (Qas N a0) λ y2=>grd (0<=((a0.Pages.length:Nat):Int)/\((a0.Pages.length:Nat):Int).toNat*8<=140737488355328) <| bnd (Qbn N a0 a1 y2 N 0 (List.replicate ((a0.Pages.length:Nat):Int).toNat (0:Int))) λ e=>exK e (λ r=>some r) λ y16=>bnd (QbM N a0 y16 N 0) λ e=>exK e (λ r=>some r) λ y20=>some true
def QcC (N:Nat) (a0:Wq) (a2:Int):Nat->Int->Int->Option Int
 | 0,_,_=>none
 | n+1,v1,v2 =>
  bif (decide (v2<a2)) then (bnd (Xb a0.Slots v2) λ p3 =>
   bif p3.Live then QcC N a0 a2 n (wI (v1+1)) (wI (v2+1))
   else QcC N a0 a2 n v1 (wI (v2+1)))
  else some v1
def Qfw (N:Nat) (a0:Wq) (a1:Int) (a2:Int):Option Int:=bnd (QcC N a0 a2 N 0 a1) λ y4=>some y4
def QgS (N:Nat) (a0:Wq) (a1:Int):Option Int:=bif (decide ((wI (a1+1))<((a0.Scopes.length:Nat):Int))) then (bnd (Xb a0.Scopes (wI (a1+1))) λ p1=>some p1.From) else some ((a0.Slots.length:Nat):Int)
def QcO (N:Nat) (a0:Wq):Nat->Int->Option (Ex Bool Unit)
 | 0,_=>none
 | n+1,v1 =>
  bif (decide (v1<((a0.Issued.length:Nat):Int))) then (bnd (Xb a0.Issued v1) λ p2 =>
   bif (decide (p2<0)) then some (.ret false)
   else bnd (Xb a0.Issued v1) λ p3 =>
   bif (decide (p3>4095)) then some (.ret false)
   else QcO N a0 n (wI (v1+1)))
  else some (.nxt ())
def Qai (N:Nat) (a0:Wq):Nat->Int->Int->Option (Ex Bool Unit)
 | 0,_,_=>none
 | n+1,v5,v6 =>
  bif (decide (v6<((a0.Slots.length:Nat):Int))) then (bnd (Xb a0.Slots v6) λ p7 =>
   bif (decide (p7.Stamp<=v5)) then some (.ret false)
   else bif (decide (p7.Stamp>((a0.Issued.length:Nat):Int))) then some (.ret false)
   else bnd (Xb a0.Issued (wI (p7.Stamp-1))) λ p8 =>
   bif (p8 != v6) then some (.ret false)
   else bif (!(p7.Live==(p7.Ref != 0))) then some (.ret false)
   else Qai N a0 n p7.Stamp (wI (v6+1)))
  else some (.nxt ())
def Qag (N:Nat) (a0:Wq):Nat->Int->Int->Option (Ex Bool Unit)
 | 0,_,_=>none
 | n+1,v10,v11 =>
  bif (decide (v11<((a0.Scopes.length:Nat):Int))) then (bnd (Xb a0.Scopes v11) λ p12 =>
   bif (v11==0) then (bif (p12.From != 0) then some (.ret false)
    else bif (!p12.Base) then some (.ret false)
    else bif (decide (p12.From<v10)) then some (.ret false)
    else bif (decide (p12.From>((a0.Slots.length:Nat):Int))) then some (.ret false)
    else bif (decide (p12.Cap<0)) then some (.ret false)
    else bif (decide (p12.Cap>64)) then some (.ret false)
    else Qag N a0 n p12.From (wI (v11+1)))
   else bif (decide (p12.From<v10)) then some (.ret false)
   else bif (decide (p12.From>((a0.Slots.length:Nat):Int))) then some (.ret false)
   else bif (decide (p12.Cap<0)) then some (.ret false)
   else bif (decide (p12.Cap>64)) then some (.ret false)
   else Qag N a0 n p12.From (wI (v11+1)))
  else some (.nxt ())
def Qcb (N:Nat) (a0:Wq):Nat->Int->Option (Ex Bool Unit)
 | 0,_=>none
 | n+1,v14 =>
  bif (decide (v14<((a0.Scopes.length:Nat):Int))) then (bnd (Xb a0.Scopes v14) λ p15 =>
   bnd (QgS N a0 v14) λ y16 =>
   bnd (Qfw N a0 p15.From y16) λ y17 =>
   bnd (Xb a0.Scopes v14) λ p18 =>
   bif (decide (y17>p18.Cap)) then some (.ret false)
   else Qcb N a0 n (wI (v14+1)))
  else some (.nxt ())
def QbG (N:Nat) (a0:Wq):Option Bool:=jn (λ (_:Unit)=>bnd (QcO N a0 N 0) λ e=>exK e (λ r=>some r) λ y4=>bnd (Qai N a0 N 0 0) λ e=>exK e (λ r=>some r) λ y9=>bnd (Qag N a0 N 0 0) λ e=>exK e (λ r=>some r) λ y13=>bnd (Qcb N a0 N 0) λ e=>exK e (λ r=>some r) λ y19=>some true) λ j1=>bif (decide (((a0.Issued.length:Nat):Int)>4096)) then some false else bif (decide (((a0.Scopes.length:Nat):Int)>64)) then some false else bif (((a0.Scopes.length:Nat):Int)==0) then (bif (decide (((a0.Slots.length:Nat):Int)>0)) then some false else j1 ()) else j1 ()
def Qcc (N:Nat) (a0:Wy):Nat->Int->Option (Ex Bool Unit)
 | 0,_=>none
 | n+1,v1 =>
  bif (decide (v1<((a0.Entries.length:Nat):Int))) then (bnd (Xb a0.Entries v1) λ p2 =>
   bif (decide (p2.Gen<1)) then some (.ret false)
   else bif (decide (p2.Gen>4294967295)) then some (.ret false)
   else bif (!p2.Live) then (bif (p2.Ref != 0) then some (.ret false)
    else Qcc N a0 n (wI (v1+1)))
   else Qcc N a0 n (wI (v1+1)))
  else some (.nxt ())
def QbH (N:Nat) (a0:Wy):Option Bool:=bnd (Qcc N a0 N 0) λ e=>exK e (λ r=>some r) λ y3=>some (decide (((a0.Entries.length:Nat):Int)<=64))
def Qa7 (N:Nat) (a0:Wy):Nat->Int->(List Int)->Option (List Int)
 | 0,_,_=>none
 | n+1,v1,v2 =>
  bif (decide (v1<((a0.Entries.length:Nat):Int))) then (bnd (QbH N a0) λ y3 =>
   bif y3 then (bnd (Xb a0.Entries v1) λ p4 =>
    bif p4.Live then (bnd (Xb a0.Entries v1) λ p5 =>
     grd ((v2.length+1)*8<=140737488355328) <|
     Qa7 N a0 n (wI (v1+1)) (v2++[p5.Ref]))
    else Qa7 N a0 n (wI (v1+1)) v2)
   else some v2)
  else some v2
def Qa4 (N:Nat) (a0:Wy):Option (List Int):=bnd (Qa7 N a0 N 0 []) λ y6=>some y6
def Qa8 (N:Nat) (a0:Wq):Nat->Int->(List Int)->Option (List Int)
 | 0,_,_=>none
 | n+1,v1,v2 =>
  bif (decide (v1<((a0.Slots.length:Nat):Int))) then (bnd (QbG N a0) λ y3 =>
   bif y3 then (bnd (Xb a0.Slots v1) λ p4 =>
    bif p4.Live then (bnd (Xb a0.Slots v1) λ p5 =>
     grd ((v2.length+1)*8<=140737488355328) <|
     Qa8 N a0 n (wI (v1+1)) (v2++[p5.Ref]))
    else Qa8 N a0 n (wI (v1+1)) v2)
   else some v2)
  else some v2
def Qb5 (N:Nat) (a0:Wq):Option (List Int):=bnd (Qa8 N a0 N 0 []) λ y6=>some y6
def Qap (N:Nat) (a1:List Int) (y2:List Int×Int):Nat->Int->Option (Ex Bool Unit)
 | 0,_=>none
 | n+1,v3 =>
  bif (decide (v3<((a1.length:Nat):Int))) then (bnd (Xb a1 v3) λ p4 =>
   bif (p4 != 0) then (bnd (Xb a1 v3) λ p5 =>
    bnd (Qb8 N y2.1 p5) λ y6 =>
    bif (!y6) then some (.ret false)
    else Qap N a1 y2 n (wI (v3+1)))
   else Qap N a1 y2 n (wI (v3+1)))
  else some (.nxt ())
def Qbv (N:Nat) (a0:Wo) (a1:List Int):Option Bool:=bnd (Qb4 N a0) λ y1=>bif (!y1) then some false else bnd (Qas N a0) λ y2=>bnd (Qap N a1 y2 N 0) λ e=>exK e (λ r=>some r) λ y7=>some true
def Qch (N:Nat) (a0:Uh):Option Bool:=bnd (QbW N a0.Heap a0.Pins) λ y1=>bif (!y1) then some false else bnd (QbG N a0.Locals) λ y2=>bif (!y2) then some false else bnd (QbH N a0.Globals) λ y3=>bif (!y3) then some false else bnd (QbH N a0.Weaks) λ y4=>bif (!y4) then some false else bnd (Qa4 N a0.Globals) λ y5=>bnd (Qb8 N y5 0) λ y6=>bif y6 then some false else grd (a0.Roots.length*8<=140737488355328) <| bnd (Qb5 N a0.Locals) λ y7=>grd ((a0.Roots.length+y7.length)*8<=140737488355328) <| grd (((a0.Roots.length+y7.length)+y5.length)*8<=140737488355328) <| bnd (Qa4 N a0.Weaks) λ y8=>grd ((((a0.Roots.length+y7.length)+y5.length)+y8.length)*8<=140737488355328) <| bnd (Qbv N a0.Heap (((a0.Roots++y7)++y5)++y8)) λ y9=>some y9
def Qcd (N:Nat) (a0:Wo) (y3:List Int×Int):Nat->Int->(List Wx)->Option (List Wx)
 | 0,_,_=>none
 | n+1,v4,v5 =>
  grd (v5.length<=140737488355328) <|
  bif (decide (v4<((v5.length:Nat):Int))) then (bnd (Xb v5 v4) λ p6 =>
   bif (p6.Kind==1) then (bif (decide (p6.Pins>0)) then (bnd (Xb v5 v4) λ p7 =>
       Qcd N a0 y3 n (wI (v4+1)) (v5.set v4.toNat (Wx.mk p7.Kind (wI (1-a0.Space)) p7.Used p7.Pins)))
    else Qcd N a0 y3 n (wI (v4+1)) v5)
   else Qcd N a0 y3 n (wI (v4+1)) v5)
  else some v5
def Qec (N:Nat) (a0:Wo):Option (WV×Int):=bnd (Qad N a0) λ y1=>bif (!y1) then some ((WV.mk zHp [] [] [] 0 (Us.mk 0 0 0 0 0 0)),1) else bnd (Qb4 N a0) λ y2=>bif (!y2) then some ((WV.mk zHp [] [] [] 0 (Us.mk 0 0 0 0 0 0)),19) else bnd (Qas N a0) λ y3=>grd (a0.Pages.length*32<=140737488355328) <| bnd (Qcd N a0 y3 N 0 a0.Pages) λ y8=>some ((WV.mk (Wo.mk a0.Conf a0.Words y8 a0.Space a0.Bump) y3.1 [] [] 0 (Us.mk 0 0 0 0 0 0)),0)
def Qc2 (N:Nat) (a0:Int):Option (Int×Bool):=bif ((a0.tmod 4) != 2) then some (0,false) else bif (decide ((X2 .u64 a0 2)>=4294967296)) then some (0,false) else some ((X2 .u64 a0 2),true)
def QdD (N:Nat) (a0:WV) (a1:Int):Nat->Int->Option (Ex Bool Unit)
 | 0,_=>none
 | n+1,v1 =>
  bif (decide (v1<((a0.Taken.length:Nat):Int))) then (bnd (Xb a0.Taken v1) λ p2 =>
   bif (p2==a1) then some (.ret true)
   else QdD N a0 a1 n (wI (v1+1)))
  else some (.nxt ())
def Qgv (N:Nat) (a0:WV) (a1:Int):Option Bool:=bnd (QdD N a0 a1 N 0) λ e=>exK e (λ r=>some r) λ y3=>some false
def QdE (N:Nat) (a0:WV) (a1:Int):Option Bool:=bif (decide (a1<0)) then some false else bif (decide (a1>=((a0.Heap.Pages.length:Nat):Int))) then some false else bnd (Xb a0.Heap.Pages a1) λ p1=>bif (p1.Kind==1) then (bif (p1.Space != a0.Heap.Space) then (bnd (Qgv N a0 a1) λ y2=>some (!y2)) else some false) else some false
def Qbo (N:Nat) (a2:List Int) (y1:Int×Bool):Nat->Int->(List Int)->Option (List Int)
 | 0,_,_=>none
 | n+1,v2,v3 =>
  bif (decide (v2<((a2.length:Nat):Int))) then (bnd (Xb a2 v2) λ p4 =>
   bnd (Xb v3 (wI (y1.1+v2))) λ p5 =>
   Qbo N a2 y1 n (wI (v2+1)) (v3.set (wI (y1.1+v2)).toNat p4))
  else some v3
def Qci (N:Nat) (a0:List Int) (a1:Int) (a2:List Int):Option (List Int×Int):=bnd (QcZ N a0 a1 ((a2.length:Nat):Int)) λ y1=>bif (!y1.2) then some ([],2) else grd (a0.length*8<=140737488355328) <| bnd (Qbo N a2 y1 N 0 a0) λ y6=>some (y6,0)
def Qc0 (N:Nat) (a0:List Int) (a1:Int) (a2:Int):Option (List Int×Int):=bnd (Qci N a0 a1 [a2]) λ y1=>some (y1.1,y1.2)
def Qd3 (N:Nat) (a0:WV) (a1:Int):Option WV:=grd (a0.Queue.length*8<=140737488355328) <| grd ((a0.Queue.length+1)*8<=140737488355328) <| some (WV.mk a0.Heap a0.Old a0.Taken (a0.Queue++[a1]) a0.Scanned (Us.mk a0.Report.Copied (wI (a0.Report.Kept+1)) a0.Report.Filled a0.Report.Freed a0.Report.Cleared a0.Report.Steps))
def Qb6 (N:Nat) (a0:List Wx):Nat->Int->(List IZ)->Option (List IZ)
 | 0,_,_=>none
 | n+1,v1,v2 =>
  bif (decide (v1<((a0.length:Nat):Int))) then (bnd (Xb a0 v1) λ p3 =>
   bif (p3.Kind != 0) then Qb6 N a0 n (wI (v1+1)) v2
   else grd (v2.length<=140737488355328) <|
   jn (λ (_:Unit) =>
    grd ((v2.length+1)*16<=140737488355328) <|
    Qb6 N a0 n (wI (v1+1)) (v2++[(IZ.mk v1 1)])) λ j1 =>
   bif (decide (((v2.length:Nat):Int)>0)) then (bnd (Xb v2 (wI (((v2.length:Nat):Int)-1))) λ p4 =>
    bnd (Xb v2 (wI (((v2.length:Nat):Int)-1))) λ p5 =>
    bif ((wI (p4.From+p5.Len))==v1) then (bnd (Xb v2 (wI (((v2.length:Nat):Int)-1))) λ p6 =>
     bnd (Xb v2 (wI (((v2.length:Nat):Int)-1))) λ p7 =>
     Qb6 N a0 n (wI (v1+1)) (v2.set (wI (((v2.length:Nat):Int)-1)).toNat (IZ.mk p7.From (wI (p6.Len+1)))))
    else j1 ())
   else j1 ())
  else some v2
def QgM (N:Nat) (a0:List Wx):Option (List IZ):=bnd (Qb6 N a0 N 0 []) λ y8=>some y8
def QcP (N:Nat) (a1:Int) (y1:List IZ):Nat->Int->Option (Ex Int Unit)
 | 0,_=>none
 | n+1,v2 =>
  bif (decide (v2<((y1.length:Nat):Int))) then (bif (decide (a1>=1)) then (bnd (Xb y1 v2) λ p3 =>
      bif (decide (p3.Len>=a1)) then (bnd (Xb y1 v2) λ p4 =>
       some (.ret p4.From))
      else QcP N a1 y1 n (wI (v2+1)))
   else QcP N a1 y1 n (wI (v2+1)))
  else some (.nxt ())
def Qdr (N:Nat) (a0:List Wx) (a1:Int):Option Int:=bnd (QgM N a0) λ y1=>bnd (QcP N a1 y1 N 0) λ e=>exK e (λ r=>some r) λ y5=>some (-1)
def QdU (N:Nat) (a1:Int) (a2:Int) (a3:Wx) (a4:Wx):Nat->Int->(List Wx)->Option (Ex (List Wx×Int) (List Wx))
 | 0,_,_=>none
 | n+1,v1,v2 =>
  bif (decide (v1<a2)) then (bnd (Xb v2 (wI (a1+v1))) λ p3 =>
   bif (p3.Kind != 0) then some (.ret ([],20))
   else bnd (Xb v2 (wI (a1+v1))) λ p4 =>
   QdU N a1 a2 a3 a4 n (wI (v1+1)) (v2.set (wI (a1+v1)).toNat a4))
  else some (.nxt v2)
def Qfx (N:Nat) (a0:List Wx) (a1:Int) (a2:Int) (a3:Wx) (a4:Wx):Option (List Wx×Int):=bif (decide (a1<0)) then some ([],2) else bif (decide (a1>=((a0.length:Nat):Int))) then some ([],2) else bif (decide (a2>(wI (((a0.length:Nat):Int)-a1)))) then some ([],2) else grd (a0.length*32<=140737488355328) <| bnd (QdU N a1 a2 a3 a4 N 0 a0) λ e=>exK e (λ r=>some r) λ y5=>bnd (Xb y5 a1) λ p6=>some ((y5.set a1.toNat a3),0)
def Qds (N:Nat) (a0:List Wx) (a1:Int) (a2:Int):Option (List Wx×Int):=bif (decide (a2<0)) then some ([],1) else bif (decide (a2>1)) then some ([],1) else bnd (Qfx N a0 a1 1 (Wx.mk 1 a2 0 0) (Wx.mk 0 0 0 0)) λ y1=>some (y1.1,y1.2)
def Qdt (N:Nat) (a0:WV) (a1:Int):Option (WV×Int×Bool):=grd (a0.Heap.Pages.length*32<=140737488355328) <| jn (λ (_:Unit)=>bnd (Qdr N a0.Heap.Pages 1) λ y4=>bif (decide (y4<0)) then some ((WV.mk zHp [] [] [] 0 (Us.mk 0 0 0 0 0 0)),0,false) else bnd (Qds N a0.Heap.Pages y4 (wI (1-a0.Heap.Space))) λ y5=>grd (a0.Taken.length*8<=140737488355328) <| grd ((a0.Taken.length+1)*8<=140737488355328) <| bnd (Xb y5.1 y4) λ p13=>bnd (Xb y5.1 y4) λ p14=>bnd (Xb y5.1 y4) λ p15=>some ((WV.mk (Wo.mk a0.Heap.Conf a0.Heap.Words (y5.1.set y4.toNat (Wx.mk p15.Kind p15.Space (wI (p14.Used+a1)) p15.Pins)) a0.Heap.Space a0.Heap.Bump) a0.Old (a0.Taken++[y4]) a0.Queue a0.Scanned a0.Report),(wU (wI ((wI (4096+(wI (y4*a0.Heap.Conf.PageWords))))+p13.Used))),true)) λ j1=>bif (decide (((a0.Taken.length:Nat):Int)>0)) then (bnd (Xb a0.Taken (wI (((a0.Taken.length:Nat):Int)-1))) λ p1=>bnd (Xb a0.Heap.Pages p1) λ p2=>bif (decide ((wI (p2.Used+a1))<=a0.Heap.Conf.PageWords)) then (bnd (Xb a0.Taken (wI (((a0.Taken.length:Nat):Int)-1))) λ p3=>bnd (Xb a0.Heap.Pages p3) λ p10=>bnd (Xb a0.Heap.Pages p3) λ p11=>bnd (Xb a0.Heap.Pages p3) λ p12=>some ((WV.mk (Wo.mk a0.Heap.Conf a0.Heap.Words (a0.Heap.Pages.set p3.toNat (Wx.mk p12.Kind p12.Space (wI (p11.Used+a1)) p12.Pins)) a0.Heap.Space a0.Heap.Bump) a0.Old a0.Taken a0.Queue a0.Scanned a0.Report),(wU (wI ((wI (4096+(wI (p3*a0.Heap.Conf.PageWords))))+p10.Used))),true)) else j1 ()) else j1 ()
def QeF (N:Nat) (a0:List Int) (a1:Int) (a2:Int) (a3:Int):Option (List Int×Int):=bnd (Qcq N a0 a2 a3) λ y1=>bif (y1.2 != 0) then some ([],y1.2) else bnd (Qci N a0 a1 y1.1) λ y2=>some (y2.1,y2.2)
def Qc7 (N:Nat) (a0:Int):Option (Int×Int):=bif (decide (a0>=4294967296)) then some (0,1) else some ((wU ((wU (4*a0))+2)),0)
def QcQ (N:Nat) (a0:WV) (a1:Int):Nat->Int->(List Wx)->Option (List Wx)
 | 0,_,_=>none
 | n+1,v10,v11 =>
  grd (v11.length<=140737488355328) <|
  bif (decide (v10<((v11.length:Nat):Int))) then (bnd (Xb v11 v10) λ p12 =>
   bif (p12.Kind==3) then (bnd (Xb v11 v10) λ p13 =>
    QcQ N a0 a1 n (wI (v10+1)) (v11.set v10.toNat (Wx.mk p13.Kind (wI (1-a0.Heap.Space)) p13.Used p13.Pins)))
   else some v11)
  else some v11
def QcD (N:Nat) (a0:WV) (a1:Int):Option (WV×Int×Int):=bif (a1==0) then some (a0,a1,0) else bnd (Qb8 N a0.Queue a1) λ y1=>bif y1 then some (a0,a1,0) else bnd (Qb8 N a0.Old a1) λ y2=>bif (!y2) then some ((WV.mk zHp [] [] [] 0 (Us.mk 0 0 0 0 0 0)),0,19) else bnd (QaX N a0.Heap.Words a1) λ y3=>bnd (Qc2 N y3.1) λ y4=>bif y4.2 then some (a0,y4.1,0) else bnd (QcM N a0.Heap.Conf a1) λ y5=>bif (y5.2.2 != 0) then some ((WV.mk zHp [] [] [] 0 (Us.mk 0 0 0 0 0 0)),0,19) else bif (decide (y5.1>=((a0.Heap.Pages.length:Nat):Int))) then some ((WV.mk zHp [] [] [] 0 (Us.mk 0 0 0 0 0 0)),0,19) else bnd (QdE N a0 y5.1) λ y6=>bif y6 then (bnd (Qd3 N a0 a1) λ y7=>some (y7,a1,0)) else bnd (Xb a0.Heap.Pages y5.1) λ p8=>bif (p8.Kind==2) then (grd (a0.Heap.Pages.length*32<=140737488355328) <| bnd (Xb a0.Heap.Pages y5.1) λ p9=>bnd (QcQ N a0 a1 N (wI (y5.1+1)) (a0.Heap.Pages.set y5.1.toNat (Wx.mk p9.Kind (wI (1-a0.Heap.Space)) p9.Used p9.Pins))) λ y14=>bnd (Qd3 N (WV.mk (Wo.mk a0.Heap.Conf a0.Heap.Words y14 a0.Heap.Space a0.Heap.Bump) a0.Old a0.Taken a0.Queue a0.Scanned a0.Report) a1) λ y15=>some (y15,a1,0)) else bnd (Qbu N y3.1) λ y16=>bnd (Qb2 N y16.1) λ y17=>bnd (Qdt N a0 y17) λ y18=>bif (!y18.2.2) then some ((WV.mk zHp [] [] [] 0 (Us.mk 0 0 0 0 0 0)),0,3) else bnd (QeF N y18.1.Heap.Words y18.2.1 a1 y17) λ y19=>bnd (Qc7 N y18.2.1) λ y20=>bnd (Qc0 N y19.1 a1 y20.1) λ y21=>grd (y18.1.Queue.length*8<=140737488355328) <| grd ((y18.1.Queue.length+1)*8<=140737488355328) <| some ((WV.mk (Wo.mk y18.1.Heap.Conf y21.1 y18.1.Heap.Pages y18.1.Heap.Space y18.1.Heap.Bump) y18.1.Old y18.1.Taken (y18.1.Queue++[y18.2.1]) y18.1.Scanned (Us.mk (wI (y18.1.Report.Copied+1)) y18.1.Report.Kept y18.1.Report.Filled y18.1.Report.Freed y18.1.Report.Cleared y18.1.Report.Steps)),y18.2.1,0)
def Qbp (N:Nat) (a1:List Int):Nat->Int->Int->Int->(List Int)->(List Wx)->Int->Int->(List Int)->(List Int)->(List Int)->Int->Int->Int->Int->Int->Int->Int->(List Int)->Option (Ex (WV×List Int×Int) (Int×Int×List Int×List Wx×Int×Int×List Int×List Int×List Int×Int×Int×Int×Int×Int×Int×Int×List Int))
 | 0,_,_,_,_,_,_,_,_,_,_,_,_,_,_,_,_,_,_=>none
 | n+1,v1,v2,v3,v4,v5,v6,v7,v8,v9,v10,v11,v12,v13,v14,v15,v16,v17,v18 =>
  bif (decide (v1<((a1.length:Nat):Int))) then (bnd (Xb a1 v1) λ p19 =>
   bnd (QcD N (WV.mk (Wo.mk (WX.mk v2 v3) v4 v5 v6 v7) v8 v9 v10 v11 (Us.mk v12 v13 v14 v15 v16 v17)) p19) λ y20 =>
   bif (y20.2.2 != 0) then some (.ret ((WV.mk zHp [] [] [] 0 (Us.mk 0 0 0 0 0 0)),[],y20.2.2))
   else grd ((v18.length+1)*8<=140737488355328) <|
   Qbp N a1 n (wI (v1+1)) y20.1.Heap.Conf.PageWords y20.1.Heap.Conf.Pages y20.1.Heap.Words y20.1.Heap.Pages y20.1.Heap.Space y20.1.Heap.Bump y20.1.Old y20.1.Taken y20.1.Queue y20.1.Scanned y20.1.Report.Copied y20.1.Report.Kept y20.1.Report.Filled y20.1.Report.Freed y20.1.Report.Cleared y20.1.Report.Steps (v18++[y20.2.1]))
  else some (.nxt (v2,v3,v4,v5,v6,v7,v8,v9,v10,v11,v12,v13,v14,v15,v16,v17,v18))
def Qed (N:Nat) (a0:WV) (a1:List Int):Option (WV×List Int×Int):=bnd (Qbp N a1 N 0 a0.Heap.Conf.PageWords a0.Heap.Conf.Pages a0.Heap.Words a0.Heap.Pages a0.Heap.Space a0.Heap.Bump a0.Old a0.Taken a0.Queue a0.Scanned a0.Report.Copied a0.Report.Kept a0.Report.Filled a0.Report.Freed a0.Report.Cleared a0.Report.Steps []) λ e=>exK e (λ r=>some r) λ y21=>some ((WV.mk (Wo.mk (WX.mk y21.1 y21.2.1) y21.2.2.1 y21.2.2.2.1 y21.2.2.2.2.1 y21.2.2.2.2.2.1) y21.2.2.2.2.2.2.1 y21.2.2.2.2.2.2.2.1 y21.2.2.2.2.2.2.2.2.1 y21.2.2.2.2.2.2.2.2.2.1 (Us.mk y21.2.2.2.2.2.2.2.2.2.2.1 y21.2.2.2.2.2.2.2.2.2.2.2.1 y21.2.2.2.2.2.2.2.2.2.2.2.2.1 y21.2.2.2.2.2.2.2.2.2.2.2.2.2.1 y21.2.2.2.2.2.2.2.2.2.2.2.2.2.2.1 y21.2.2.2.2.2.2.2.2.2.2.2.2.2.2.2.1)),y21.2.2.2.2.2.2.2.2.2.2.2.2.2.2.2.2,0)
def Qez (N:Nat) (a0:WV) (a1:Int):Option Ww:=bnd (QaX N a0.Heap.Words a1) λ y1=>bnd (Qbu N y1.1) λ y2=>some y2.1
def Qbr (N:Nat) (a0:Ww):Nat->Int->(List Int)->Option (List Int)
 | 0,_,_=>none
 | n+1,v1,v2 =>
  bif (decide (v1<a0.Length)) then (bnd (Qcg N a0) λ y3 =>
   bif y3 then (bnd (QbF N a0 v1) λ y4 =>
    bif y4 then (grd ((v2.length+1)*8<=140737488355328) <|
     Qbr N a0 n (wI (v1+1)) (v2++[v1]))
    else Qbr N a0 n (wI (v1+1)) v2)
   else some v2)
  else some v2
def Qes (N:Nat) (a0:Ww):Option (List Int):=bnd (Qbr N a0 N 0 []) λ y5=>some y5
def QbI (N:Nat) (p1:Int) (y3:List Int):Nat->Int->Int->Int->(List Int)->(List Wx)->Int->Int->(List Int)->(List Int)->(List Int)->Int->Int->Int->Int->Int->Int->Int->Option (Ex (WV×Bool×Int) (Int×Int×List Int×List Wx×Int×Int×List Int×List Int×List Int×Int×Int×Int×Int×Int×Int×Int))
 | 0,_,_,_,_,_,_,_,_,_,_,_,_,_,_,_,_,_=>none
 | n+1,v4,v5,v6,v7,v8,v9,v10,v11,v12,v13,v14,v15,v16,v17,v18,v19,v20 =>
  bif (decide (v4<((y3.length:Nat):Int))) then (bnd (Xb y3 v4) λ p21 =>
   bnd (QaX N v7 (wU ((wU (p1+1))+(wU p21)))) λ y22 =>
   bnd (QcD N (WV.mk (Wo.mk (WX.mk v5 v6) v7 v8 v9 v10) v11 v12 v13 v14 (Us.mk v15 v16 v17 v18 v19 v20)) y22.1) λ y23 =>
   bif (y23.2.2 != 0) then some (.ret ((WV.mk zHp [] [] [] 0 (Us.mk 0 0 0 0 0 0)),false,y23.2.2))
   else bnd (Qc0 N y23.1.Heap.Words (wU ((wU (p1+1))+(wU p21))) y23.2.1) λ y24 =>
   QbI N p1 y3 n (wI (v4+1)) y23.1.Heap.Conf.PageWords y23.1.Heap.Conf.Pages y24.1 y23.1.Heap.Pages y23.1.Heap.Space y23.1.Heap.Bump y23.1.Old y23.1.Taken y23.1.Queue y23.1.Scanned y23.1.Report.Copied y23.1.Report.Kept y23.1.Report.Filled y23.1.Report.Freed y23.1.Report.Cleared y23.1.Report.Steps)
  else some (.nxt (v5,v6,v7,v8,v9,v10,v11,v12,v13,v14,v15,v16,v17,v18,v19,v20))
def QeG (N:Nat) (a0:WV):Option (WV×Bool×Int):=bif (decide (a0.Scanned>=((a0.Queue.length:Nat):Int))) then some (a0,false,0) else bnd (Xb a0.Queue a0.Scanned) λ p1=>bnd (Qez N a0 p1) λ y2=>bnd (Qes N y2) λ y3=>bnd (QbI N p1 y3 N 0 a0.Heap.Conf.PageWords a0.Heap.Conf.Pages a0.Heap.Words a0.Heap.Pages a0.Heap.Space a0.Heap.Bump a0.Old a0.Taken a0.Queue a0.Scanned a0.Report.Copied a0.Report.Kept a0.Report.Filled a0.Report.Freed a0.Report.Cleared a0.Report.Steps) λ e=>exK e (λ r=>some r) λ y25=>some ((WV.mk (Wo.mk (WX.mk y25.1 y25.2.1) y25.2.2.1 y25.2.2.2.1 y25.2.2.2.2.1 y25.2.2.2.2.2.1) y25.2.2.2.2.2.2.1 y25.2.2.2.2.2.2.2.1 y25.2.2.2.2.2.2.2.2.1 (wI (y25.2.2.2.2.2.2.2.2.2.1+1)) (Us.mk y25.2.2.2.2.2.2.2.2.2.2.1 y25.2.2.2.2.2.2.2.2.2.2.2.1 y25.2.2.2.2.2.2.2.2.2.2.2.2.1 y25.2.2.2.2.2.2.2.2.2.2.2.2.2.1 y25.2.2.2.2.2.2.2.2.2.2.2.2.2.2.1 (wI ((wI (y25.2.2.2.2.2.2.2.2.2.2.2.2.2.2.2+1))+((y3.length:Nat):Int))))),true,0)
def QbX (N:Nat):Nat->Int->Int->(List Int)->(List Wx)->Int->Int->(List Int)->(List Int)->(List Int)->Int->Int->Int->Int->Int->Int->Int->Option (WV×Int)
 | 0,_,_,_,_,_,_,_,_,_,_,_,_,_,_,_,_=>none
 | n+1,v1,v2,v3,v4,v5,v6,v7,v8,v9,v10,v11,v12,v13,v14,v15,v16 =>
  bnd (QeG N (WV.mk (Wo.mk (WX.mk v1 v2) v3 v4 v5 v6) v7 v8 v9 v10 (Us.mk v11 v12 v13 v14 v15 v16))) λ y17 =>
  bif (y17.2.2 != 0) then some ((WV.mk zHp [] [] [] 0 (Us.mk 0 0 0 0 0 0)),y17.2.2)
  else bif (!y17.2.1) then some (y17.1,0)
  else QbX N n y17.1.Heap.Conf.PageWords y17.1.Heap.Conf.Pages y17.1.Heap.Words y17.1.Heap.Pages y17.1.Heap.Space y17.1.Heap.Bump y17.1.Old y17.1.Taken y17.1.Queue y17.1.Scanned y17.1.Report.Copied y17.1.Report.Kept y17.1.Report.Filled y17.1.Report.Freed y17.1.Report.Cleared y17.1.Report.Steps
def Qfh (N:Nat) (a0:WV):Option (WV×Int):=bnd (QbX N N a0.Heap.Conf.PageWords a0.Heap.Conf.Pages a0.Heap.Words a0.Heap.Pages a0.Heap.Space a0.Heap.Bump a0.Old a0.Taken a0.Queue a0.Scanned a0.Report.Copied a0.Report.Kept a0.Report.Filled a0.Report.Freed a0.Report.Cleared a0.Report.Steps) λ r=>some r
def Qee (N:Nat) (a0:WV) (a1:Int):Option Int:=bnd (Qb8 N a0.Queue a1) λ y1=>bif y1 then some a1 else bnd (QaX N a0.Heap.Words a1) λ y2=>bnd (Qc2 N y2.1) λ y3=>some y3.1
def QbJ (N:Nat) (a0:WV) (v4:List Wx) (p5:Wx) (v1:Int) (v2:Int):Nat->Int->(List Int)->Option (List Int)
 | 0,_,_=>none
 | n+1,v7,v8 =>
  bif (decide (v7<a0.Heap.Conf.PageWords)) then (bnd (Xb v8 (wI ((wI (v1*a0.Heap.Conf.PageWords))+v7))) λ p9 =>
   QbJ N a0 v4 p5 v1 v2 n (wI (v7+1)) (v8.set (wI ((wI (v1*a0.Heap.Conf.PageWords))+v7)).toNat 0))
  else some v8
def Qa9 (N:Nat) (a0:WV):Nat->Int->Int->(List Int)->(List Wx)->Option (Int×List Int×List Wx)
 | 0,_,_,_,_=>none
 | n+1,v1,v2,v3,v4 =>
  grd (v4.length<=140737488355328) <|
  bif (decide (v1<((v4.length:Nat):Int))) then (bnd (Xb v4 v1) λ p5 =>
   bif (p5.Kind==0) then Qa9 N a0 n (wI (v1+1)) v2 v3 v4
   else bif (p5.Space != a0.Heap.Space) then Qa9 N a0 n (wI (v1+1)) v2 v3 v4
   else bnd (Xb v4 v1) λ p6 =>
   bnd (QbJ N a0 v4 p5 v1 v2 N 0 v3) λ y10 =>
   Qa9 N a0 n (wI (v1+1)) (wI (v2+1)) y10 (v4.set v1.toNat (Wx.mk 0 0 0 0)))
  else some (v2,v3,v4)
def QeH (N:Nat) (a0:WV):Option WV:=grd (a0.Heap.Pages.length*32<=140737488355328) <| grd (a0.Heap.Words.length*8<=140737488355328) <| bnd (Qa9 N a0 N 0 a0.Report.Freed a0.Heap.Words a0.Heap.Pages) λ y11=>some (WV.mk (Wo.mk a0.Heap.Conf y11.2.1 y11.2.2 a0.Heap.Space a0.Heap.Bump) a0.Old a0.Taken a0.Queue a0.Scanned (Us.mk a0.Report.Copied a0.Report.Kept a0.Report.Filled y11.1 a0.Report.Cleared a0.Report.Steps))
def QaW (N:Nat) (a0:WV):Nat->Int->(List Int)->Int->Option (List Int×Int)
 | 0,_,_,_=>none
 | n+1,v1,v2,v3 =>
  bif (decide (v1<((a0.Old.length:Nat):Int))) then (bnd (Xb a0.Old v1) λ p4 =>
   bnd (QcM N a0.Heap.Conf p4) λ y5 =>
   bnd (QdE N (WV.mk (Wo.mk a0.Heap.Conf v2 a0.Heap.Pages a0.Heap.Space a0.Heap.Bump) a0.Old a0.Taken a0.Queue a0.Scanned (Us.mk a0.Report.Copied a0.Report.Kept v3 a0.Report.Freed a0.Report.Cleared a0.Report.Steps)) y5.1) λ y6 =>
   bif (!y6) then QaW N a0 n (wI (v1+1)) v2 v3
   else bnd (Xb a0.Old v1) λ p7 =>
   bnd (Qb8 N a0.Queue p7) λ y8 =>
   bif y8 then QaW N a0 n (wI (v1+1)) v2 v3
   else bnd (Xb a0.Old v1) λ p9 =>
   bnd (Qez N (WV.mk (Wo.mk a0.Heap.Conf v2 a0.Heap.Pages a0.Heap.Space a0.Heap.Bump) a0.Old a0.Taken a0.Queue a0.Scanned (Us.mk a0.Report.Copied a0.Report.Kept v3 a0.Report.Freed a0.Report.Cleared a0.Report.Steps)) p9) λ y10 =>
   bnd (Qco N (Ww.mk 0 y10.Length 0)) λ y11 =>
   bnd (Xb a0.Old v1) λ p12 =>
   grd (0<=y10.Length/\y10.Length.toNat*8<=140737488355328) <|
   grd ((1+y10.Length.toNat)*8<=140737488355328) <|
   bnd (Qci N v2 p12 ([y11.1]++(List.replicate y10.Length.toNat (0:Int)))) λ y13 =>
   QaW N a0 n (wI (v1+1)) y13.1 (wI (v3+1)))
  else some (v2,v3)
def QeI (N:Nat) (a0:WV):Option WV:=bnd (QaW N a0 N 0 a0.Heap.Words a0.Report.Filled) λ y14=>some (WV.mk (Wo.mk a0.Heap.Conf y14.1 a0.Heap.Pages a0.Heap.Space a0.Heap.Bump) a0.Old a0.Taken a0.Queue a0.Scanned (Us.mk a0.Report.Copied a0.Report.Kept y14.2 a0.Report.Freed a0.Report.Cleared a0.Report.Steps))
def QaZ (N:Nat) (a2:List Int) (y5:WV×List Int×Int) (y6:WV×Int):Nat->Int->Int->(List Int)->Option (Int×List Int)
 | 0,_,_,_=>none
 | n+1,v7,v8,v9 =>
  bif (decide (v7<((a2.length:Nat):Int))) then (bnd (Xb a2 v7) λ p10 =>
   jn (λ (x14:Int) (x15:Int) =>
    grd ((v9.length+1)*8<=140737488355328) <|
    QaZ N a2 y5 y6 n (wI (v7+1)) x15 (v9++[x14])) λ j3 =>
   bif (p10 != 0) then (bnd (Xb a2 v7) λ p11 =>
    bnd (Qee N (WV.mk y6.1.Heap y6.1.Old y6.1.Taken y6.1.Queue y6.1.Scanned (Us.mk y6.1.Report.Copied y6.1.Report.Kept y6.1.Report.Filled y6.1.Report.Freed v8 y6.1.Report.Steps)) p11) λ y12 =>
    jn (λ (x13:Int) =>
     j3 y12 x13) λ j2 =>
    bif (y12==0) then j2 (wI (v8+1))
    else j2 v8)
   else j3 0 v8)
  else some (v8,v9)
def Qc8 (N:Nat) (a0:Wo) (a1:List Int) (a2:List Int):Option (Wo×List Int×List Int×Us×Int):=bnd (Qad N a0) λ y1=>bif (!y1) then some (zHp,[],[],(Us.mk 0 0 0 0 0 0),1) else jn (λ (_:Unit)=>some (zHp,[],[],(Us.mk 0 0 0 0 0 0),19)) λ j1=>bnd (Qbv N a0 a1) λ y2=>bif (!y2) then j1 () else bnd (Qbv N a0 a2) λ y3=>bif (!y3) then j1 () else bnd (Qec N a0) λ y4=>bnd (Qed N y4.1 a1) λ y5=>bif (y5.2.2 != 0) then some (zHp,[],[],(Us.mk 0 0 0 0 0 0),y5.2.2) else bnd (Qfh N y5.1) λ y6=>bif (y6.2 != 0) then some (zHp,[],[],(Us.mk 0 0 0 0 0 0),y6.2) else bnd (QaZ N a2 y5 y6 N 0 y6.1.Report.Cleared []) λ y16=>bnd (QeI N (WV.mk y6.1.Heap y6.1.Old y6.1.Taken y6.1.Queue y6.1.Scanned (Us.mk y6.1.Report.Copied y6.1.Report.Kept y6.1.Report.Filled y6.1.Report.Freed y16.1 y6.1.Report.Steps))) λ y17=>bnd (QeH N y17) λ y18=>jn (λ (x20:Int)=>some ((Wo.mk y18.Heap.Conf y18.Heap.Words y18.Heap.Pages (wI (1-y18.Heap.Space)) x20),y5.2.1,y16.2,y18.Report,0)) λ j4=>bif (decide (((y18.Taken.length:Nat):Int)>0)) then (bnd (Xb y18.Taken (wI (((y18.Taken.length:Nat):Int)-1))) λ p19=>j4 p19) else j4 (-1)
def QaQ (N:Nat) (a0:Uh):Nat->Int->(List Int)->Option (List Int)
 | 0,_,_=>none
 | n+1,v3,v4 =>
  bif (decide (v3<((a0.Pins.length:Nat):Int))) then (bnd (Xb a0.Pins v3) λ p5 =>
   grd ((v4.length+1)*8<=140737488355328) <|
   QaQ N a0 n (wI (v3+1)) (v4++[p5.Ref]))
  else some v4
def QdJ (N:Nat) (a0:Uh):Option (List Int):=grd (a0.Roots.length*8<=140737488355328) <| bnd (Qb5 N a0.Locals) λ y1=>grd ((a0.Roots.length+y1.length)*8<=140737488355328) <| bnd (Qa4 N a0.Globals) λ y2=>grd (((a0.Roots.length+y1.length)+y2.length)*8<=140737488355328) <| bnd (QaQ N a0 N 0 ((a0.Roots++y1)++y2)) λ y6=>some y6
def Qbi (N:Nat) (a0:Wq) (a1:List Int):Nat->Int->Int->(List US)->Option (Ex (Wq×Int) (List US))
 | 0,_,_,_=>none
 | n+1,v3,v4,v5 =>
  grd (v5.length<=140737488355328) <|
  bif (decide (v4<((v5.length:Nat):Int))) then (bnd (Xb v5 v4) λ p6 =>
   bif (!p6.Live) then Qbi N a0 a1 n v3 (wI (v4+1)) v5
   else bnd (Xb a1 v3) λ p7 =>
   bif (p7==0) then some (.ret ((Wq.mk [] [] []),1))
   else bnd (Xb a1 v3) λ p8 =>
   bnd (Xb v5 v4) λ p9 =>
   Qbi N a0 a1 n (wI (v3+1)) (wI (v4+1)) (v5.set v4.toNat (US.mk p9.Stamp p8 p9.Live)))
  else some (.nxt v5)
def QeJ (N:Nat) (a0:Wq) (a1:List Int):Option (Wq×Int):=bnd (QbG N a0) λ y1=>bif (!y1) then some ((Wq.mk [] [] []),1) else bnd (Qb5 N a0) λ y2=>bif (((a1.length:Nat):Int) != ((y2.length:Nat):Int)) then some ((Wq.mk [] [] []),1) else grd (a0.Slots.length*24<=140737488355328) <| bnd (Qbi N a0 a1 N 0 0 a0.Slots) λ e=>exK e (λ r=>some r) λ y10=>some ((Wq.mk y10 a0.Scopes a0.Issued),0)
def Qbj (N:Nat) (a1:List Int):Nat->Int->Int->(List W6)->Option (List W6)
 | 0,_,_,_=>none
 | n+1,v3,v4,v5 =>
  grd (v5.length<=140737488355328) <|
  bif (decide (v4<((v5.length:Nat):Int))) then (bnd (Xb v5 v4) λ p6 =>
   bif p6.Live then (bnd (Xb a1 v3) λ p7 =>
    bnd (Xb v5 v4) λ p8 =>
    Qbj N a1 n (wI (v3+1)) (wI (v4+1)) (v5.set v4.toNat (W6.mk p8.Gen p7 p8.Live)))
   else Qbj N a1 n v3 (wI (v4+1)) v5)
  else some v5
def Qc1 (N:Nat) (a0:Wy) (a1:List Int):Option (Wy×Int):=bnd (QbH N a0) λ y1=>bif (!y1) then some ((Wy.mk []),1) else bnd (Qa4 N a0) λ y2=>grd (y2.length<=140737488355328) <| bif (((a1.length:Nat):Int) != ((y2.length:Nat):Int)) then some ((Wy.mk []),1) else grd (a0.Entries.length*24<=140737488355328) <| bnd (Qbj N a1 N 0 0 a0.Entries) λ y9=>some ((Wy.mk y9),0)
def Qa0 (N:Nat) (a0:Uh) (y4:Wo×List Int×List Int×Us×Int) (y5:List Int) (y6:List Int) (y7:Wq×Int) (y8:Wy×Int) (y9:Wy×Int):Nat->Int->(List UE)->Option (List UE)
 | 0,_,_=>none
 | n+1,v10,v11 =>
  bif (decide (v10<((a0.Pins.length:Nat):Int))) then (bnd (Xb y4.2.1 (wI ((wI ((wI (((a0.Roots.length:Nat):Int)+((y5.length:Nat):Int)))+((y6.length:Nat):Int)))+v10))) λ p12 =>
   bnd (Xb a0.Pins v10) λ p13 =>
   grd ((v11.length+1)*16<=140737488355328) <|
   Qa0 N a0 y4 y5 y6 y7 y8 y9 n (wI (v10+1)) (v11++[(UE.mk p12 p13.Count)]))
  else some v11
def QcE (N:Nat) (a0:Uh):Option (Uh×Us×Int):=bnd (Qch N a0) λ y1=>bif (!y1) then some ((Uh.mk zHp (Wq.mk [] [] []) (Wy.mk []) (Wy.mk []) [] []),(Us.mk 0 0 0 0 0 0),19) else bnd (QdJ N a0) λ y2=>bnd (Qa4 N a0.Weaks) λ y3=>bnd (Qc8 N a0.Heap y2 y3) λ y4=>bif (y4.2.2.2.2 != 0) then some ((Uh.mk zHp (Wq.mk [] [] []) (Wy.mk []) (Wy.mk []) [] []),(Us.mk 0 0 0 0 0 0),y4.2.2.2.2) else bnd (Qb5 N a0.Locals) λ y5=>bnd (Qa4 N a0.Globals) λ y6=>grd (y6.length<=140737488355328) <| grd (0<=0/\0<=((a0.Roots.length:Nat):Int)/\((a0.Roots.length:Nat):Int)<=((y4.2.1.length:Nat):Int)) <| grd ((min (((a0.Roots.length:Nat):Int).toNat) y4.2.1.length)*8<=140737488355328) <| grd (0<=((a0.Roots.length:Nat):Int)/\((a0.Roots.length:Nat):Int)<=(wI (((a0.Roots.length:Nat):Int)+((y5.length:Nat):Int)))/\(wI (((a0.Roots.length:Nat):Int)+((y5.length:Nat):Int)))<=((y4.2.1.length:Nat):Int)) <| bnd (QeJ N a0.Locals ((y4.2.1.drop ((a0.Roots.length:Nat):Int).toNat).take ((wI (((a0.Roots.length:Nat):Int)+((y5.length:Nat):Int))).toNat-((a0.Roots.length:Nat):Int).toNat))) λ y7=>grd (0<=(wI (((a0.Roots.length:Nat):Int)+((y5.length:Nat):Int)))/\(wI (((a0.Roots.length:Nat):Int)+((y5.length:Nat):Int)))<=(wI ((wI (((a0.Roots.length:Nat):Int)+((y5.length:Nat):Int)))+((y6.length:Nat):Int)))/\(wI ((wI (((a0.Roots.length:Nat):Int)+((y5.length:Nat):Int)))+((y6.length:Nat):Int)))<=((y4.2.1.length:Nat):Int)) <| bnd (Qc1 N a0.Globals ((y4.2.1.drop (wI (((a0.Roots.length:Nat):Int)+((y5.length:Nat):Int))).toNat).take ((wI ((wI (((a0.Roots.length:Nat):Int)+((y5.length:Nat):Int)))+((y6.length:Nat):Int))).toNat-(wI (((a0.Roots.length:Nat):Int)+((y5.length:Nat):Int))).toNat))) λ y8=>bnd (Qc1 N a0.Weaks y4.2.2.1) λ y9=>bnd (Qa0 N a0 y4 y5 y6 y7 y8 y9 N 0 []) λ y14=>some ((Uh.mk y4.1 y7.1 y8.1 y9.1 y14 (y4.2.1.take ((a0.Roots.length:Nat):Int).toNat)),y4.2.2.2.1,0)
def Qcr (N:Nat) (a0:WI) (a1:List Int):Nat->Int->Option (Ex Bool Unit)
 | 0,_=>none
 | n+1,v1 =>
  bif (decide (v1<((a1.length:Nat):Int))) then (bnd (Xb a1 v1) λ p2 =>
   bif (decide (p2>(wU ((a0.Things.length:Nat):Int)))) then some (.ret false)
   else Qcr N a0 a1 n (wI (v1+1)))
  else some (.nxt ())
def Qcs (N:Nat) (a0:WI) (a1:List Int):Option Bool:=bnd (Qcr N a0 a1 N 0) λ e=>exK e (λ r=>some r) λ y3=>some true
def Qc9 (N:Nat) (a0:Ie):Nat->Int->(List Int)->Option (List Int)
 | 0,_,_=>none
 | n+1,v1,v2 =>
  bif (decide (v1<((a0.Fields.length:Nat):Int))) then (bnd (QbF N a0.Header v1) λ y3 =>
   bif y3 then (bnd (Xb a0.Fields v1) λ p4 =>
    grd ((v2.length+1)*8<=140737488355328) <|
    Qc9 N a0 n (wI (v1+1)) (v2++[p4]))
   else Qc9 N a0 n (wI (v1+1)) v2)
  else some v2
def Qfy (N:Nat) (a0:Ie):Option (List Int):=bnd (Qc9 N a0 N 0 []) λ y5=>some y5
def QdV (N:Nat) (a0:WI) (a1:Int):Nat->Int->Option (Ex Int Unit)
 | 0,_=>none
 | n+1,v1 =>
  bif (decide (v1<((a0.Marks.length:Nat):Int))) then (bnd (Xb a0.Marks v1) λ p2 =>
   bif (p2.Id==a1) then some (.ret v1)
   else QdV N a0 a1 n (wI (v1+1)))
  else some (.nxt ())
def QeK (N:Nat) (a0:WI) (a1:Int):Option Int:=bnd (QdV N a0 a1 N 0) λ e=>exK e (λ r=>some r) λ y3=>some (-1)
def QcR (N:Nat) (a0:WI):Nat->Int->Option (Ex Bool Unit)
 | 0,_=>none
 | n+1,v5 =>
  bif (decide (v5<((a0.Things.length:Nat):Int))) then (bnd (Xb a0.Things v5) λ p6 =>
   bnd (Qcg N p6.Header) λ y7 =>
   bif (!y7) then some (.ret false)
   else bif (p6.Header.Kind==0) then some (.ret false)
   else bif (((p6.Fields.length:Nat):Int) != p6.Header.Length) then some (.ret false)
   else bnd (Qfy N p6) λ y8 =>
   bnd (Qcs N a0 y8) λ y9 =>
   bif (!y9) then some (.ret false)
   else QcR N a0 n (wI (v5+1)))
  else some (.nxt ())
def QcS (N:Nat) (a0:WI) (y11:List Int):Nat->Int->Option (Ex Bool Unit)
 | 0,_=>none
 | n+1,v12 =>
  grd (y11.length<=140737488355328) <|
  bif (decide (v12<((y11.length:Nat):Int))) then (bnd (Xb y11 v12) λ p13 =>
   bif (p13==0) then some (.ret false)
   else QcS N a0 y11 n (wI (v12+1)))
  else some (.nxt ())
def QcT (N:Nat) (a0:WI) (y11:List Int):Nat->Int->Option (Ex Bool Unit)
 | 0,_=>none
 | n+1,v15 =>
  bif (decide (v15<((a0.Marks.length:Nat):Int))) then (bnd (Xb a0.Marks v15) λ p16 =>
   bif (decide (p16.Id<1)) then some (.ret false)
   else bif (decide (p16.Id>(wU ((a0.Things.length:Nat):Int)))) then some (.ret false)
   else bnd (QeK N a0 p16.Id) λ y17 =>
   bif (y17 != v15) then some (.ret false)
   else bif (decide (p16.Count<1)) then some (.ret false)
   else bif (decide (p16.Count>1000)) then some (.ret false)
   else QcT N a0 y11 n (wI (v15+1)))
  else some (.nxt ())
def Qdu (N:Nat) (a0:WI):Option Bool:=bnd (Qat N a0.Conf) λ y1=>bif (!y1) then some false else bnd (QbG N a0.Locals) λ y2=>bif (!y2) then some false else bnd (QbH N a0.Globals) λ y3=>bif (!y3) then some false else bnd (QbH N a0.Weaks) λ y4=>bif (!y4) then some false else bif (decide (((a0.Marks.length:Nat):Int)>64)) then some false else bnd (QcR N a0 N 0) λ e=>exK e (λ r=>some r) λ y10=>bnd (Qa4 N a0.Globals) λ y11=>bnd (QcS N a0 y11 N 0) λ e=>exK e (λ r=>some r) λ y14=>bnd (QcT N a0 y11 N 0) λ e=>exK e (λ r=>some r) λ y18=>bnd (Qcs N a0 a0.Roots) λ y19=>bif y19 then (bnd (Qb5 N a0.Locals) λ y20=>bnd (Qcs N a0 y20) λ y21=>bif y21 then (bnd (Qcs N a0 y11) λ y22=>bif y22 then (bnd (Qa4 N a0.Weaks) λ y23=>bnd (Qcs N a0 y23) λ y24=>some y24) else some false) else some false) else some false
def Qc6 (N:Nat) (a0:WI):Nat->Int->(List Int)->Option (List Int)
 | 0,_,_=>none
 | n+1,v3,v4 =>
  bif (decide (v3<((a0.Marks.length:Nat):Int))) then (bnd (Xb a0.Marks v3) λ p5 =>
   grd ((v4.length+1)*8<=140737488355328) <|
   Qc6 N a0 n (wI (v3+1)) (v4++[p5.Id]))
  else some v4
def Qfi (N:Nat) (a0:WI):Option (List Int):=grd (a0.Roots.length*8<=140737488355328) <| bnd (Qb5 N a0.Locals) λ y1=>grd ((a0.Roots.length+y1.length)*8<=140737488355328) <| bnd (Qa4 N a0.Globals) λ y2=>grd (((a0.Roots.length+y1.length)+y2.length)*8<=140737488355328) <| bnd (Qc6 N a0 N 0 ((a0.Roots++y1)++y2)) λ y6=>some y6
def Qbw (N:Nat) (a0:WI):Nat->Int->(List Bool)->(List Int)->Option (List Bool)
 | 0,_,_,_=>none
 | n+1,v3,v4,v5 =>
  grd (v5.length<=140737488355328) <|
  bif (decide (v3<((v5.length:Nat):Int))) then (bnd (Xb v5 v3) λ p6 =>
   bif (p6==0) then Qbw N a0 n (wI (v3+1)) v4 v5
   else bnd (Xb v5 v3) λ p7 =>
   bnd (Xb v4 (wU (p7-1))) λ p8 =>
   bif p8 then Qbw N a0 n (wI (v3+1)) v4 v5
   else bnd (Xb v5 v3) λ p9 =>
   bnd (Xb v4 (wU (p9-1))) λ p10 =>
   bnd (Xb v5 v3) λ p11 =>
   bnd (Xb a0.Things (wU (p11-1))) λ p12 =>
   bnd (Qfy N p12) λ y13 =>
   grd ((v5.length+y13.length)*8<=140737488355328) <|
   Qbw N a0 n (wI (v3+1)) (v4.set (wU (p9-1)).toNat true) (v5++y13))
  else some v4
def QeT (N:Nat) (a0:WI):Option (List Bool):=bnd (Qdu N a0) λ y1=>bif (!y1) then some [] else grd (0<=((a0.Things.length:Nat):Int)/\((a0.Things.length:Nat):Int).toNat<=140737488355328) <| bnd (Qfi N a0) λ y2=>bnd (Qbw N a0 N 0 (List.replicate ((a0.Things.length:Nat):Int).toNat false) y2) λ y14=>some y14
def QaJ (N:Nat) (a0:WI) (y2:List Bool):Nat->Int->(List Int)->Option (List Int)
 | 0,_,_=>none
 | n+1,v4,v5 =>
  grd (v5.length<=140737488355328) <|
  bif (decide (v4<((v5.length:Nat):Int))) then (bnd (Xb v5 v4) λ p6 =>
   bif (p6 != 0) then (bnd (Xb v5 v4) λ p7 =>
    bnd (Xb y2 (wU (p7-1))) λ p8 =>
    bif (!p8) then (bnd (Xb v5 v4) λ p9 =>
     QaJ N a0 y2 n (wI (v4+1)) (v5.set v4.toNat 0))
    else QaJ N a0 y2 n (wI (v4+1)) v5)
   else QaJ N a0 y2 n (wI (v4+1)) v5)
  else some v5
def QcF (N:Nat) (a0:WI):Option (WI×Int):=bnd (Qdu N a0) λ y1=>bif (!y1) then some (zWd,19) else bnd (QeT N a0) λ y2=>bnd (Qa4 N a0.Weaks) λ y3=>bnd (QaJ N a0 y2 N 0 y3) λ y10=>bnd (Qc1 N a0.Weaks y10) λ y11=>some ((WI.mk a0.Conf a0.Things a0.Locals a0.Globals y11.1 a0.Marks a0.Roots),0)
def Qaa (N:Nat) (a0:Int):Option (Uh×Int×Int):=some ((Uh.mk zHp (Wq.mk [] [] []) (Wy.mk []) (Wy.mk []) [] []),0,a0)
def QbK (N:Nat) (a0:Int) (a1:Int) (a2:Int):Option (Ww×Bool):=bif (a0==1) then (bif (decide (a1<=2147483647)) then some ((Ww.mk a0 (wI (Yp .u64 a1 2147483647)) (wW a2)),(decide (a2<=4294967295))) else some ((Ww.mk a0 (wI (Yp .u64 a1 2147483647)) (wW a2)),false)) else some ((Ww.mk a0 (wI (Yp .u64 a1 2147483647)) 0),(decide (a1<=2147483647)))
def Qdn (N:Nat) (a0:WX) (a1:Ww):Option Bool:=bnd (Qcg N a1) λ y1=>bif y1 then (bif (a1.Kind != 0) then (bnd (Qb2 N a1) λ y2=>bnd (QdZ N a0 y2) λ y3=>some (y3 != (-1))) else some false) else some false
def Qdv (N:Nat) (a0:Wq) (a1:Int):Option (Wq×Int×Int×Int):=bnd (QbG N a0) λ y1=>bif (!y1) then some ((Wq.mk [] [] []),0,0,1) else bif (a1==0) then some ((Wq.mk [] [] []),0,0,1) else bif (((a0.Scopes.length:Nat):Int)==0) then some ((Wq.mk [] [] []),0,0,9) else bnd (Xb a0.Scopes (wI (((a0.Scopes.length:Nat):Int)-1))) λ p2=>bnd (Qfw N a0 p2.From ((a0.Slots.length:Nat):Int)) λ y3=>bnd (Xb a0.Scopes (wI (((a0.Scopes.length:Nat):Int)-1))) λ p4=>bif (decide (y3>=p4.Cap)) then some ((Wq.mk [] [] []),0,0,10) else bif (((a0.Issued.length:Nat):Int)==4096) then some ((Wq.mk [] [] []),0,0,18) else grd (a0.Issued.length*8<=140737488355328) <| grd ((a0.Issued.length+1)*8<=140737488355328) <| grd (a0.Slots.length*24<=140737488355328) <| grd ((a0.Slots.length+1)*24<=140737488355328) <| some ((Wq.mk (a0.Slots++[(US.mk (wI (((a0.Issued.length:Nat):Int)+1)) a1 true)]) a0.Scopes (a0.Issued++[((a0.Slots.length:Nat):Int)])),((a0.Slots.length:Nat):Int),(wI (((a0.Issued.length:Nat):Int)+1)),0)
def Qe5 (N:Nat) (a0:WX):Option Int:=bnd (Qat N a0) λ y1=>bif (!y1) then some 0 else some (wI (a0.Pages.tdiv 4))
def QcU (N:Nat) (a0:List Wx):Nat->Int->Int->Option Int
 | 0,_,_=>none
 | n+1,v1,v2 =>
  bif (decide (v2<((a0.length:Nat):Int))) then (bnd (Xb a0 v2) λ p3 =>
   bif (p3.Kind != 0) then QcU N a0 n (wI (v1+1)) (wI (v2+1))
   else QcU N a0 n v1 (wI (v2+1)))
  else some v1
def QfL (N:Nat) (a0:List Wx):Option Int:=bnd (QcU N a0 N 0 0) λ y4=>some y4
def Qef (N:Nat) (a0:Wo) (a1:Int):Option (Wo×Int×Bool):=grd (a0.Pages.length*32<=140737488355328) <| bnd (Qe5 N a0.Conf) λ y1=>bnd (QfL N a0.Pages) λ y2=>jn (λ (_:Unit)=>bnd (Qdr N a0.Pages 1) λ y5=>bif (decide (y5<0)) then some (zHp,0,false) else bif (decide (y2>=y1)) then some (zHp,0,false) else bnd (Qds N a0.Pages y5 a0.Space) λ y6=>bnd (Xb y6.1 y5) λ p11=>bnd (Xb y6.1 y5) λ p12=>bnd (Xb y6.1 y5) λ p13=>some ((Wo.mk a0.Conf a0.Words (y6.1.set y5.toNat (Wx.mk p13.Kind p13.Space (wI (p12.Used+a1)) p13.Pins)) a0.Space y5),(wU (wI ((wI (4096+(wI (y5*a0.Conf.PageWords))))+p11.Used))),true)) λ j1=>bif (decide (a0.Bump<0)) then j1 () else bnd (Xb a0.Pages a0.Bump) λ p3=>bif (p3.Space != a0.Space) then j1 () else bnd (Xb a0.Pages a0.Bump) λ p4=>bif (decide ((wI (p4.Used+a1))>a0.Conf.PageWords)) then j1 () else bif (decide (y2>y1)) then j1 () else bnd (Xb a0.Pages a0.Bump) λ p14=>bnd (Xb a0.Pages a0.Bump) λ p15=>bnd (Xb a0.Pages a0.Bump) λ p16=>some ((Wo.mk a0.Conf a0.Words (a0.Pages.set a0.Bump.toNat (Wx.mk p16.Kind p16.Space (wI (p15.Used+a1)) p16.Pins)) a0.Space a0.Bump),(wU (wI ((wI (4096+(wI (a0.Bump*a0.Conf.PageWords))))+p14.Used))),true)
def QfM (N:Nat) (a0:WX) (a1:List Wx) (a2:Int) (a3:Int) (a4:Int):Option (List Wx×Int):=bnd (QdZ N a0 a4) λ y1=>bif (decide (y1<1)) then some ([],1) else bif (decide (a3<0)) then some ([],1) else bif (decide (a3>1)) then some ([],1) else bnd (Qfx N a1 a2 y1 (Wx.mk 2 a3 a4 0) (Wx.mk 3 a3 0 0)) λ y2=>some (y2.1,y2.2)
def Qeg (N:Nat) (a0:Wo) (a1:Int) (a2:Int):Option (Wo×Int×Bool):=bnd (Qdr N a0.Pages a2) λ y1=>bif (decide (y1<0)) then some (zHp,0,false) else bnd (QfL N a0.Pages) λ y2=>bnd (Qe5 N a0.Conf) λ y3=>bif (decide ((wI (y2+a2))>y3)) then some (zHp,0,false) else bnd (QfM N a0.Conf a0.Pages y1 a0.Space a1) λ y4=>some ((Wo.mk a0.Conf a0.Words y4.1 a0.Space a0.Bump),(wU (wI (4096+(wI (y1*a0.Conf.PageWords))))),true)
def QeL (N:Nat) (a0:Wo) (a1:Int) (a2:Ww):Option (Wo×Int):=bnd (Qco N a2) λ y1=>bnd (Qad N a0) λ y2=>bif (!y2) then some (zHp,1) else bif (y1.2 != 0) then some (zHp,1) else grd (0<=a2.Length/\a2.Length.toNat*8<=140737488355328) <| grd ((1+a2.Length.toNat)*8<=140737488355328) <| bnd (Qci N a0.Words a1 ([y1.1]++(List.replicate a2.Length.toNat (0:Int)))) λ y3=>bif (y3.2 != 0) then some (zHp,y3.2) else some ((Wo.mk a0.Conf y3.1 a0.Pages a0.Space a0.Bump),0)
def QeA (N:Nat) (a0:Wo) (a1:Ww):Option (Wo×Int×Int):=bnd (Qad N a0) λ y1=>bif (!y1) then some (zHp,0,1) else bnd (Qdn N a0.Conf a1) λ y2=>bif (!y2) then some (zHp,0,1) else bnd (Qb2 N a1) λ y3=>bnd (QdZ N a0.Conf y3) λ y4=>bnd (Qef N a0 y3) λ y5=>jn (λ (x7:Int) (x8:Bool) (x9:Int) (x10:Int) (x11:List Int) (x12:List Wx) (x13:Int) (x14:Int)=>bif (!x8) then some (zHp,0,3) else bnd (QeL N (Wo.mk (WX.mk x9 x10) x11 x12 x13 x14) x7 a1) λ y15=>some (y15.1,x7,0)) λ j1=>bif (decide (y4>0)) then (bnd (Qeg N a0 y3 y4) λ y6=>j1 y6.2.1 y6.2.2 y6.1.Conf.PageWords y6.1.Conf.Pages y6.1.Words y6.1.Pages y6.1.Space y6.1.Bump) else j1 y5.2.1 y5.2.2 y5.1.Conf.PageWords y5.1.Conf.Pages y5.1.Words y5.1.Pages y5.1.Space y5.1.Bump
def Qeh (N:Nat) (a0:Uh) (a1:Ww):Option (Uh×Int×Int):=bnd (Qch N a0) λ y1=>bif (!y1) then some ((Uh.mk zHp (Wq.mk [] [] []) (Wy.mk []) (Wy.mk []) [] []),0,19) else bnd (QeA N a0.Heap a1) λ y2=>jn (λ (x5:Int) (x6:Int) (x7:Int) (x8:Int) (x9:List Int) (x10:List Wx) (x11:Int) (x12:Int) (x13:List US) (x14:List U2) (x15:List Int) (x16:List W6) (x17:List W6) (x18:List UE) (x19:List Int) (x20:Int) (x21:Int) (x22:List Int) (x23:List Wx) (x24:Int) (x25:Int)=>bif (x6 != 0) then some ((Uh.mk zHp (Wq.mk [] [] []) (Wy.mk []) (Wy.mk []) [] []),0,x6) else some ((Uh.mk (Wo.mk (WX.mk x20 x21) x22 x23 x24 x25) (Wq.mk x13 x14 x15) (Wy.mk x16) (Wy.mk x17) x18 x19),x5,0)) λ j1=>bif (y2.2.2==3) then (bnd (QcE N a0) λ y3=>bif (y3.2.2 != 0) then some ((Uh.mk zHp (Wq.mk [] [] []) (Wy.mk []) (Wy.mk []) [] []),0,y3.2.2) else bnd (QeA N y3.1.Heap a1) λ y4=>j1 y4.2.1 y4.2.2 y3.1.Heap.Conf.PageWords y3.1.Heap.Conf.Pages y3.1.Heap.Words y3.1.Heap.Pages y3.1.Heap.Space y3.1.Heap.Bump y3.1.Locals.Slots y3.1.Locals.Scopes y3.1.Locals.Issued y3.1.Globals.Entries y3.1.Weaks.Entries y3.1.Pins y3.1.Roots y4.1.Conf.PageWords y4.1.Conf.Pages y4.1.Words y4.1.Pages y4.1.Space y4.1.Bump) else j1 y2.2.1 y2.2.2 a0.Heap.Conf.PageWords a0.Heap.Conf.Pages a0.Heap.Words a0.Heap.Pages a0.Heap.Space a0.Heap.Bump a0.Locals.Slots a0.Locals.Scopes a0.Locals.Issued a0.Globals.Entries a0.Weaks.Entries a0.Pins a0.Roots y2.1.Conf.PageWords y2.1.Conf.Pages y2.1.Words y2.1.Pages y2.1.Space y2.1.Bump
def QfN (N:Nat) (a0:UR):Option Bool:=bif (decide (a0.Tag>=1)) then (bif (decide (a0.Tag<=3)) then (bif (decide (a0.Index>=0)) then (bif (decide (a0.Index<=65535)) then (bif (decide (a0.Stamp>=1)) then some (decide (a0.Stamp<=4294967295)) else some false) else some false) else some false) else some false) else some false
def Qbk (N:Nat) (a0:UR):Option (Int×Int):=bnd (QfN N a0) λ y1=>bif (!y1) then some (0,1) else some ((wU ((wU ((wU a0.Tag)+(Kq .u64 (wU a0.Index) 2)))+(Kq .u64 (wU a0.Stamp) 18))),0)
def Qcj (N:Nat) (a0:Uh) (a1:Int):Option (Uh×Int×Int):=bif (a1==0) then some (a0,0,0) else bnd (Qdv N a0.Locals a1) λ y1=>bif (y1.2.2.2 != 0) then (bnd (Qaa N y1.2.2.2) λ y2=>some (y2.1,y2.2.1,y2.2.2)) else bnd (Qbk N (UR.mk 1 y1.2.1 y1.2.2.1)) λ y3=>some ((Uh.mk a0.Heap y1.1 a0.Globals a0.Weaks a0.Pins a0.Roots),y3.1,0)
def QdK (N:Nat) (a0:Uh) (a1:Int) (a2:Int) (a3:Int):Option (Uh×Int×Int):=bif (decide (((a0.Pins.length:Nat):Int)>0)) then (bnd (Qaa N 15) λ y1=>some (y1.1,y1.2.1,y1.2.2)) else bnd (QbK N a1 a2 a3) λ y2=>jn (λ (_:Unit)=>bnd (Qaa N 1) λ y4=>some (y4.1,y4.2.1,y4.2.2)) λ j1=>bif (!y2.2) then j1 () else bnd (Qdn N a0.Heap.Conf y2.1) λ y3=>bif (!y3) then j1 () else bnd (Qdv N a0.Locals 1) λ y5=>bif (y5.2.2.2 != 0) then (bnd (Qaa N y5.2.2.2) λ y6=>some (y6.1,y6.2.1,y6.2.2)) else bnd (Qeh N a0 y2.1) λ y7=>bif (y7.2.2 != 0) then (bnd (Qaa N y7.2.2) λ y8=>some (y8.1,y8.2.1,y8.2.2)) else bnd (Qcj N y7.1 y7.2.1) λ y9=>some (y9.1,y9.2.1,y9.2.2)
def Qbx (N:Nat) (a0:Int):Option (UR×Int):=bif (a0==0) then some ((UR.mk 0 0 0),5) else bnd (Qbk N (UR.mk (wI (Yp .u64 a0 3)) (wI (Yp .u64 (X2 .u64 a0 2) 65535)) (wI (X2 .u64 a0 18)))) λ y1=>bif (y1.2 != 0) then some ((UR.mk 0 0 0),6) else bif (y1.1 != a0) then some ((UR.mk 0 0 0),6) else some ((UR.mk (wI (Yp .u64 a0 3)) (wI (Yp .u64 (X2 .u64 a0 2) 65535)) (wI (X2 .u64 a0 18))),0)
def Qdw (N:Nat) (a0:Wq) (a1:Int) (a2:Int):Option (Int×Int):=bnd (QbG N a0) λ y1=>bif (!y1) then some (0,1) else bif (decide (a2<1)) then some (0,6) else bif (decide (a2>((a0.Issued.length:Nat):Int))) then some (0,6) else bnd (Xb a0.Issued (wI (a2-1))) λ p2=>bif (p2 != a1) then some (0,6) else bif (decide (a1>=((a0.Slots.length:Nat):Int))) then some (0,7) else bnd (Xb a0.Slots a1) λ p3=>bif (p3.Stamp != a2) then some (0,7) else bnd (Xb a0.Slots a1) λ p4=>bif (!p4.Live) then some (0,8) else bnd (Xb a0.Slots a1) λ p5=>some (p5.Ref,0)
def Qc3 (N:Nat) (a0:Wy) (a1:Int) (a2:Int):Option (Int×Int):=bnd (QbH N a0) λ y1=>bif (!y1) then some (0,1) else bif (decide (a1<0)) then some (0,6) else bif (decide (a1>=((a0.Entries.length:Nat):Int))) then some (0,6) else bif (decide (a2<1)) then some (0,6) else bnd (Xb a0.Entries a1) λ p2=>bif (decide (a2>p2.Gen)) then some (0,6) else bnd (Xb a0.Entries a1) λ p3=>bif (decide (a2<p3.Gen)) then some (0,8) else bnd (Xb a0.Entries a1) λ p4=>bif (!p4.Live) then some (0,8) else bnd (Xb a0.Entries a1) λ p5=>some (p5.Ref,0)
def QaK (N:Nat) (a0:Uh) (a1:Int):Option (Int×Int):=bnd (Qch N a0) λ y1=>bif (!y1) then some (0,19) else bif (a1==0) then some (0,0) else bnd (Qbx N a1) λ y2=>bif (y2.2 != 0) then some (0,y2.2) else bif (y2.1.Tag==1) then (bnd (Qdw N a0.Locals y2.1.Index y2.1.Stamp) λ y3=>some (y3.1,y3.2)) else bif (y2.1.Tag==2) then (bnd (Qc3 N a0.Globals y2.1.Index y2.1.Stamp) λ y4=>some (y4.1,y4.2)) else bnd (Qc3 N a0.Weaks y2.1.Index y2.1.Stamp) λ y5=>some (y5.1,y5.2)
def Qck (N:Nat) (a0:Uh) (a1:Int):Option (Int×Int):=bnd (QaK N a0 a1) λ y1=>bif (y1.2==0) then (bif (y1.1==0) then some (0,5) else some (y1.1,y1.2)) else some (y1.1,y1.2)
def Qdx (N:Nat) (a0:Uh) (a1:Int) (a2:Int) (a3:Bool):Option (Int×Int×Int):=bnd (Qck N a0 a1) λ y1=>bif (y1.2 != 0) then some (0,0,y1.2) else bnd (Qca N a0.Heap y1.1) λ y2=>bif (decide (a2>=(wU y2.1.Length))) then some (0,0,2) else bnd (QbF N y2.1 (wI a2)) λ y3=>bif (!(y3==a3)) then some (0,0,4) else some (y1.1,(wI a2),0)
def Qdy (N:Nat) (a0:Wo) (a1:Int) (a2:Int):Option (Int×Int):=bnd (Qca N a0 a1) λ y1=>bif (y1.2 != 0) then some (0,y1.2) else bif (decide (a2<0)) then some (0,2) else bif (decide (a2>=y1.1.Length)) then some (0,2) else bnd (QaX N a0.Words (wU ((wU (a1+1))+(wU a2)))) λ y2=>some (y2.1,y2.2)
def Qce (N:Nat) (a0:Wo) (a1:Int) (a2:Int) (a3:Int):Option (Wo×Int):=bnd (Qdy N a0 a1 a2) λ y1=>bif (y1.2 != 0) then some (zHp,y1.2) else bnd (Qc0 N a0.Words (wU ((wU (a1+1))+(wU a2))) a3) λ y2=>some ((Wo.mk a0.Conf y2.1 a0.Pages a0.Space a0.Bump),0)
def Qei (N:Nat) (a0:Uh) (a1:Int) (a2:Int) (a3:Int) (a4:Int):Option (Uh×Int×Int):=jn (λ (x3:Int) (x4:Int) (x5:Int)=>bif (x5 != 0) then (bnd (Qaa N x5) λ y6=>some (y6.1,y6.2.1,y6.2.2)) else bnd (Qdy N a0.Heap x3 x4) λ y7=>bif (a1==6) then some (a0,y7.1,0) else bif (a1==8) then (bnd (Qcj N a0 y7.1) λ y8=>some (y8.1,y8.2.1,y8.2.2)) else jn (λ (x11:Int)=>bnd (Qce N a0.Heap x3 x4 x11) λ y12=>some ((Uh.mk y12.1 a0.Locals a0.Globals a0.Weaks a0.Pins a0.Roots),0,0)) λ j2=>bif (a1==9) then (bnd (QaK N a0 a4) λ y9=>bif (y9.2 != 0) then (bnd (Qaa N y9.2) λ y10=>some (y10.1,y10.2.1,y10.2.2)) else j2 y9.1) else j2 a4) λ j1=>bif (a1==8) then (bnd (Qdx N a0 a2 a3 true) λ y1=>j1 y1.1 y1.2.1 y1.2.2) else bnd (Qdx N a0 a2 a3 (a1==9)) λ y2=>j1 y2.1 y2.2.1 y2.2.2
def Qej (N:Nat) (a0:Uh) (a1:Int) (a2:Int) (a3:Int):Option (Uh×Int×Int):=jn (λ (x1:Bool)=>bif x1 then (bnd (Qck N a0 a2) λ y2=>bif (y2.2 != 0) then (bnd (Qaa N y2.2) λ y3=>some (y3.1,y3.2.1,y3.2.2)) else bnd (Qca N a0.Heap y2.1) λ y4=>bif (a1==4) then some (a0,(wU y4.1.Length),0) else some (a0,(wU y4.1.Kind),0)) else bif (a1==10) then (bnd (QaK N a0 a2) λ y5=>bif (y5.2 != 0) then (bnd (Qaa N y5.2) λ y6=>some (y6.1,y6.2.1,y6.2.2)) else bnd (QaK N a0 a3) λ y7=>bif (y7.2 != 0) then (bnd (Qaa N y7.2) λ y8=>some (y8.1,y8.2.1,y8.2.2)) else bif (y5.1==y7.1) then some (a0,1,0) else some (a0,0,0)) else bnd (QaK N a0 a2) λ y9=>bif (y9.2 != 0) then (bnd (Qaa N y9.2) λ y10=>some (y10.1,y10.2.1,y10.2.2)) else bnd (Qcj N a0 y9.1) λ y11=>some (y11.1,y11.2.1,y11.2.2)) λ j1=>bif (a1==4) then j1 true else j1 (a1==5)
def Qbl (N:Nat) (a0:Wy) (a1:Int):Nat->Int->Option (Ex (Wy×Int×Int×Int) Unit)
 | 0,_=>none
 | n+1,v2 =>
  grd (a0.Entries.length<=140737488355328) <|
  bif (decide (v2<((a0.Entries.length:Nat):Int))) then (bnd (Xb a0.Entries v2) λ p3 =>
   bif (!p3.Live) then (bnd (Xb a0.Entries v2) λ p4 =>
    bif (decide (p4.Gen<4294967295)) then (bnd (Xb a0.Entries v2) λ p5 =>
     bnd (Xb a0.Entries v2) λ p6 =>
     bnd (Xb (a0.Entries.set v2.toNat (W6.mk (wI (p5.Gen+1)) a1 true)) v2) λ p7 =>
     some (.ret ((Wy.mk (a0.Entries.set v2.toNat (W6.mk (wI (p5.Gen+1)) a1 true))),v2,p7.Gen,0)))
    else Qbl N a0 a1 n (wI (v2+1)))
   else Qbl N a0 a1 n (wI (v2+1)))
  else some (.nxt ())
def QbT (N:Nat) (a0:Wy) (a1:Int):Option (Wy×Int×Int×Int):=bnd (QbH N a0) λ y1=>bif (!y1) then some ((Wy.mk []),0,0,1) else grd (a0.Entries.length*24<=140737488355328) <| bnd (Qbl N a0 a1 N 0) λ e=>exK e (λ r=>some r) λ y8=>grd (a0.Entries.length<=140737488355328) <| bif (((a0.Entries.length:Nat):Int)==64) then some ((Wy.mk []),0,0,18) else grd ((a0.Entries.length+1)*24<=140737488355328) <| grd (a0.Entries.length<=140737488355328) <| some ((Wy.mk (a0.Entries++[(W6.mk 1 a1 true)])),((a0.Entries.length:Nat):Int),1,0)
def Qda (N:Nat) (a0:Uh) (a1:Int) (a2:Int):Option (Uh×Int×Int):=bnd (Qck N a0 a2) λ y1=>bif (y1.2 != 0) then (bnd (Qaa N y1.2) λ y2=>some (y2.1,y2.2.1,y2.2.2)) else jn (λ (x3:Int) (x4:List W6)=>bnd (QbT N (Wy.mk x4) y1.1) λ y5=>bif (y5.2.2.2 != 0) then (bnd (Qaa N y5.2.2.2) λ y6=>some (y6.1,y6.2.1,y6.2.2)) else jn (λ (x7:List W6) (x8:List W6)=>bnd (Qbk N (UR.mk x3 y5.2.1 y5.2.2.1)) λ y9=>some ((Uh.mk a0.Heap a0.Locals (Wy.mk x7) (Wy.mk x8) a0.Pins a0.Roots),y9.1,0)) λ j2=>bif (a1==15) then j2 a0.Globals.Entries y5.1.Entries else j2 y5.1.Entries a0.Weaks.Entries) λ j1=>bif (a1==15) then j1 3 a0.Weaks.Entries else j1 2 a0.Globals.Entries
def Qc4 (N:Nat) (a0:Wq) (a1:Int) (a2:Int):Option (Wq×Int):=bnd (Qdw N a0 a1 a2) λ y1=>bif (y1.2 != 0) then some ((Wq.mk [] [] []),y1.2) else grd (a0.Slots.length*24<=140737488355328) <| bnd (Xb a0.Slots a1) λ p2=>some ((Wq.mk (a0.Slots.set a1.toNat (US.mk a2 0 false)) a0.Scopes a0.Issued),0)
def QfY (N:Nat) (a0:Wy) (a1:Int) (a2:W6):Option Wy:=grd (a0.Entries.length*24<=140737488355328) <| bnd (Xb a0.Entries a1) λ p1=>some (Wy.mk (a0.Entries.set a1.toNat a2))
def QbY (N:Nat) (a0:Wy) (a1:Int) (a2:Int):Option (Wy×Int):=bnd (Qc3 N a0 a1 a2) λ y1=>bif (y1.2 != 0) then some ((Wy.mk []),y1.2) else bnd (QfY N a0 a1 (W6.mk a2 0 false)) λ y2=>some (y2,0)
def QdL (N:Nat) (a0:Uh) (a1:Int) (a2:Int):Option (Uh×Int×Int):=bif (a2==0) then (bnd (Qaa N 5) λ y1=>some (y1.1,y1.2.1,y1.2.2)) else bnd (QaK N a0 a2) λ y2=>bif (y2.2 != 0) then (bnd (Qaa N y2.2) λ y3=>some (y3.1,y3.2.1,y3.2.2)) else bnd (Qbx N a2) λ y4=>jn (λ (_:Unit)=>bif (a1==12) then (bnd (Qc4 N a0.Locals y4.1.Index y4.1.Stamp) λ y6=>some ((Uh.mk a0.Heap y6.1 a0.Globals a0.Weaks a0.Pins a0.Roots),0,0)) else bif (a1==14) then (bnd (QbY N a0.Globals y4.1.Index y4.1.Stamp) λ y7=>some ((Uh.mk a0.Heap a0.Locals y7.1 a0.Weaks a0.Pins a0.Roots),0,0)) else bnd (QbY N a0.Weaks y4.1.Index y4.1.Stamp) λ y8=>some ((Uh.mk a0.Heap a0.Locals a0.Globals y8.1 a0.Pins a0.Roots),0,0)) λ j2=>jn (λ (_:Unit)=>bnd (Qaa N 4) λ y5=>some (y5.1,y5.2.1,y5.2.2)) λ j1=>bif (a1==12) then (bif (y4.1.Tag != 1) then j1 () else bif (a1==14) then (bif (y4.1.Tag != 2) then j1 () else bif (a1==16) then (bif (y4.1.Tag != 3) then j1 () else j2 ()) else j2 ()) else bif (a1==16) then (bif (y4.1.Tag != 3) then j1 () else j2 ()) else j2 ()) else bif (a1==14) then (bif (y4.1.Tag != 2) then j1 () else bif (a1==16) then (bif (y4.1.Tag != 3) then j1 () else j2 ()) else j2 ()) else bif (a1==16) then (bif (y4.1.Tag != 3) then j1 () else j2 ()) else j2 ()
def Qfz (N:Nat) (a0:Wq) (a1:Int) (a2:Bool):Option (Wq×Int):=bnd (QbG N a0) λ y1=>bif (!y1) then some ((Wq.mk [] [] []),1) else bif (decide (a1<0)) then some ((Wq.mk [] [] []),1) else bif (decide (a1>64)) then some ((Wq.mk [] [] []),1) else jn (λ (_:Unit)=>bif (((a0.Scopes.length:Nat):Int)==64) then some ((Wq.mk [] [] []),17) else grd (a0.Scopes.length*24<=140737488355328) <| grd ((a0.Scopes.length+1)*24<=140737488355328) <| some ((Wq.mk a0.Slots (a0.Scopes++[(U2.mk ((a0.Slots.length:Nat):Int) a1 a2)]) a0.Issued),0)) λ j1=>bif (!a2) then (bif (((a0.Scopes.length:Nat):Int)==0) then some ((Wq.mk [] [] []),9) else j1 ()) else j1 ()
def Qdo (N:Nat) (a0:Wq) (a1:Int):Option (Wq×Int):=bnd (Qfz N a0 a1 false) λ y1=>some (y1.1,y1.2)
def QfZ (N:Nat) (a0:Wq) (a1:Int):Option Wq:=bnd (Xb a0.Scopes a1) λ p1=>grd (0<=0/\0<=p1.From/\p1.From<=((a0.Slots.length:Nat):Int)) <| grd ((min p1.From.toNat a0.Slots.length)*24<=140737488355328) <| grd (0<=0/\0<=a1/\a1<=((a0.Scopes.length:Nat):Int)) <| grd ((min a1.toNat a0.Scopes.length)*24<=140737488355328) <| some (Wq.mk (a0.Slots.take p1.From.toNat) (a0.Scopes.take a1.toNat) a0.Issued)
def Qd4 (N:Nat) (a0:Wq):Option (Wq×Int):=bnd (QbG N a0) λ y1=>bif (!y1) then some ((Wq.mk [] [] []),1) else bif (((a0.Scopes.length:Nat):Int)==0) then some ((Wq.mk [] [] []),9) else bnd (Xb a0.Scopes (wI (((a0.Scopes.length:Nat):Int)-1))) λ p2=>bif p2.Base then some ((Wq.mk [] [] []),9) else bnd (QfZ N a0 (wI (((a0.Scopes.length:Nat):Int)-1))) λ y3=>some (y3,0)
def QdM (N:Nat) (a0:Uh) (a1:Int) (a2:Int):Option (Uh×Int×Int):=bif (a1==17) then (bif (decide (a2>64)) then (bnd (Qaa N 1) λ y1=>some (y1.1,y1.2.1,y1.2.2)) else bnd (Qdo N a0.Locals (wI a2)) λ y2=>bif (y2.2 != 0) then (bnd (Qaa N y2.2) λ y3=>some (y3.1,y3.2.1,y3.2.2)) else some ((Uh.mk a0.Heap y2.1 a0.Globals a0.Weaks a0.Pins a0.Roots),0,0)) else bnd (QaK N a0 a2) λ y4=>bif (y4.2 != 0) then (bnd (Qaa N y4.2) λ y5=>some (y5.1,y5.2.1,y5.2.2)) else bnd (Qd4 N a0.Locals) λ y6=>bif (y6.2 != 0) then (bnd (Qaa N y6.2) λ y7=>some (y7.1,y7.2.1,y7.2.2)) else bnd (Qcj N (Uh.mk a0.Heap y6.1 a0.Globals a0.Weaks a0.Pins a0.Roots) y4.1) λ y8=>some (y8.1,y8.2.1,y8.2.2)
def Qcl (N:Nat) (a0:Wo) (a1:Int) (a2:Int):Option Wo:=grd (a0.Pages.length*32<=140737488355328) <| bnd (QeE N a0 a1) λ y1=>bnd (Xb a0.Pages y1) λ p2=>bnd (Xb a0.Pages y1) λ p3=>some (Wo.mk a0.Conf a0.Words (a0.Pages.set y1.toNat (Wx.mk p3.Kind p3.Space p3.Used (wI (p2.Pins+a2)))) a0.Space a0.Bump)
def Qdb (N:Nat) (a0:Wo) (a1:List UE) (a2:Int):Option (Wo×List UE×Int):=bnd (QbW N a0 a1) λ y1=>bif (!y1) then some (zHp,[],19) else bif (a2==0) then some (zHp,[],5) else bnd (QeD N a1 a2) λ y2=>bif (decide (y2<0)) then some (zHp,[],12) else grd (a1.length*16<=140737488355328) <| bnd (Xb a1 y2) λ p3=>bnd (Xb a1 y2) λ p4=>bnd (Xb (a1.set y2.toNat (UE.mk p4.Ref (wI (p3.Count-1)))) y2) λ p5=>bif (p5.Count==0) then (grd (0<=0/\0<=y2/\y2<=((a1.length:Nat):Int)) <| grd (0<=(wI (y2+1))/\(wI (y2+1))<=((a1.length:Nat):Int)/\((a1.length:Nat):Int)<=((a1.length:Nat):Int)) <| grd (y2.toNat≠a1.length/\(y2.toNat+(a1.length-(wI (y2+1)).toNat))<=a1.length) <| bnd (Qcl N a0 a2 (-1)) λ y7=>some (y7,(((((a1.set y2.toNat (UE.mk p4.Ref (wI (p3.Count-1)))).take y2.toNat)++(((a1.set y2.toNat (UE.mk p4.Ref (wI (p3.Count-1)))).drop (wI (y2+1)).toNat).take (a1.length-(wI (y2+1)).toNat)))++((a1.set y2.toNat (UE.mk p4.Ref (wI (p3.Count-1)))).drop (y2.toNat+(a1.length-(wI (y2+1)).toNat)))).take (y2.toNat+(a1.length-(wI (y2+1)).toNat))),0)) else bnd (Qcl N a0 a2 (-1)) λ y8=>some (y8,(a1.set y2.toNat (UE.mk p4.Ref (wI (p3.Count-1)))),0)
def QdF (N:Nat) (a0:Wo) (a1:Int):Option Bool:=bnd (Qas N a0) λ y1=>bnd (Qb8 N y1.1 a1) λ y2=>some y2
def Qby (N:Nat) (a0:Wo) (a1:Int):Nat->Int->Int->Option Int
 | 0,_,_=>none
 | n+1,v3,v4 =>
  bif (decide (v4<((a0.Pages.length:Nat):Int))) then (bnd (Xb a0.Pages v4) λ p5 =>
   bif (p5.Kind==1) then (bnd (Xb a0.Pages v4) λ p6 =>
    bif (decide (p6.Pins>0)) then Qby N a0 a1 n (wI (v3+1)) (wI (v4+1))
    else Qby N a0 a1 n v3 (wI (v4+1)))
   else Qby N a0 a1 n v3 (wI (v4+1)))
  else some v3
def QcG (N:Nat) (a0:Wo) (a1:Int):Option Bool:=bnd (Qb4 N a0) λ y1=>bif (!y1) then some false else bnd (QdF N a0 a1) λ y2=>bif (!y2) then some false else bnd (Qby N a0 a1 N 0 0) λ y7=>bnd (QeE N a0 a1) λ y8=>bnd (Xb a0.Pages y8) λ p9=>bif (p9.Kind==1) then (bif (p9.Pins==0) then some (decide (y7>=(wI (a0.Conf.Pages.tdiv 4)))) else some false) else some false
def Qfj (N:Nat) (a0:Wo) (a1:List UE) (a2:Int):Option (Wo×List UE×Int×Int):=bnd (QbW N a0 a1) λ y1=>bif (!y1) then some (zHp,[],0,19) else bif (a2==0) then some (zHp,[],0,5) else bnd (QdF N a0 a2) λ y2=>bif (!y2) then some (zHp,[],0,1) else bnd (QeD N a1 a2) λ y3=>jn (λ (_:Unit)=>grd (a1.length*16<=140737488355328) <| jn (λ (x11:List UE)=>bnd (Qcl N a0 a2 1) λ y12=>some (y12,x11,(wU (a2+1)),0)) λ j2=>bif (decide (y3>=0)) then (bnd (Xb a1 y3) λ p9=>bnd (Xb a1 y3) λ p10=>j2 (a1.set y3.toNat (UE.mk p10.Ref (wI (p9.Count+1))))) else grd ((a1.length+1)*16<=140737488355328) <| j2 (a1++[(UE.mk a2 1)])) λ j1=>bif (decide (y3>=0)) then (bnd (Xb a1 y3) λ p4=>bif (p4.Count==1000) then some (zHp,[],0,18) else bif (decide (y3<0)) then (bif (((a1.length:Nat):Int)==64) then some (zHp,[],0,18) else bnd (QcG N a0 a2) λ y5=>bif y5 then some (zHp,[],0,18) else j1 ()) else bnd (QcG N a0 a2) λ y6=>bif y6 then some (zHp,[],0,18) else j1 ()) else bif (decide (y3<0)) then (bif (((a1.length:Nat):Int)==64) then some (zHp,[],0,18) else bnd (QcG N a0 a2) λ y7=>bif y7 then some (zHp,[],0,18) else j1 ()) else bnd (QcG N a0 a2) λ y8=>bif y8 then some (zHp,[],0,18) else j1 ()
def QeM (N:Nat) (a0:Uh) (a1:Int) (a2:Int):Option (Uh×Int×Int):=bnd (Qck N a0 a2) λ y1=>bif (y1.2 != 0) then (bnd (Qaa N y1.2) λ y2=>some (y2.1,y2.2.1,y2.2.2)) else bif (a1==20) then (bnd (Qdb N a0.Heap a0.Pins y1.1) λ y3=>bif (y3.2.2 != 0) then (bnd (Qaa N y3.2.2) λ y4=>some (y4.1,y4.2.1,y4.2.2)) else some ((Uh.mk y3.1 a0.Locals a0.Globals a0.Weaks y3.2.1 a0.Roots),0,0)) else bnd (Qfj N a0.Heap a0.Pins y1.1) λ y5=>bif (y5.2.2.2 != 0) then (bnd (Qaa N y5.2.2.2) λ y6=>some (y6.1,y6.2.1,y6.2.2)) else some ((Uh.mk y5.1 a0.Locals a0.Globals a0.Weaks y5.2.1 a0.Roots),y5.2.2.1,0)
def QeN (N:Nat) (a0:Uh) (a1:Int) (a2:Int) (a3:Int) (a4:Int):Option (Uh×Int×Int):=bnd (Qch N a0) λ y1=>bif (!y1) then (bnd (Qaa N 19) λ y2=>some (y2.1,y2.2.1,y2.2.2)) else jn (λ (x4:Bool)=>bif x4 then (bnd (QdK N a0 a1 a2 a3) λ y5=>some (y5.1,y5.2.1,y5.2.2)) else jn (λ (x8:Bool)=>bif x8 then (bnd (Qei N a0 a1 a2 a3 a4) λ y9=>some (y9.1,y9.2.1,y9.2.2)) else jn (λ (x12:Bool)=>bif x12 then (bnd (Qej N a0 a1 a2 a3) λ y13=>some (y13.1,y13.2.1,y13.2.2)) else jn (λ (x14:Bool)=>bif x14 then (bnd (Qda N a0 a1 a2) λ y15=>some (y15.1,y15.2.1,y15.2.2)) else jn (λ (x17:Bool)=>bif x17 then (bnd (QdL N a0 a1 a2) λ y18=>some (y18.1,y18.2.1,y18.2.2)) else jn (λ (x19:Bool)=>bif x19 then (bnd (QdM N a0 a1 a2) λ y20=>some (y20.1,y20.2.1,y20.2.2)) else jn (λ (x21:Bool)=>bif x21 then (bnd (QeM N a0 a1 a2) λ y22=>some (y22.1,y22.2.1,y22.2.2)) else bnd (Qaa N 1) λ y23=>some (y23.1,y23.2.1,y23.2.2)) λ j13=>bif (a1==19) then j13 true else j13 (a1==20)) λ j12=>bif (a1==17) then j12 true else j12 (a1==18)) λ j11=>bif (a1==12) then j11 true else jn (λ (x16:Bool)=>j11 x16) λ j10=>bif (a1==14) then j10 true else j10 (a1==16)) λ j9=>bif (a1==13) then j9 true else j9 (a1==15)) λ j8=>bif (a1==4) then j8 true else jn (λ (x11:Bool)=>j8 x11) λ j7=>bif (a1==5) then j7 true else jn (λ (x10:Bool)=>j7 x10) λ j6=>bif (a1==10) then j6 true else j6 (a1==11)) λ j5=>bif (a1==6) then j5 true else jn (λ (x7:Bool)=>j5 x7) λ j4=>bif (a1==7) then j4 true else jn (λ (x6:Bool)=>j4 x6) λ j3=>bif (a1==8) then j3 true else j3 (a1==9)) λ j2=>bif (a1==1) then j2 true else jn (λ (x3:Bool)=>j2 x3) λ j1=>bif (a1==2) then j1 true else j1 (a1==3)
def Qdc (N:Nat) (a0:Uh) (a1:Uh) (a2:Int) (a3:Int) (a4:Int):Option I6:=jn (λ (x1:Bool)=>jn (λ (x2:Bool)=>bif (a2==19) then (bif (a4==0) then some (I6.mk x1 x2 a3) else some (I6.mk x1 x2 0)) else some (I6.mk x1 x2 0)) λ j2=>bif (a4==0) then j2 (a0.Heap.Space != a1.Heap.Space) else j2 false) λ j1=>bif (a4==3) then j1 true else bif (a4==18) then j1 (a2==19) else j1 false
def Qcm (N:Nat) (a0:Wq) (a1:Int):Option Int:=bif (a1==0) then some 0 else bnd (Qdv N a0 a1) λ y1=>some y1.2.2.2
def QeU (N:Nat) (a0:WI) (a1:Int) (a2:Int) (a3:Int) (a4:Bool):Option Int:=bif (decide (((a0.Marks.length:Nat):Int)>0)) then some 15 else bnd (QbK N a1 a2 a3) λ y1=>bif (!y1.2) then some 1 else bnd (Qdn N a0.Conf y1.1) λ y2=>bif (!y2) then some 1 else bnd (Qcm N a0.Locals 1) λ y3=>bif (y3 != 0) then some y3 else bif a4 then some 3 else some 0
def QaC (N:Nat) (a0:WI) (a1:Int):Option (Int×Int):=bnd (Qdu N a0) λ y1=>bif (!y1) then some (0,19) else bif (a1==0) then some (0,0) else bnd (Qbx N a1) λ y2=>bif (y2.2 != 0) then some (0,y2.2) else bif (y2.1.Tag==1) then (bnd (Qdw N a0.Locals y2.1.Index y2.1.Stamp) λ y3=>some (y3.1,y3.2)) else bif (y2.1.Tag==2) then (bnd (Qc3 N a0.Globals y2.1.Index y2.1.Stamp) λ y4=>some (y4.1,y4.2)) else bnd (Qc3 N a0.Weaks y2.1.Index y2.1.Stamp) λ y5=>some (y5.1,y5.2)
def Qdz (N:Nat) (a0:WI) (a1:Int):Option (Int×Int):=bnd (QaC N a0 a1) λ y1=>bif (y1.2==0) then (bif (y1.1==0) then some (0,5) else some (y1.1,y1.2)) else some (y1.1,y1.2)
def Qfk (N:Nat) (a0:WI) (a1:Int) (a2:Int) (a3:Int) (a4:Int):Option Int:=bnd (Qdz N a0 a2) λ y1=>bif (y1.2 != 0) then some y1.2 else bnd (Xb a0.Things (wU (y1.1-1))) λ p2=>bif (decide (a3>=(wU p2.Header.Length))) then some 2 else jn (λ (x3:Bool)=>bnd (QbF N p2.Header (wI a3)) λ y4=>bif (!(y4==x3)) then some 4 else bif (a1==8) then (bnd (Xb p2.Fields a3) λ p5=>bnd (Qcm N a0.Locals p5) λ y6=>some y6) else bif (a1==9) then (bnd (QaC N a0 a4) λ y7=>some y7.2) else some y1.2) λ j1=>bif (a1==8) then j1 true else j1 (a1==9)
def QeV (N:Nat) (a0:WI) (a1:Int) (a2:Int):Option Int:=bif (a2==0) then some 5 else bnd (QaC N a0 a2) λ y1=>bif (y1.2 != 0) then some y1.2 else bnd (Qbx N a2) λ y2=>jn (λ (x3:Int)=>bif (a1==16) then (bif (y2.1.Tag != 3) then some 4 else some 0) else bif (y2.1.Tag != x3) then some 4 else some 0) λ j1=>bif (a1==14) then j1 2 else j1 1
def QfO (N:Nat) (a0:WI) (a1:Int) (a2:Int):Option Int:=bnd (Qdz N a0 a2) λ y1=>bif (y1.2 != 0) then some y1.2 else jn (λ (x2:List W6)=>bnd (QbT N (Wy.mk x2) y1.1) λ y3=>some y3.2.2.2) λ j1=>bif (a1==15) then j1 a0.Weaks.Entries else j1 a0.Globals.Entries
def Qfl (N:Nat) (a0:WI) (a1:Int) (a2:Int):Option Int:=bif (a1==17) then (bif (decide (a2>64)) then some 1 else bnd (Qdo N a0.Locals (wI a2)) λ y1=>some y1.2) else bnd (QaC N a0 a2) λ y2=>bif (y2.2 != 0) then some y2.2 else bnd (Qd4 N a0.Locals) λ y3=>bif (y3.2 != 0) then some y3.2 else bnd (Qcm N y3.1 y2.1) λ y4=>some y4
def Qf5 (N:Nat) (a0:WI) (a1:Int) (a2:Int) (a3:Bool):Option Int:=bnd (Qdz N a0 a2) λ y1=>bif (y1.2 != 0) then some y1.2 else bnd (QeK N a0 y1.1) λ y2=>bif (a1==20) then (bif (decide (y2<0)) then some 12 else some 0) else bif (decide (y2>=0)) then (bnd (Xb a0.Marks y2) λ p3=>bif (p3.Count==1000) then some 18 else bif (decide (y2<0)) then (bif (((a0.Marks.length:Nat):Int)==64) then some 18 else bif a3 then some 18 else some 0) else bif a3 then some 18 else some 0) else bif (decide (y2<0)) then (bif (((a0.Marks.length:Nat):Int)==64) then some 18 else bif a3 then some 18 else some 0) else bif a3 then some 18 else some 0
def QfP (N:Nat) (a0:WI) (a1:Int) (a2:Int) (a3:Int):Option Int:=jn (λ (_:Unit)=>bnd (Qdz N a0 a2) λ y1=>some y1.2) λ j1=>bif (a1==4) then j1 () else bif (a1==5) then j1 () else bnd (QaC N a0 a2) λ y2=>bif (y2.2 != 0) then some y2.2 else bif (a1==10) then (bnd (QaC N a0 a3) λ y3=>some y3.2) else bnd (Qcm N a0.Locals y2.1) λ y4=>some y4
def QeW (N:Nat) (a0:WI) (a1:Int) (a2:Int) (a3:Int) (a4:Int) (a5:Bool):Option Int:=bnd (Qdu N a0) λ y1=>bif (!y1) then some 19 else jn (λ (x3:Bool)=>bif x3 then (bnd (QeU N a0 a1 a2 a3 a5) λ y4=>some y4) else jn (λ (x7:Bool)=>bif x7 then (bnd (Qfk N a0 a1 a2 a3 a4) λ y8=>some y8) else jn (λ (x10:Bool)=>bif x10 then (bnd (QeV N a0 a1 a2) λ y11=>some y11) else jn (λ (x12:Bool)=>bif x12 then (bnd (QfO N a0 a1 a2) λ y13=>some y13) else jn (λ (x14:Bool)=>bif x14 then (bnd (Qfl N a0 a1 a2) λ y15=>some y15) else jn (λ (x16:Bool)=>bif x16 then (bnd (Qf5 N a0 a1 a2 a5) λ y17=>some y17) else jn (λ (x20:Bool)=>bif x20 then (bnd (QfP N a0 a1 a2 a3) λ y21=>some y21) else some 1) λ j13=>bif (a1==4) then j13 true else jn (λ (x19:Bool)=>j13 x19) λ j12=>bif (a1==5) then j12 true else jn (λ (x18:Bool)=>j12 x18) λ j11=>bif (a1==10) then j11 true else j11 (a1==11)) λ j10=>bif (a1==19) then j10 true else j10 (a1==20)) λ j9=>bif (a1==17) then j9 true else j9 (a1==18)) λ j8=>bif (a1==13) then j8 true else j8 (a1==15)) λ j7=>bif (a1==12) then j7 true else jn (λ (x9:Bool)=>j7 x9) λ j6=>bif (a1==14) then j6 true else j6 (a1==16)) λ j5=>bif (a1==6) then j5 true else jn (λ (x6:Bool)=>j5 x6) λ j4=>bif (a1==7) then j4 true else jn (λ (x5:Bool)=>j4 x5) λ j3=>bif (a1==8) then j3 true else j3 (a1==9)) λ j2=>bif (a1==1) then j2 true else jn (λ (x2:Bool)=>j2 x2) λ j1=>bif (a1==2) then j1 true else j1 (a1==3)
def QbZ (N:Nat) (a0:WI) (a1:Int):Option (WI×Int):=bif (a1==0) then some (a0,0) else bnd (Qdv N a0.Locals a1) λ y1=>bnd (Qbk N (UR.mk 1 y1.2.1 y1.2.2.1)) λ y2=>some ((WI.mk a0.Conf a0.Things y1.1 a0.Globals a0.Weaks a0.Marks a0.Roots),y2.1)
def QeB (N:Nat) (a0:WI) (a1:Int) (a2:Int) (a3:Int):Option WI:=grd (a0.Things.length*48<=140737488355328) <| bnd (Xb a0.Things (wU (a1-1))) λ p1=>grd (p1.Fields.length*8<=140737488355328) <| bnd (Xb p1.Fields a2) λ p2=>bnd (Xb a0.Things (wU (a1-1))) λ p3=>some (WI.mk a0.Conf (a0.Things.set (wU (a1-1)).toNat (Ie.mk p1.Header (p1.Fields.set a2.toNat a3))) a0.Locals a0.Globals a0.Weaks a0.Marks a0.Roots)
def Qdd (N:Nat) (a0:WI) (a1:Int) (a2:Int):Option (WI×Int):=jn (λ (x3:List W6) (x4:List W6) (x5:Int) (x6:Int) (x7:Int)=>bnd (Qbk N (UR.mk x5 x6 x7)) λ y8=>some ((WI.mk a0.Conf a0.Things a0.Locals (Wy.mk x3) (Wy.mk x4) a0.Marks a0.Roots),y8.1)) λ j1=>bif (a1==15) then (bnd (QbT N a0.Weaks a2) λ y1=>j1 a0.Globals.Entries y1.1.Entries 3 y1.2.1 y1.2.2.1) else bnd (QbT N a0.Globals a2) λ y2=>j1 y2.1.Entries a0.Weaks.Entries 2 y2.2.1 y2.2.2.1
def QdN (N:Nat) (a0:WI) (a1:Int):Option WI:=bnd (Qbx N a1) λ y1=>bif (y1.1.Tag==1) then (bnd (Qc4 N a0.Locals y1.1.Index y1.1.Stamp) λ y2=>some (WI.mk a0.Conf a0.Things y2.1 a0.Globals a0.Weaks a0.Marks a0.Roots)) else bif (y1.1.Tag==2) then (bnd (QbY N a0.Globals y1.1.Index y1.1.Stamp) λ y3=>some (WI.mk a0.Conf a0.Things a0.Locals y3.1 a0.Weaks a0.Marks a0.Roots)) else bnd (QbY N a0.Weaks y1.1.Index y1.1.Stamp) λ y4=>some (WI.mk a0.Conf a0.Things a0.Locals a0.Globals y4.1 a0.Marks a0.Roots)
def Qf6 (N:Nat) (a0:WI) (a1:Int):Option Int:=bnd (QeK N a0 a1) λ y1=>some y1
def QeO (N:Nat) (a0:WI) (a1:Int) (a2:Int) (a3:Int):Option (WI×Int):=bnd (Qf6 N a0 a2) λ y1=>grd (a0.Marks.length*24<=140737488355328) <| bif (a1==20) then (bnd (Xb a0.Marks y1) λ p2=>bnd (Xb a0.Marks y1) λ p3=>bnd (Xb (a0.Marks.set y1.toNat (Iq.mk p3.Id (wI (p2.Count-1)) p3.Base)) y1) λ p4=>bif (p4.Count==0) then (grd (0<=0/\0<=y1/\y1<=((a0.Marks.length:Nat):Int)) <| grd (0<=(wI (y1+1))/\(wI (y1+1))<=((a0.Marks.length:Nat):Int)/\((a0.Marks.length:Nat):Int)<=((a0.Marks.length:Nat):Int)) <| grd (y1.toNat≠a0.Marks.length/\(y1.toNat+(a0.Marks.length-(wI (y1+1)).toNat))<=a0.Marks.length) <| some ((WI.mk a0.Conf a0.Things a0.Locals a0.Globals a0.Weaks (((((a0.Marks.set y1.toNat (Iq.mk p3.Id (wI (p2.Count-1)) p3.Base)).take y1.toNat)++(((a0.Marks.set y1.toNat (Iq.mk p3.Id (wI (p2.Count-1)) p3.Base)).drop (wI (y1+1)).toNat).take (a0.Marks.length-(wI (y1+1)).toNat)))++((a0.Marks.set y1.toNat (Iq.mk p3.Id (wI (p2.Count-1)) p3.Base)).drop (y1.toNat+(a0.Marks.length-(wI (y1+1)).toNat)))).take (y1.toNat+(a0.Marks.length-(wI (y1+1)).toNat))) a0.Roots),0)) else some ((WI.mk a0.Conf a0.Things a0.Locals a0.Globals a0.Weaks (a0.Marks.set y1.toNat (Iq.mk p3.Id (wI (p2.Count-1)) p3.Base)) a0.Roots),0)) else bif (decide (y1>=0)) then (bnd (Xb a0.Marks y1) λ p7=>bnd (Xb a0.Marks y1) λ p8=>bnd (Xb (a0.Marks.set y1.toNat (Iq.mk p8.Id (wI (p7.Count+1)) p8.Base)) y1) λ p9=>some ((WI.mk a0.Conf a0.Things a0.Locals a0.Globals a0.Weaks (a0.Marks.set y1.toNat (Iq.mk p8.Id (wI (p7.Count+1)) p8.Base)) a0.Roots),p9.Base)) else grd ((a0.Marks.length+1)*24<=140737488355328) <| some ((WI.mk a0.Conf a0.Things a0.Locals a0.Globals a0.Weaks (a0.Marks++[(Iq.mk a2 1 a3)]) a0.Roots),a3)
def QeP (N:Nat) (a0:WI) (a1:Int) (a2:Int) (a3:Int) (a4:Int) (a5:I6):Option (WI×Int×Int):=bnd (QeW N a0 a1 a2 a3 a4 a5.Failed) λ y1=>bif (y1 != 0) then some (zWd,0,y1) else jn (λ (x3:Int)=>jn (λ (x5:Bool)=>bif x5 then (jn (λ (x7:Int) (x8:Int) (x9:List Ie) (x10:List US) (x11:List U2) (x12:List Int) (x13:List W6) (x14:List W6) (x15:List Iq) (x16:List Int)=>bnd (QbK N a1 a2 a3) λ y17=>grd (x9.length*48<=140737488355328) <| grd (0<=y17.1.Length/\y17.1.Length.toNat*8<=140737488355328) <| grd ((x9.length+1)*48<=140737488355328) <| grd ((x9.length+1)<=140737488355328) <| bnd (QbZ N (WI.mk (WX.mk x7 x8) (x9++[(Ie.mk y17.1 (List.replicate y17.1.Length.toNat (0:Int)))]) (Wq.mk x10 x11 x12) (Wy.mk x13) (Wy.mk x14) x15 x16) (wU (((x9.length+1):Nat):Int))) λ y18=>some (y18.1,y18.2,0)) λ j4=>bif a5.Collected then (bnd (QcF N a0) λ y6=>j4 y6.1.Conf.PageWords y6.1.Conf.Pages y6.1.Things y6.1.Locals.Slots y6.1.Locals.Scopes y6.1.Locals.Issued y6.1.Globals.Entries y6.1.Weaks.Entries y6.1.Marks y6.1.Roots) else j4 a0.Conf.PageWords a0.Conf.Pages a0.Things a0.Locals.Slots a0.Locals.Scopes a0.Locals.Issued a0.Globals.Entries a0.Weaks.Entries a0.Marks a0.Roots) else bif (a1==4) then (bnd (Xb a0.Things (wU (x3-1))) λ p19=>some (a0,(wU p19.Header.Length),0)) else bif (a1==5) then (bnd (Xb a0.Things (wU (x3-1))) λ p20=>some (a0,(wU p20.Header.Kind),0)) else bif (a1==6) then (bnd (Xb a0.Things (wU (x3-1))) λ p21=>bnd (Xb p21.Fields a3) λ p22=>some (a0,p22,0)) else bif (a1==7) then (bnd (QeB N a0 x3 (wI a3) a4) λ y23=>some (y23,0,0)) else bif (a1==8) then (bnd (Xb a0.Things (wU (x3-1))) λ p24=>bnd (Xb p24.Fields a3) λ p25=>bnd (QbZ N a0 p25) λ y26=>some (y26.1,y26.2,0)) else bif (a1==9) then (bnd (QaC N a0 a4) λ y27=>bnd (QeB N a0 x3 (wI a3) y27.1) λ y28=>some (y28,0,0)) else bif (a1==10) then (bnd (QaC N a0 a3) λ y29=>bif (x3==y29.1) then some (a0,1,0) else some (a0,0,0)) else bif (a1==11) then (bnd (QbZ N a0 x3) λ y30=>some (y30.1,y30.2,0)) else jn (λ (x31:Bool)=>bif x31 then (bnd (Qdd N a0 a1 x3) λ y32=>some (y32.1,y32.2,0)) else jn (λ (x34:Bool)=>bif x34 then (bnd (QdN N a0 a2) λ y35=>some (y35,0,0)) else bif (a1==17) then (bnd (Qdo N a0.Locals (wI a2)) λ y36=>some ((WI.mk a0.Conf a0.Things y36.1 a0.Globals a0.Weaks a0.Marks a0.Roots),0,0)) else bif (a1==18) then (bnd (Qd4 N a0.Locals) λ y37=>bnd (QbZ N (WI.mk a0.Conf a0.Things y37.1 a0.Globals a0.Weaks a0.Marks a0.Roots) x3) λ y38=>some (y38.1,y38.2,0)) else bnd (QeO N a0 a1 x3 a5.Base) λ y39=>some (y39.1,y39.2,0)) λ j7=>bif (a1==12) then j7 true else jn (λ (x33:Bool)=>j7 x33) λ j6=>bif (a1==14) then j6 true else j6 (a1==16)) λ j5=>bif (a1==13) then j5 true else j5 (a1==15)) λ j3=>bif (a1==1) then j3 true else jn (λ (x4:Bool)=>j3 x4) λ j2=>bif (a1==2) then j2 true else j2 (a1==3)) λ j1=>bif (decide (a1>3)) then (bif (a1 != 17) then (bnd (QaC N a0 a2) λ y2=>j1 y2.1) else j1 0) else j1 0
def Qct (N:Nat) (a0:Io) (a1:I4):Option (Io×Int×Int):=bif (a1.Op==0) then (bnd (QcE N a0.Env) λ y1=>jn (λ (x3:Int) (x4:Int) (x5:List Int) (x6:List Wx) (x7:Int) (x8:Int) (x9:List US) (x10:List U2) (x11:List Int) (x12:List W6) (x13:List W6) (x14:List UE) (x15:List Int) (x16:Int) (x17:Int) (x18:List Ie) (x19:List US) (x20:List U2) (x21:List Int) (x22:List W6) (x23:List W6) (x24:List Iq) (x25:List Int)=>some ((Io.mk (Uh.mk (Wo.mk (WX.mk x3 x4) x5 x6 x7 x8) (Wq.mk x9 x10 x11) (Wy.mk x12) (Wy.mk x13) x14 x15) (WI.mk (WX.mk x16 x17) x18 (Wq.mk x19 x20 x21) (Wy.mk x22) (Wy.mk x23) x24 x25) a0.Words),0,0)) λ j1=>bif (y1.2.2==0) then (bnd (QcF N a0.World) λ y2=>j1 y1.1.Heap.Conf.PageWords y1.1.Heap.Conf.Pages y1.1.Heap.Words y1.1.Heap.Pages y1.1.Heap.Space y1.1.Heap.Bump y1.1.Locals.Slots y1.1.Locals.Scopes y1.1.Locals.Issued y1.1.Globals.Entries y1.1.Weaks.Entries y1.1.Pins y1.1.Roots y2.1.Conf.PageWords y2.1.Conf.Pages y2.1.Things y2.1.Locals.Slots y2.1.Locals.Scopes y2.1.Locals.Issued y2.1.Globals.Entries y2.1.Weaks.Entries y2.1.Marks y2.1.Roots) else j1 a0.Env.Heap.Conf.PageWords a0.Env.Heap.Conf.Pages a0.Env.Heap.Words a0.Env.Heap.Pages a0.Env.Heap.Space a0.Env.Heap.Bump a0.Env.Locals.Slots a0.Env.Locals.Scopes a0.Env.Locals.Issued a0.Env.Globals.Entries a0.Env.Weaks.Entries a0.Env.Pins a0.Env.Roots a0.World.Conf.PageWords a0.World.Conf.Pages a0.World.Things a0.World.Locals.Slots a0.World.Locals.Scopes a0.World.Locals.Issued a0.World.Globals.Entries a0.World.Weaks.Entries a0.World.Marks a0.World.Roots) else bnd (QeN N a0.Env a1.Op a1.A a1.B a1.C) λ y26=>bnd (Qdc N a0.Env y26.1 a1.Op y26.2.1 y26.2.2) λ y27=>bnd (QeP N a0.World a1.Op a1.A a1.B a1.C y27) λ y28=>jn (λ (x29:Int) (x30:Int) (x31:List Ie) (x32:List US) (x33:List U2) (x34:List Int) (x35:List W6) (x36:List W6) (x37:List Iq) (x38:List Int)=>bif (y26.2.2==0) then (bif (y26.2.1 != 0) then (grd (a0.Words.length*8<=140737488355328) <| grd ((a0.Words.length+1)*8<=140737488355328) <| some ((Io.mk y26.1 (WI.mk (WX.mk x29 x30) x31 (Wq.mk x32 x33 x34) (Wy.mk x35) (Wy.mk x36) x37 x38) (a0.Words++[y26.2.1])),y26.2.1,y26.2.2)) else some ((Io.mk y26.1 (WI.mk (WX.mk x29 x30) x31 (Wq.mk x32 x33 x34) (Wy.mk x35) (Wy.mk x36) x37 x38) a0.Words),y26.2.1,y26.2.2)) else some ((Io.mk a0.Env (WI.mk (WX.mk x29 x30) x31 (Wq.mk x32 x33 x34) (Wy.mk x35) (Wy.mk x36) x37 x38) a0.Words),y26.2.1,y26.2.2)) λ j2=>bif (y28.2.2==0) then j2 y28.1.Conf.PageWords y28.1.Conf.Pages y28.1.Things y28.1.Locals.Slots y28.1.Locals.Scopes y28.1.Locals.Issued y28.1.Globals.Entries y28.1.Weaks.Entries y28.1.Marks y28.1.Roots else j2 a0.World.Conf.PageWords a0.World.Conf.Pages a0.World.Things a0.World.Locals.Slots a0.World.Locals.Scopes a0.World.Locals.Issued a0.World.Globals.Entries a0.World.Weaks.Entries a0.World.Marks a0.World.Roots
def Qbc (N:Nat) (a0:Io) (a1:U7):Option (Int×U7):=bnd (Qac N a1 14) λ y1=>bif (y1.1==0) then (bnd (Qac N y1.2 8) λ y2=>bnd (Xb [0,1,262145,262146,524289,1125899906842624,4097,262149] y2.1) λ p3=>some (p3,y2.2)) else bif (y1.1==1) then (bnd (Qac N y1.2 ((a0.Words.length:Nat):Int)) λ y4=>bnd (Xb a0.Words y4.1) λ p5=>bnd (Qac N y4.2 3) λ y6=>some ((wU (p5+(wU y6.1))),y6.2)) else jn (λ (x8:Bool)=>bif x8 then (bnd (Qac N y1.2 ((a0.Words.length:Nat):Int)) λ y9=>bnd (Xb a0.Words y9.1) λ p10=>some (p10,y9.2)) else bnd (Qac N y1.2 (if 6<((a0.Words.length:Nat):Int) then 6 else ((a0.Words.length:Nat):Int))) λ y11=>bnd (Xb a0.Words (wI ((wI (((a0.Words.length:Nat):Int)-1))-y11.1))) λ p12=>some (p12,y11.2)) λ j2=>bif (y1.1==2) then j2 true else jn (λ (x7:Bool)=>j2 x7) λ j1=>bif (y1.1==3) then j1 true else j1 (y1.1==4)
def Qcf (N:Nat) (a0:Io) (a1:U7):Option (I4×U7):=bnd (Qac N a1 32) λ y1=>bnd (Xb [1,1,2,2,3,4,5,6,7,7,8,8,9,9,9,10,11,12,12,13,14,15,16,17,18,19,19,20,20,0,0,21] y1.1) λ p2=>bif (p2==1) then (bnd (Qac N y1.2 4) λ y3=>grd (0<=(wU y3.1)) <| bnd (Qac N y3.2 (Kq .i64 1 (wU y3.1))) λ y4=>some ((I4.mk p2 (wU y3.1) (wU y4.1) 0),y4.2)) else jn (λ (x5:Bool)=>bif x5 then (bnd (Qac N y1.2 4) λ y6=>bnd (Qac N y6.2 9) λ y7=>bif (y7.1==0) then (bnd (Qac N y7.2 70) λ y8=>some ((I4.mk p2 (wU y8.1) 0 0),y8.2)) else some ((I4.mk p2 (wU y6.1) 0 0),y7.2)) else bif (p2==17) then (bnd (Qac N y1.2 9) λ y9=>some ((I4.mk p2 (wU y9.1) 0 0),y9.2)) else bnd (Qbc N a0 y1.2) λ y10=>bnd (Qac N y10.2 4) λ y11=>bnd (Qac N y11.2 1000) λ y12=>jn (λ (x16:List Int) (x17:Int) (x18:Int)=>bif (p2==10) then (bnd (Qbc N a0 (U7.mk x16 x17)) λ y19=>some ((I4.mk p2 y10.1 y19.1 x18),y19.2)) else some ((I4.mk p2 y10.1 (wU y11.1) x18),(U7.mk x16 x17))) λ j2=>bif (p2==9) then (bnd (Qbc N a0 y12.2) λ y14=>j2 y14.2.L y14.2.at_ y14.1) else bnd (Qac N y12.2 9) λ y13=>bif (y13.1==0) then (bnd (Qbc N a0 y13.2) λ y15=>j2 y15.2.L y15.2.at_ y15.1) else j2 y13.2.L y13.2.at_ (wU y12.1)) λ j1=>bif (p2==2) then j1 true else j1 (p2==3)
def Qet (N:Nat) (a1:Int):Nat->Int->(List Int)->Int->Int->Int->(List Int)->(List Wx)->Int->Int->(List US)->(List U2)->(List Int)->(List W6)->(List W6)->(List UE)->(List Int)->Int->Int->(List Ie)->(List US)->(List U2)->(List Int)->(List W6)->(List W6)->(List Iq)->(List Int)->(List Int)->Option (Int×Int×List Int×List Wx×Int×Int×List US×List U2×List Int×List W6×List W6×List UE×List Int×Int×Int×List Ie×List US×List U2×List Int×List W6×List W6×List Iq×List Int×List Int)
 | 0,_,_,_,_,_,_,_,_,_,_,_,_,_,_,_,_,_,_,_,_,_,_,_,_,_,_,_=>none
 | n+1,v2,v3,v4,v5,v6,v7,v8,v9,v10,v11,v12,v13,v14,v15,v16,v17,v18,v19,v20,v21,v22,v23,v24,v25,v26,v27,v28 =>
  bif (decide (v2<a1)) then (bnd (Qfu N (U7.mk v3 v4)) λ y29 =>
   bif (!y29) then (bnd (Qcf N (Io.mk (Uh.mk (Wo.mk (WX.mk v5 v6) v7 v8 v9 v10) (Wq.mk v11 v12 v13) (Wy.mk v14) (Wy.mk v15) v16 v17) (WI.mk (WX.mk v18 v19) v20 (Wq.mk v21 v22 v23) (Wy.mk v24) (Wy.mk v25) v26 v27) v28) (U7.mk v3 v4)) λ y30 =>
    bnd (Qct N (Io.mk (Uh.mk (Wo.mk (WX.mk v5 v6) v7 v8 v9 v10) (Wq.mk v11 v12 v13) (Wy.mk v14) (Wy.mk v15) v16 v17) (WI.mk (WX.mk v18 v19) v20 (Wq.mk v21 v22 v23) (Wy.mk v24) (Wy.mk v25) v26 v27) v28) y30.1) λ y31 =>
    Qet N a1 n (wI (v2+1)) y30.2.L y30.2.at_ y31.1.Env.Heap.Conf.PageWords y31.1.Env.Heap.Conf.Pages y31.1.Env.Heap.Words y31.1.Env.Heap.Pages y31.1.Env.Heap.Space y31.1.Env.Heap.Bump y31.1.Env.Locals.Slots y31.1.Env.Locals.Scopes y31.1.Env.Locals.Issued y31.1.Env.Globals.Entries y31.1.Env.Weaks.Entries y31.1.Env.Pins y31.1.Env.Roots y31.1.World.Conf.PageWords y31.1.World.Conf.Pages y31.1.World.Things y31.1.World.Locals.Slots y31.1.World.Locals.Scopes y31.1.World.Locals.Issued y31.1.World.Globals.Entries y31.1.World.Weaks.Entries y31.1.World.Marks y31.1.World.Roots y31.1.Words)
   else some (v5,v6,v7,v8,v9,v10,v11,v12,v13,v14,v15,v16,v17,v18,v19,v20,v21,v22,v23,v24,v25,v26,v27,v28))
  else some (v5,v6,v7,v8,v9,v10,v11,v12,v13,v14,v15,v16,v17,v18,v19,v20,v21,v22,v23,v24,v25,v26,v27,v28)
def Qf0 (N:Nat) (a0:List Int) (a1:Int):Option Io:=bnd (QbS N (U7.mk a0 0)) λ y1=>bnd (Qet N a1 N 0 y1.2.L y1.2.at_ y1.1.Env.Heap.Conf.PageWords y1.1.Env.Heap.Conf.Pages y1.1.Env.Heap.Words y1.1.Env.Heap.Pages y1.1.Env.Heap.Space y1.1.Env.Heap.Bump y1.1.Env.Locals.Slots y1.1.Env.Locals.Scopes y1.1.Env.Locals.Issued y1.1.Env.Globals.Entries y1.1.Env.Weaks.Entries y1.1.Env.Pins y1.1.Env.Roots y1.1.World.Conf.PageWords y1.1.World.Conf.Pages y1.1.World.Things y1.1.World.Locals.Slots y1.1.World.Locals.Scopes y1.1.World.Locals.Issued y1.1.World.Globals.Entries y1.1.World.Weaks.Entries y1.1.World.Marks y1.1.World.Roots y1.1.Words) λ y32=>some (Io.mk (Uh.mk (Wo.mk (WX.mk y32.1 y32.2.1) y32.2.2.1 y32.2.2.2.1 y32.2.2.2.2.1 y32.2.2.2.2.2.1) (Wq.mk y32.2.2.2.2.2.2.1 y32.2.2.2.2.2.2.2.1 y32.2.2.2.2.2.2.2.2.1) (Wy.mk y32.2.2.2.2.2.2.2.2.2.1) (Wy.mk y32.2.2.2.2.2.2.2.2.2.2.1) y32.2.2.2.2.2.2.2.2.2.2.2.1 y32.2.2.2.2.2.2.2.2.2.2.2.2.1) (WI.mk (WX.mk y32.2.2.2.2.2.2.2.2.2.2.2.2.2.1 y32.2.2.2.2.2.2.2.2.2.2.2.2.2.2.1) y32.2.2.2.2.2.2.2.2.2.2.2.2.2.2.2.1 (Wq.mk y32.2.2.2.2.2.2.2.2.2.2.2.2.2.2.2.2.1 y32.2.2.2.2.2.2.2.2.2.2.2.2.2.2.2.2.2.1 y32.2.2.2.2.2.2.2.2.2.2.2.2.2.2.2.2.2.2.1) (Wy.mk y32.2.2.2.2.2.2.2.2.2.2.2.2.2.2.2.2.2.2.2.1) (Wy.mk y32.2.2.2.2.2.2.2.2.2.2.2.2.2.2.2.2.2.2.2.2.1) y32.2.2.2.2.2.2.2.2.2.2.2.2.2.2.2.2.2.2.2.2.2.1 y32.2.2.2.2.2.2.2.2.2.2.2.2.2.2.2.2.2.2.2.2.2.2.1) y32.2.2.2.2.2.2.2.2.2.2.2.2.2.2.2.2.2.2.2.2.2.2.2)
def Qbd (N:Nat) (a0:WX):Option Bool:=bif (decide (a0.PageWords>=16)) then (bif (decide (a0.PageWords<=64)) then (bif ((a0.PageWords.tmod 4)==0) then (bif (decide (a0.Pages>=8)) then some (decide (a0.Pages<=64)) else some false) else some false) else some false) else some false
def Qcu (N:Nat) (a0:WX):Option Int:=bnd (Qbd N a0) λ y1=>bif (!y1) then some 0 else some (wI (a0.PageWords.tdiv 4))
def Qd5 (N:Nat) (a0:WX) (a1:Int):Option Int:=bnd (Qbd N a0) λ y1=>bif (!y1) then some (-1) else bif (decide (a1<1)) then some (-1) else bif (decide (a1>(wI (4*a0.PageWords)))) then some (-1) else bnd (Qcu N a0) λ y2=>bif (decide (a1<=y2)) then some 0 else grd (a0.PageWords≠0) <| some (wI ((wI ((wI (a1+a0.PageWords))-1)).tdiv a0.PageWords))
def Qfa (N:Nat) (a0:Wx) (a1:WX):Option Bool:=some ((a0.Kind==0)&&((a0.Space==0)&&((a0.Used==0)&&(a0.Pins==0))))
def Qbs (N:Nat) (a0:Wx):Option Bool:=bif (a0.Space==0) then some true else some (a0.Space==1)
def Qcy (N:Nat) (a0:Wx):Option Bool:=bif (decide (a0.Pins>=0)) then some (decide (a0.Pins<=2147483647)) else some false
def QcV (N:Nat) (a0:Wx) (a1:WX):Option Bool:=bnd (Qbs N a0) λ y1=>bif y1 then (bnd (Qcy N a0) λ y2=>bif y2 then (bif (decide (a0.Used>=0)) then some (decide (a0.Used<=a1.PageWords)) else some false) else some false) else some false
def QcW (N:Nat) (a0:Wx) (a1:WX):Option Bool:=bnd (Qbs N a0) λ y1=>bif y1 then (bnd (Qcy N a0) λ y2=>bif y2 then (bnd (Qd5 N a1 a0.Used) λ y3=>some (decide (y3>=1))) else some false) else some false
def Qen (N:Nat) (a0:Wx) (a1:Wx):Option Bool:=some ((a0.Kind==3)&&((a0.Space==a1.Space)&&((a0.Used==0)&&(a0.Pins==0))))
def Qeu (N:Nat) (a1:List Wx) (a2:Int) (p1:Wx) (x5:Int) (y6:Int):Nat->Int->Option (Ex Int Unit)
 | 0,_=>none
 | n+1,v7 =>
  bif (decide (v7<(((min ((wI (a2+y6)).toNat-(wI (a2+1)).toNat) (a1.length-(wI (a2+1)).toNat)):Nat):Int))) then (bnd (Xb ((a1.drop (wI (a2+1)).toNat).take ((wI (a2+y6)).toNat-(wI (a2+1)).toNat)) v7) λ p8 =>
   bnd (Qen N p8 (Wx.mk x5 p1.Space p1.Used p1.Pins)) λ y9 =>
   bif (!y9) then some (.ret 0)
   else Qeu N a1 a2 p1 x5 y6 n (wI (v7+1)))
  else some (.nxt ())
def QgB (N:Nat) (a0:WX) (a1:List Wx) (a2:Int):Option Int:=bnd (Xb a1 a2) λ p1=>jn (λ (x5:Int)=>bif (x5 != 2) then some 1 else bnd (Qd5 N a0 p1.Used) λ y6=>bif (decide (y6>(wI (((a1.length:Nat):Int)-a2)))) then some 0 else grd (0<=(wI (a2+1))/\(wI (a2+1))<=(wI (a2+y6))/\(wI (a2+y6))<=((a1.length:Nat):Int)) <| bnd (Qeu N a1 a2 p1 x5 y6 N 0) λ e=>exK e (λ r=>some r) λ y10=>some y6) λ j1=>bif (decide (p1.Kind<0)) then some 0 else bif (decide (p1.Kind>=3)) then some 0 else bif (p1.Kind==0) then (bnd (Qfa N (Wx.mk 0 p1.Space p1.Used p1.Pins) a0) λ y2=>bif (!y2) then some 0 else j1 0) else bif (p1.Kind==1) then (bnd (QcV N (Wx.mk 1 p1.Space p1.Used p1.Pins) a0) λ y3=>bif (!y3) then some 0 else j1 1) else bif (p1.Kind==2) then (bnd (QcW N (Wx.mk 2 p1.Space p1.Used p1.Pins) a0) λ y4=>bif (!y4) then some 0 else j1 2) else none
def QcX (N:Nat) (a0:Wo):Nat->Int->Option (Ex Bool Unit)
 | 0,_=>none
 | n+1,v3 =>
  bif (decide (v3<((a0.Pages.length:Nat):Int))) then (bnd (QgB N a0.Conf a0.Pages v3) λ y4 =>
   bif (y4==0) then some (.ret false)
   else QcX N a0 n (wI (v3+y4)))
  else some (.nxt ())
def Qb0 (N:Nat) (a0:Wo):Option Bool:=jn (λ (_:Unit)=>jn (λ (_:Unit)=>bnd (QcX N a0 N 0) λ e=>exK e (λ r=>some r) λ y5=>some true) λ j2=>bif (a0.Bump != (-1)) then (bif (decide (a0.Bump<0)) then some false else bif (decide (a0.Bump>=((a0.Pages.length:Nat):Int))) then some false else bnd (Xb a0.Pages a0.Bump) λ p2=>bif (p2.Kind != 1) then some false else j2 ()) else j2 ()) λ j1=>bnd (Qbd N a0.Conf) λ y1=>bif (!y1) then some false else bif (((a0.Words.length:Nat):Int) != (wI (a0.Conf.PageWords*a0.Conf.Pages))) then some false else bif (((a0.Pages.length:Nat):Int) != a0.Conf.Pages) then some false else bif (a0.Space != 0) then (bif (a0.Space != 1) then some false else j1 ()) else j1 ()
def Qcz (N:Nat) (a0:List Uz):Nat->Int->(List Int)->Option (List Int)
 | 0,_,_=>none
 | n+1,v1,v2 =>
  bif (decide (v1<((a0.length:Nat):Int))) then (bnd (Xb a0 v1) λ p3 =>
   grd ((v2.length+1)*8<=140737488355328) <|
   Qcz N a0 n (wI (v1+1)) (v2++[p3.addr]))
  else some v2
def QbN (N:Nat) (a0:List Uz):Option (List Int):=bnd (Qcz N a0 N 0 []) λ y4=>some y4
def Qev (N:Nat) (a0:Int):Nat->Int->Int->Option Int
 | 0,_,_=>none
 | n+1,v1,v2 =>
  bif (decide (v2<(if 64<(if a0<0 then 0 else a0) then 64 else (if a0<0 then 0 else a0)))) then Qev N a0 n (bOr .u64 (Kq .u64 v1 1) 1) (wI (v2+1))
  else some v1
def Qbe (N:Nat) (a0:Int):Option Int:=bnd (Qev N a0 N 0 0) λ y3=>some y3
def Qcv (N:Nat) (a0:Ww):Option Bool:=bif (decide (a0.Kind<0)) then some false else bif (decide (a0.Kind>3)) then some false else bif (decide (a0.Length<0)) then some false else bif (decide (a0.Length>255)) then some false else bif (a0.Kind==1) then (jn (λ (x2:Bool)=>some x2) λ j1=>bif (decide (a0.Length<=32)) then (bnd (Qbe N a0.Length) λ y1=>j1 (decide ((wU a0.Map)<=y1))) else j1 false) else some ((a0.Kind==a0.Kind)&&((a0.Length==a0.Length)&&(a0.Map==0)))
def QbL (N:Nat) (a0:Ww):Option Int:=bnd (Qcv N a0) λ y1=>bif (!y1) then some 0 else some (wI (a0.Length+1))
def QdO (N:Nat) (a0:WX) (a1:Int) (a2:Int):Option (Int×Int):=bnd (Qbd N a0) λ y1=>bif (!y1) then some (0,1) else bif (decide (a1<0)) then some (0,2) else bif (decide (a1>=a0.Pages)) then some (0,2) else bif (decide (a2<0)) then some (0,2) else bif (decide (a2>=a0.PageWords)) then some (0,2) else some ((wU (4096+(wU (wI ((wI (a1*a0.PageWords))+a2))))),0)
def QfA (N:Nat) (a0:WX) (a1:Int):Option (Int×Int×Int):=bnd (Qbd N a0) λ y1=>bif (!y1) then some (0,0,1) else bif (decide (a1<4096)) then some (0,0,2) else bif (decide ((wU (a1-4096))>=(wU (wI (a0.PageWords*a0.Pages))))) then some (0,0,2) else grd (a0.PageWords≠0) <| grd (a0.PageWords≠0) <| some ((wI ((wI (wU (a1-4096))).tdiv a0.PageWords)),((wI (wU (a1-4096))).tmod a0.PageWords),0)
def QaA (N:Nat) (a0:Int) (a1:List Int):Nat->Int->Int->Option (Ex (List Int×Int) Unit)
 | 0,_,_=>none
 | n+1,v1,v2 =>
  bif (decide (v2<((a1.length:Nat):Int))) then (bnd (Xb a1 v2) λ p3 =>
   bif (decide (p3<1)) then some (.ret ([],1))
   else bif (decide (p3>v1)) then some (.ret ([],1))
   else QaA N a0 a1 n (wI (v1-p3)) (wI (v2+1)))
  else some (.nxt ())
def QaB (N:Nat) (a1:List Int):Nat->Int->Int->(List Int)->Option (Int×List Int)
 | 0,_,_,_=>none
 | n+1,v5,v6,v7 =>
  bif (decide (v6<((a1.length:Nat):Int))) then (bnd (Xb a1 v6) λ p8 =>
   bnd (Qbe N p8) λ y9 =>
   grd ((v7.length+1)*8<=140737488355328) <|
   grd (0<=p8) <|
   QaB N a1 n (X2 .u64 v5 p8) (wI (v6+1)) (v7++[(Yp .u64 v5 y9)]))
  else some (v5,v7)
def QdA (N:Nat) (a0:Int) (a1:List Int):Option (List Int×Int):=bnd (QaA N a0 a1 N 64 0) λ e=>exK e (λ r=>some r) λ y4=>bnd (QaB N a1 N a0 0 []) λ y10=>bif (y10.1 != 0) then some ([],2) else some (y10.2,0)
def QeX (N:Nat) (a0:Int):Option (Ww×Bool):=bnd (QdA N a0 [2,2,12,32]) λ y1=>bif (y1.2 != 0) then some ((Ww.mk 0 0 0),false) else bnd (Xb y1.1 0) λ p2=>bif (p2 != 1) then some ((Ww.mk 0 0 0),false) else bnd (Xb y1.1 1) λ p3=>bnd (Xb y1.1 2) λ p4=>bnd (Xb y1.1 3) λ p5=>bnd (Qcv N (Ww.mk (wI p3) (wI p4) (wW p5))) λ y6=>bif (!y6) then some ((Ww.mk 0 0 0),false) else some ((Ww.mk (wI p3) (wI p4) (wW p5)),true)
def Qek (N:Nat) (a0:List Int) (a1:Int) (a2:Int):Option (Int×Bool):=bif (decide (a1<4096)) then some (0,false) else bif (decide ((wU (a1-4096))>(wU ((a0.length:Nat):Int)))) then some (0,false) else some ((wI (wU (a1-4096))),(decide (a2<=(wI (((a0.length:Nat):Int)-(wI (wU (a1-4096))))))))
def Qgw (N:Nat) (a0:List Int) (a1:Int):Option (Int×Int):=bnd (Qek N a0 a1 1) λ y1=>bif (!y1.2) then some (0,2) else some (y1.1,0)
def Qd6 (N:Nat) (a0:List Int) (a1:Int):Option (Int×Int):=bnd (Qgw N a0 a1) λ y1=>bif (y1.2 != 0) then some (0,y1.2) else bnd (Xb a0 y1.1) λ p2=>some (p2,0)
def QfR (N:Nat) (a0:Wo) (a1:Int):Option Int:=bnd (Qd6 N a0.Words a1) λ y1=>some y1.1
def Qd7 (N:Nat) (a0:Wo) (a1:Int):Option (Ww×Int):=bnd (Qb0 N a0) λ y1=>bif (!y1) then some ((Ww.mk 0 0 0),1) else bnd (QfA N a0.Conf a1) λ y2=>bif (y2.2.2 != 0) then some ((Ww.mk 0 0 0),y2.2.2) else bnd (Xb a0.Pages y2.1) λ p3=>bnd (QfR N a0 a1) λ y4=>bnd (QeX N y4) λ y5=>bnd (QbL N y5.1) λ y6=>jn (λ (x10:Bool)=>bif (!x10) then some ((Ww.mk 0 0 0),19) else some (y5.1,0)) λ j4=>bif (!y5.2) then j4 false else bif (decide (y2.2.1>=p3.Used)) then j4 false else jn (λ (x9:Bool)=>j4 x9) λ j3=>bif (p3.Kind==1) then j3 (decide (y6<=(wI (p3.Used-y2.2.1)))) else jn (λ (x8:Bool)=>j3 x8) λ j2=>bif (p3.Kind==2) then (jn (λ (x7:Bool)=>j2 x7) λ j1=>bif (y2.2.1==0) then j1 (y6==p3.Used) else j1 false) else j2 false
def Qbq (N:Nat) (a0:Wo) (a1:Int) (p1:Wx):Nat->Int->List Uz->Option (List Uz×Int)
 | 0,_,_=>none
 | n+1,v2,v3 =>
  bif (decide (v2<p1.Used)) then (bnd (QdO N a0.Conf a1 v2) λ y4 =>
   bif (y4.2==0) then (bnd (Qd7 N a0 y4.1) λ y5 =>
    bif (y5.2==0) then (bnd (QbL N y5.1) λ y6 =>
     grd ((v3.length+1)*32<=140737488355328) <|
     Qbq N a0 a1 p1 n (wI (v2+y6)) (v3++[Uz.mk y4.1 y5.1]))
    else some ([],19))
   else some ([],19))
  else some (v3,0)
def Qe6 (N:Nat) (a0:Wo) (a1:Int):Option (List Uz×Int):=bnd (Xb a0.Pages a1) λ p1=>bif (p1.Kind != 1) then (bif (p1.Kind != 2) then some ([],0) else Qbq N a0 a1 p1 N 0 []) else Qbq N a0 a1 p1 N 0 []
def Qfm (N:Nat) (a0:Wo) (a1:Int):Option (List Int×Int):=bnd (Qb0 N a0) λ y1=>bif (!y1) then some ([],1) else bif (decide (a1<0)) then some ([],2) else bif (decide (a1>=((a0.Pages.length:Nat):Int))) then some ([],2) else bnd (Qe6 N a0 a1) λ y2=>bif (y2.2 != 0) then some ([],y2.2) else bnd (QbN N y2.1) λ y3=>some (y3,0)
def QbO (N:Nat) (a0:Wo) (a1:Int) (a2:List Int):Nat->Int->Option (Ex (Int×Bool) Unit)
 | 0,_=>none
 | n+1,v1 =>
  bif (decide (v1<((a2.length:Nat):Int))) then (bnd (Xb a2 v1) λ p2 =>
   bnd (Qd7 N a0 p2) λ y3 =>
   bnd (QbL N y3.1) λ y4 =>
   bnd (Qcu N a0.Conf) λ y5 =>
   bnd (Xb a0.Pages a1) λ p6 =>
   bif (p6.Kind==1) then (bif (!(decide (y4<=y5))) then some (.ret (p2,true))
    else bnd (Xb a0.Pages a1) λ p7 =>
    bif (p7.Kind==2) then (bif (y3.1.Kind==0) then some (.ret (p2,true))
     else QbO N a0 a1 a2 n (wI (v1+1)))
    else QbO N a0 a1 a2 n (wI (v1+1)))
   else bnd (Xb a0.Pages a1) λ p8 =>
   bif (p8.Kind==2) then (bif (y3.1.Kind==0) then some (.ret (p2,true))
    else QbO N a0 a1 a2 n (wI (v1+1)))
   else QbO N a0 a1 a2 n (wI (v1+1)))
  else some (.nxt ())
def Qe7 (N:Nat) (a0:Wo) (a1:Int) (a2:List Int):Option (Int×Bool):=bnd (QbO N a0 a1 a2 N 0) λ e=>exK e (λ r=>some r) λ y9=>some (0,false)
def Qax (N:Nat) (a0:List Int):Option (List Int):=some a0
def Qf7 (N:Nat) (a0:List Int) (a1:Int) (a2:Int):Option (List Int×Int):=bif (decide (a2<0)) then some ([],1) else bnd (Qek N a0 a1 a2) λ y1=>bif (!y1.2) then some ([],2) else grd (0<=y1.1/\y1.1<=(wI (y1.1+a2))/\(wI (y1.1+a2))<=((a0.length:Nat):Int)) <| bnd (Qax N ((a0.drop y1.1.toNat).take ((wI (y1.1+a2)).toNat-y1.1.toNat))) λ y2=>some (y2,0)
def QdW (N:Nat) (a0:Wo):Nat->Int->Option Int
 | 0,_=>none
 | n+1,v1 =>
  bif (decide (v1>0)) then (bnd (Xb a0.Pages v1) λ p2 =>
   bif (p2.Kind==3) then QdW N a0 n (wI (v1-1))
   else some v1)
  else some v1
def Qf8 (N:Nat) (a0:Wo) (a1:Int):Option Int:=bnd (QdW N a0 N a1) λ y3=>some y3
def Qf9 (N:Nat) (a0:Int):Option Bool:=some (a0 != 0)
def Qan (N:Nat) (a0:List Int):Nat->Int->Option (Ex Int Unit)
 | 0,_=>none
 | n+1,v1 =>
  bif (decide (v1<((a0.length:Nat):Int))) then (bnd (Xb a0 v1) λ p2 =>
   bnd (Qf9 N p2) λ y3 =>
   bif y3 then some (.ret v1)
   else Qan N a0 n (wI (v1+1)))
  else some (.nxt ())
def QaF (N:Nat) (a0:List Int):Option Int:=bnd (Qan N a0 N 0) λ e=>exK e (λ r=>some r) λ y4=>some (-1)
def Qde (N:Nat) (a0:Wo) (y1:Int×Int) (y4:List Int×Int):Nat->Int->(List Int)->Option (List Int)
 | 0,_,_=>none
 | n+1,v5,v6 =>
  bif (decide (v5<((y4.1.length:Nat):Int))) then (bnd (Xb y4.1 v5) λ p7 =>
   bnd (Qd7 N a0 p7) λ y8 =>
   jn (λ (x10:Int) =>
    grd (v6.length<=140737488355328) <|
    grd (v6.length<=140737488355328) <|
    grd (0<=(if ((v6.length:Nat):Int)<(if (wI ((wI p7)-(wI y1.1)))<0 then 0 else (wI ((wI p7)-(wI y1.1)))) then ((v6.length:Nat):Int) else (if (wI ((wI p7)-(wI y1.1)))<0 then 0 else (wI ((wI p7)-(wI y1.1)))))/\(if ((v6.length:Nat):Int)<(if (wI ((wI p7)-(wI y1.1)))<0 then 0 else (wI ((wI p7)-(wI y1.1)))) then ((v6.length:Nat):Int) else (if (wI ((wI p7)-(wI y1.1)))<0 then 0 else (wI ((wI p7)-(wI y1.1)))))<=(if ((v6.length:Nat):Int)<(if (wI ((wI ((wI p7)-(wI y1.1)))+x10))<0 then 0 else (wI ((wI ((wI p7)-(wI y1.1)))+x10))) then ((v6.length:Nat):Int) else (if (wI ((wI ((wI p7)-(wI y1.1)))+x10))<0 then 0 else (wI ((wI ((wI p7)-(wI y1.1)))+x10))))/\(if ((v6.length:Nat):Int)<(if (wI ((wI ((wI p7)-(wI y1.1)))+x10))<0 then 0 else (wI ((wI ((wI p7)-(wI y1.1)))+x10))) then ((v6.length:Nat):Int) else (if (wI ((wI ((wI p7)-(wI y1.1)))+x10))<0 then 0 else (wI ((wI ((wI p7)-(wI y1.1)))+x10))))<=((v6.length:Nat):Int)) <|
    Qde N a0 y1 y4 n (wI (v5+1)) (((v6.take (if ((v6.length:Nat):Int)<(if (wI ((wI p7)-(wI y1.1)))<0 then 0 else (wI ((wI p7)-(wI y1.1)))) then ((v6.length:Nat):Int) else (if (wI ((wI p7)-(wI y1.1)))<0 then 0 else (wI ((wI p7)-(wI y1.1))))).toNat)++(List.replicate ((if ((v6.length:Nat):Int)<(if (wI ((wI ((wI p7)-(wI y1.1)))+x10))<0 then 0 else (wI ((wI ((wI p7)-(wI y1.1)))+x10))) then ((v6.length:Nat):Int) else (if (wI ((wI ((wI p7)-(wI y1.1)))+x10))<0 then 0 else (wI ((wI ((wI p7)-(wI y1.1)))+x10)))).toNat-(if ((v6.length:Nat):Int)<(if (wI ((wI p7)-(wI y1.1)))<0 then 0 else (wI ((wI p7)-(wI y1.1)))) then ((v6.length:Nat):Int) else (if (wI ((wI p7)-(wI y1.1)))<0 then 0 else (wI ((wI p7)-(wI y1.1))))).toNat) (0:Int)))++(v6.drop ((if ((v6.length:Nat):Int)<(if (wI ((wI p7)-(wI y1.1)))<0 then 0 else (wI ((wI p7)-(wI y1.1)))) then ((v6.length:Nat):Int) else (if (wI ((wI p7)-(wI y1.1)))<0 then 0 else (wI ((wI p7)-(wI y1.1))))).toNat+((if ((v6.length:Nat):Int)<(if (wI ((wI ((wI p7)-(wI y1.1)))+x10))<0 then 0 else (wI ((wI ((wI p7)-(wI y1.1)))+x10))) then ((v6.length:Nat):Int) else (if (wI ((wI ((wI p7)-(wI y1.1)))+x10))<0 then 0 else (wI ((wI ((wI p7)-(wI y1.1)))+x10)))).toNat-(if ((v6.length:Nat):Int)<(if (wI ((wI p7)-(wI y1.1)))<0 then 0 else (wI ((wI p7)-(wI y1.1)))) then ((v6.length:Nat):Int) else (if (wI ((wI p7)-(wI y1.1)))<0 then 0 else (wI ((wI p7)-(wI y1.1))))).toNat))))) λ j1 =>
   bif (y8.1.Kind != 0) then (bnd (QbL N y8.1) λ y9 =>
    j1 y9)
   else j1 1)
  else some v6
def QfB (N:Nat) (a0:Wo) (a1:Int):Option (Int×Bool):=bnd (QdO N a0.Conf a1 0) λ y1=>bnd (Qf7 N a0.Words y1.1 a0.Conf.PageWords) λ y2=>bnd (Qf8 N a0 a1) λ y3=>bnd (Qfm N a0 y3) λ y4=>bnd (Qde N a0 y1 y4 N 0 y2.1) λ y11=>bnd (QaF N y11) λ y12=>some ((wU (y1.1+(wU (if y12<0 then 0 else y12)))),(decide (y12>=0)))
def QaO (N:Nat) (a0:Wo):Nat->Int->Option (Ex Ud Unit)
 | 0,_=>none
 | n+1,v1 =>
  bif (decide (v1<((a0.Pages.length:Nat):Int))) then (bnd (Xb a0.Pages v1) λ p2 =>
   jn (λ (_:Unit) =>
    bnd (Qfm N a0 v1) λ y3 =>
    bif (y3.2 != 0) then some (.ret (Ud.mk 3 v1 0))
    else bnd (Qe7 N a0 v1 y3.1) λ y4 =>
    bif y4.2 then some (.ret (Ud.mk 5 v1 y4.1))
    else bnd (QfB N a0 v1) λ y5 =>
    bif y5.2 then some (.ret (Ud.mk 4 v1 y5.1))
    else QaO N a0 n (wI (v1+1))) λ j1 =>
   bif (p2.Kind != 0) then (bif (p2.Space != a0.Space) then some (.ret (Ud.mk 2 v1 0))
    else j1 ())
   else j1 ())
  else some (.nxt ())
def QfQ (N:Nat) (a0:Wo):Option Ud:=bnd (QaO N a0 N 0) λ e=>exK e (λ r=>some r) λ y6=>some (Ud.mk 0 0 0)
def Qe8 (N:Nat) (a0:Wo):Nat->Int->(List Uz)->Option (Ex (List Uz×Int) (List Uz))
 | 0,_,_=>none
 | n+1,v2,v3 =>
  bif (decide (v2<((a0.Pages.length:Nat):Int))) then (bnd (Qe6 N a0 v2) λ y4 =>
   bif (y4.2 != 0) then some (.ret ([],y4.2))
   else grd ((v3.length+y4.1.length)*32<=140737488355328) <|
   Qe8 N a0 n (wI (v2+1)) (v3++y4.1))
  else some (.nxt v3)
def QgT (N:Nat) (a0:Wo):Option (List Uz×Int):=bnd (Qb0 N a0) λ y1=>bif (!y1) then some ([],1) else bnd (Qe8 N a0 N 0 []) λ e=>exK e (λ r=>some r) λ y5=>some (y5,0)
def QdG (N:Nat) (a0:Uz):Option Bool:=some (a0.hd.Kind==0)
def Qae (N:Nat) (a0:List Uz):Nat->Int->Option (Ex Int Unit)
 | 0,_=>none
 | n+1,v1 =>
  bif (decide (v1<((a0.length:Nat):Int))) then (bnd (Xb a0 v1) λ p2 =>
   bnd (QdG N p2) λ y3 =>
   bif y3 then some (.ret v1)
   else Qae N a0 n (wI (v1+1)))
  else some (.nxt ())
def Qaf (N:Nat) (a0:List Uz):Option Int:=bnd (Qae N a0 N 0) λ e=>exK e (λ r=>some r) λ y4=>some (-1)
def QbU (N:Nat):Nat->Int->Int->(List Uz)->Option (Int×List Uz)
 | 0,_,_,_=>none
 | n+1,v3,v4,v5 =>
  grd (v5.length<=140737488355328) <|
  bif (decide (v4<((v5.length:Nat):Int))) then (bnd (Xb v5 v4) λ p6 =>
   bnd (QdG N p6) λ y7 =>
   bif (!y7) then (bnd (Xb v5 v3) λ p8 =>
    QbU N n (wI (v3+1)) (wI (v4+1)) (v5.set v3.toNat p6))
   else QbU N n v3 (wI (v4+1)) v5)
  else some (v3,v5)
def QdP (N:Nat) (a0:Wo):Option (List Int×Int):=bnd (QgT N a0) λ y1=>bif (y1.2 != 0) then some ([],y1.2) else bnd (Qaf N y1.1) λ y2=>bif (y2==(-1)) then (bnd (QbN N y1.1) λ y11=>some (y11,0)) else bnd (QbU N N y2 (wI (y2+1)) y1.1) λ y9=>grd (0<=y9.1/\y9.1<=((y9.2.length:Nat):Int)/\((y9.2.length:Nat):Int)<=((y9.2.length:Nat):Int)) <| grd (0<=y9.1/\y9.1<=(((((min y9.1.toNat y9.2.length)+(y9.2.length-y9.1.toNat))+(y9.2.length-(y9.1.toNat+(y9.2.length-y9.1.toNat)))):Nat):Int)) <| bnd (QbN N ((((y9.2.take y9.1.toNat)++(List.replicate (y9.2.length-y9.1.toNat) (Uz.mk 0 (Ww.mk 0 0 0))))++(y9.2.drop (y9.1.toNat+(y9.2.length-y9.1.toNat)))).take y9.1.toNat)) λ y12=>some (y12,0)
def QdQ (N:Nat) (a0:Int):Option Bool:=some (a0 != a0)
def Qfb (N:Nat) (a0:Int) (a1:Int):Option Bool:=bnd (QdQ N a0) λ y1=>bif y1 then (bnd (QdQ N a1) λ y2=>bif (!y2) then some true else some (decide (a0<a1))) else some (decide (a0<a1))
def QcK (N:Nat) (a0:Int):Option Bool:=some (a0 != a0)
def Qal (N:Nat) (a0:List Int) (a1:Int):Nat->Int->Int->Option Int
 | 0,_,_=>none
 | n+1,v1,v2 =>
  bif (decide (v1<v2)) then (bnd (Xb a0 (wI (X2 .u64 (wU (wI (v1+v2))) 1))) λ p3 =>
   bnd (Qfb N p3 a1) λ y4 =>
   bif y4 then Qal N a0 a1 n (wI ((wI (X2 .u64 (wU (wI (v1+v2))) 1))+1)) v2
   else Qal N a0 a1 n v1 (wI (X2 .u64 (wU (wI (v1+v2))) 1)))
  else some v1
def Qaq (N:Nat) (a0:List Int) (a1:Int):Option (Int×Bool):=bnd (Qal N a0 a1 N 0 ((a0.length:Nat):Int)) λ y5=>bif (decide (y5<((a0.length:Nat):Int))) then (bnd (Xb a0 y5) λ p6=>bif (p6==a1) then some (y5,true) else bnd (Xb a0 y5) λ p7=>bnd (QcK N p7) λ y8=>bif y8 then (bnd (QcK N a1) λ y9=>some (y5,y9)) else some (y5,false)) else some (y5,false)
def QdH (N:Nat) (a0:Ww) (a1:Int):Option Bool:=bnd (Qcv N a0) λ y1=>bif (!y1) then some false else bif (decide (a1<0)) then some false else bif (decide (a1>=a0.Length)) then some false else bif (a0.Kind==2) then some true else bif (a0.Kind==1) then (grd (0<=a1) <| some ((Yp .u32 (X2 .u32 a0.Map a1) 1)==1)) else some false
def Qbz (N:Nat) (a0:Ww) (y1:Int):Nat->Int->(List Int)->Option (List Int)
 | 0,_,_=>none
 | n+1,v2,v3 =>
  bif (decide (v2<y1)) then (bnd (QdH N a0 v2) λ y4 =>
   bif y4 then (grd ((v3.length+1)*8<=140737488355328) <|
    Qbz N a0 y1 n (wI (v2+1)) (v3++[v2]))
   else Qbz N a0 y1 n (wI (v2+1)) v3)
  else some v3
def Qd8 (N:Nat) (a0:Ww):Option (List Int):=bnd (QbL N a0) λ y1=>bnd (Qbz N a0 y1 N 0 []) λ y5=>some y5
def QaD (N:Nat) (a0:Wo) (y1:List Int×Int) (v2:Int) (p3:Int) (y5:List Int):Nat->Int->Option (Ex Int Unit)
 | 0,_=>none
 | n+1,v6 =>
  bif (decide (v6<((y5.length:Nat):Int))) then (bnd (Xb y5 v6) λ p7 =>
   bnd (Qd6 N a0.Words (wU ((wU (p3+1))+(wU p7)))) λ y8 =>
   bnd (Qaq N y1.1 y8.1) λ y9 =>
   bif (y8.1 != 0) then (bif (!y9.2) then some (.ret (wU ((wU (p3+1))+(wU p7))))
    else QaD N a0 y1 v2 p3 y5 n (wI (v6+1)))
   else QaD N a0 y1 v2 p3 y5 n (wI (v6+1)))
  else some (.nxt ())
def QbR (N:Nat) (a0:Wo) (y1:List Int×Int):Nat->Int->Option Int
 | 0,_=>none
 | n+1,v2 =>
  bif (decide (v2<((y1.1.length:Nat):Int))) then (bnd (Xb y1.1 v2) λ p3 =>
   bnd (Qd7 N a0 p3) λ y4 =>
   bnd (Qd8 N y4.1) λ y5 =>
   bnd (QaD N a0 y1 v2 p3 y5 N 0) λ e=>exK e (λ y10=>some y10) λ y11 =>
   QbR N a0 y1 n (wI (v2+1)))
  else some 0
def Qew (N:Nat) (a0:Wo):Option Ud:=bnd (QdP N a0) λ y1=>bnd (QbR N a0 y1 N 0) λ y12=>bif (y12==0) then some (Ud.mk 0 0 0) else bnd (QfA N a0.Conf y12) λ y13=>some (Ud.mk 6 y13.1 y12)
def QbP (N:Nat) (a0:Wo):Nat->Int->Int->Option Int
 | 0,_,_=>none
 | n+1,v4,v5 =>
  bif (decide (v5<((a0.Pages.length:Nat):Int))) then (bnd (Xb a0.Pages v5) λ p6 =>
   bif (p6.Kind==1) then (bif (decide (p6.Pins>0)) then QbP N a0 n (wI (v4+1)) (wI (v5+1))
    else QbP N a0 n v4 (wI (v5+1)))
   else QbP N a0 n v4 (wI (v5+1)))
  else some v4
def Qgx (N:Nat) (a0:Wo):Option Ud:=bnd (Qb0 N a0) λ y1=>bif (!y1) then some (Ud.mk 1 0 0) else bnd (QfQ N a0) λ y2=>bif (!((y2.Fault==0)&&((y2.Page==0)&&(y2.Addr==0)))) then some y2 else bnd (Qew N a0) λ y3=>bif (!((y3.Fault==0)&&((y3.Page==0)&&(y3.Addr==0)))) then some y3 else bnd (QbP N a0 N 0 0) λ y7=>bif (decide (y7>(wI (a0.Conf.Pages.tdiv 4)))) then some (Ud.mk 7 0 0) else some (Ud.mk 0 0 0)
def QfC (N:Nat) (a0:Wo):Option Bool:=bnd (Qgx N a0) λ y1=>some ((y1.Fault==0)&&((y1.Page==0)&&(y1.Addr==0)))
def Qeo (N:Nat) (a0:UE) (a1:Int):Option Bool:=some (a0.Ref==a1)
def Qaj (N:Nat) (a0:List UE) (c0:Int):Nat->Int->Option (Ex Int Unit)
 | 0,_=>none
 | n+1,v1 =>
  bif (decide (v1<((a0.length:Nat):Int))) then (bnd (Xb a0 v1) λ p2 =>
   bnd (Qeo N p2 c0) λ y3 =>
   bif y3 then some (.ret v1)
   else Qaj N a0 c0 n (wI (v1+1)))
  else some (.nxt ())
def QaR (N:Nat) (a0:List UE) (c0:Int):Option Int:=bnd (Qaj N a0 c0 N 0) λ e=>exK e (λ r=>some r) λ y4=>some (-1)
def QeY (N:Nat) (a0:List UE) (a1:Int):Option Int:=bnd (QaR N a0 a1) λ y1=>some y1
def QbA (N:Nat) (a0:List UE) (a1:Wo) (y1:List Int×Int):Nat->Int->(List Int)->Option (Ex (List Int×Bool) (List Int))
 | 0,_,_=>none
 | n+1,v2,v3 =>
  bif (decide (v2<((a0.length:Nat):Int))) then (bnd (Xb a0 v2) λ p4 =>
   bnd (Qaq N y1.1 p4.Ref) λ y5 =>
   bif (!y5.2) then some (.ret ([],false))
   else bif (decide (p4.Count<1)) then some (.ret ([],false))
   else bif (decide (p4.Count>1000)) then some (.ret ([],false))
   else bnd (QeY N a0 p4.Ref) λ y6 =>
   bif (y6 != v2) then some (.ret ([],false))
   else bnd (QfA N a1.Conf p4.Ref) λ y7 =>
   bnd (Xb v3 y7.1) λ p8 =>
   bnd (Xb v3 y7.1) λ p9 =>
   QbA N a0 a1 y1 n (wI (v2+1)) (v3.set y7.1.toNat (wI (p8+p4.Count))))
  else some (.nxt v3)
def Qfc (N:Nat) (a0:List UE) (a1:Wo):Option (List Int×Bool):=bnd (QdP N a1) λ y1=>grd (0<=((a1.Pages.length:Nat):Int)/\((a1.Pages.length:Nat):Int).toNat*8<=140737488355328) <| bnd (QbA N a0 a1 y1 N 0 (List.replicate ((a1.Pages.length:Nat):Int).toNat (0:Int))) λ e=>exK e (λ r=>some r) λ y10=>some (y10,true)
def QdR (N:Nat) (a0:Wo) (y2:List Int×Bool):Nat->Int->Option (Ex Bool Unit)
 | 0,_=>none
 | n+1,v3 =>
  bif (decide (v3<((a0.Pages.length:Nat):Int))) then (bnd (Xb a0.Pages v3) λ p4 =>
   bnd (Xb y2.1 v3) λ p5 =>
   bif (p4.Pins != p5) then some (.ret false)
   else QdR N a0 y2 n (wI (v3+1)))
  else some (.nxt ())
def QgC (N:Nat) (a0:Wo) (a1:List UE):Option Bool:=bnd (QfC N a0) λ y1=>bif (!y1) then some false else bif (decide (((a1.length:Nat):Int)>64)) then some false else bnd (Qfc N a1 a0) λ y2=>bif (!y2.2) then some false else bnd (QdR N a0 y2 N 0) λ e=>exK e (λ r=>some r) λ y6=>some true
def QaE (N:Nat) (a0:Ii):Nat->Int->Int->Option (Ex Bool Unit)
 | 0,_,_=>none
 | n+1,v1,v2 =>
  bif (decide (v2<((a0.Locals.Scopes.length:Nat):Int))) then (bnd (Xb a0.Locals.Scopes v2) λ p3 =>
   bif (v2==0) then (bif (p3.From != 0) then some (.ret false)
    else bif (!p3.Base) then some (.ret false)
    else bif (decide (p3.From<v1)) then some (.ret false)
    else bif (decide (p3.From>((a0.Locals.Slots.length:Nat):Int))) then some (.ret false)
    else bif (decide (p3.Cap<0)) then some (.ret false)
    else bif (decide (p3.Cap>64)) then some (.ret false)
    else QaE N a0 n p3.From (wI (v2+1)))
   else bif (decide (p3.From<v1)) then some (.ret false)
   else bif (decide (p3.From>((a0.Locals.Slots.length:Nat):Int))) then some (.ret false)
   else bif (decide (p3.Cap<0)) then some (.ret false)
   else bif (decide (p3.Cap>64)) then some (.ret false)
   else QaE N a0 n p3.From (wI (v2+1)))
  else some (.nxt ())
def QcL (N:Nat) (a0:Ii):Option Bool:=jn (λ (_:Unit)=>bnd (QaE N a0 N 0 0) λ e=>exK e (λ r=>some r) λ y4=>some true) λ j1=>bif (decide (((a0.Locals.Scopes.length:Nat):Int)>64)) then some false else bif (((a0.Locals.Scopes.length:Nat):Int)==0) then (bif (decide (((a0.Locals.Slots.length:Nat):Int)>0)) then some false else j1 ()) else j1 ()
def QaL (N:Nat) (a0:Ii):Nat->Int->Int->Option (Ex Bool Unit)
 | 0,_,_=>none
 | n+1,v1,v2 =>
  bif (decide (v2<((a0.Locals.Slots.length:Nat):Int))) then (bnd (Xb a0.Locals.Slots v2) λ p3 =>
   bif (decide (p3.Stamp<=v1)) then some (.ret false)
   else bif (decide (p3.Stamp>((a0.Locals.Issued.length:Nat):Int))) then some (.ret false)
   else bnd (Xb a0.Locals.Issued (wI (p3.Stamp-1))) λ p4 =>
   bif (p4 != v2) then some (.ret false)
   else bif (p3.Live==(p3.Ref==0)) then some (.ret false)
   else QaL N a0 n p3.Stamp (wI (v2+1)))
  else some (.nxt ())
def Qcw (N:Nat) (a0:Ii):Option Bool:=bnd (QaL N a0 N 0 0) λ e=>exK e (λ r=>some r) λ y5=>some true
def Qc5 (N:Nat) (a0:Ii) (a1:Int):Option (List US):=bif (decide ((wI (a1+1))<((a0.Locals.Scopes.length:Nat):Int))) then (bnd (Xb a0.Locals.Scopes a1) λ p1=>bnd (Xb a0.Locals.Scopes (wI (a1+1))) λ p2=>grd (0<=p1.From/\p1.From<=p2.From/\p2.From<=((a0.Locals.Slots.length:Nat):Int)) <| some ((a0.Locals.Slots.drop p1.From.toNat).take (p2.From.toNat-p1.From.toNat))) else bnd (Xb a0.Locals.Scopes a1) λ p3=>grd (0<=p3.From/\p3.From<=((a0.Locals.Slots.length:Nat):Int)/\((a0.Locals.Slots.length:Nat):Int)<=((a0.Locals.Slots.length:Nat):Int)) <| some (a0.Locals.Slots.drop p3.From.toNat)
def Qbg (N:Nat) (y1:List US):Nat->Int->Int->Option Int
 | 0,_,_=>none
 | n+1,v2,v3 =>
  bif (decide (v3<((y1.length:Nat):Int))) then (bnd (Xb y1 v3) λ p4 =>
   bif p4.Live then Qbg N y1 n (wI (v2+1)) (wI (v3+1))
   else Qbg N y1 n v2 (wI (v3+1)))
  else some v2
def QcA (N:Nat) (a0:Ii) (a1:Int):Option Int:=bnd (Qc5 N a0 a1) λ y1=>bnd (Qbg N y1 N 0 0) λ y5=>some y5
def QeZ (N:Nat) (a0:Int):Option Bool:=bif (decide (a0<0)) then some true else some (decide (a0>=4096))
def Qaw (N:Nat) (a0:List Int):Nat->Int->Option (Ex Int Unit)
 | 0,_=>none
 | n+1,v1 =>
  bif (decide (v1<((a0.length:Nat):Int))) then (bnd (Xb a0 v1) λ p2 =>
   bnd (QeZ N p2) λ y3 =>
   bif y3 then some (.ret v1)
   else Qaw N a0 n (wI (v1+1)))
  else some (.nxt ())
def Qbm (N:Nat) (a0:List Int):Option Int:=bnd (Qaw N a0 N 0) λ e=>exK e (λ r=>some r) λ y4=>some (-1)
def Qa5 (N:Nat) (a0:List Int):Option Bool:=bnd (Qbm N a0) λ y1=>some (decide (y1>=0))
def QcY (N:Nat) (a0:Wq):Nat->Int->Option (Ex Bool Unit)
 | 0,_=>none
 | n+1,v4 =>
  bif (decide (v4<((a0.Scopes.length:Nat):Int))) then (bnd (Xb a0.Scopes v4) λ p5 =>
   bnd (QcA N (Ii.mk a0) v4) λ y6 =>
   bif (decide (y6>p5.Cap)) then some (.ret false)
   else QcY N a0 n (wI (v4+1)))
  else some (.nxt ())
def QdB (N:Nat) (a0:Wq):Option Bool:=bif (decide (((a0.Issued.length:Nat):Int)>4096)) then some false else bnd (Qa5 N a0.Issued) λ y1=>bif y1 then some false else bnd (QcL N (Ii.mk a0)) λ y2=>bif (!y2) then some false else bnd (Qcw N (Ii.mk a0)) λ y3=>bif (!y3) then some false else bnd (QcY N a0 N 0) λ e=>exK e (λ r=>some r) λ y7=>some true
def Qe0 (N:Nat) (a0:W6):Option Bool:=bif (decide (a0.Gen<1)) then some true else bif (decide (a0.Gen>4294967295)) then some true else bif (!a0.Live) then some (a0.Ref != 0) else some false
def Qah (N:Nat) (a0:List W6):Nat->Int->Option (Ex Int Unit)
 | 0,_=>none
 | n+1,v1 =>
  bif (decide (v1<((a0.length:Nat):Int))) then (bnd (Xb a0 v1) λ p2 =>
   bnd (Qe0 N p2) λ y3 =>
   bif y3 then some (.ret v1)
   else Qah N a0 n (wI (v1+1)))
  else some (.nxt ())
def QaG (N:Nat) (a0:List W6):Option Int:=bnd (Qah N a0 N 0) λ e=>exK e (λ r=>some r) λ y4=>some (-1)
def Qay (N:Nat) (a0:List W6):Option Bool:=bnd (QaG N a0) λ y1=>some (decide (y1>=0))
def QdC (N:Nat) (a0:Wy):Option Bool:=bif (decide (((a0.Entries.length:Nat):Int)<=64)) then (bnd (Qay N a0.Entries) λ y1=>some (!y1)) else some false
def QaN (N:Nat) (a0:List Int) (a1:Int):Nat->Int->Option (Ex Int Unit)
 | 0,_=>none
 | n+1,v1 =>
  bif (decide (v1<((a0.length:Nat):Int))) then (bnd (Xb a0 v1) λ p2 =>
   bif (a1==p2) then some (.ret v1)
   else QaN N a0 a1 n (wI (v1+1)))
  else some (.nxt ())
def Qb7 (N:Nat) (a0:List Int) (a1:Int):Option Int:=bnd (QaN N a0 a1 N 0) λ e=>exK e (λ r=>some r) λ y3=>some (-1)
def Qa1 (N:Nat) (a0:List Int) (a1:Int):Option Bool:=bnd (Qb7 N a0 a1) λ y1=>some (decide (y1>=0))
def Qdf (N:Nat) (a0:Wy):Nat->Int->(List Int)->Option (List Int)
 | 0,_,_=>none
 | n+1,v2,v3 =>
  bif (decide (v2<((a0.Entries.length:Nat):Int))) then (bnd (Xb a0.Entries v2) λ p4 =>
   bif p4.Live then (grd ((v3.length+1)*8<=140737488355328) <|
    Qdf N a0 n (wI (v2+1)) (v3++[p4.Ref]))
   else Qdf N a0 n (wI (v2+1)) v3)
  else some v3
def QeQ (N:Nat) (a0:Wy):Option (List Int):=bnd (QdC N a0) λ y1=>bif (!y1) then some [] else bnd (Qdf N a0 N 0 []) λ y5=>some y5
def QdS (N:Nat) (a0:Int) (a1:List Int):Option Bool:=bnd (Qaq N a1 a0) λ y1=>bif (a0 != 0) then some (!y1.2) else some false
def Qam (N:Nat) (a0:List Int) (c0:List Int):Nat->Int->Option (Ex Int Unit)
 | 0,_=>none
 | n+1,v1 =>
  bif (decide (v1<((a0.length:Nat):Int))) then (bnd (Xb a0 v1) λ p2 =>
   bnd (QdS N p2 c0) λ y3 =>
   bif y3 then some (.ret v1)
   else Qam N a0 c0 n (wI (v1+1)))
  else some (.nxt ())
def QaT (N:Nat) (a0:List Int) (c0:List Int):Option Int:=bnd (Qam N a0 c0 N 0) λ e=>exK e (λ r=>some r) λ y4=>some (-1)
def QaM (N:Nat) (a0:List Int) (c0:List Int):Option Bool:=bnd (QaT N a0 c0) λ y1=>some (decide (y1>=0))
def Qfn (N:Nat) (a0:Wo) (a1:List Int):Option Bool:=bnd (QfC N a0) λ y1=>bif (!y1) then some false else bnd (QdP N a0) λ y2=>bnd (QaM N a1 y2.1) λ y3=>some (!y3)
def Qa2 (N:Nat) (a1:Int):Option (List Int):=bif (decide (a1<0)) then none else bif (decide ((wI (a1-(wI 0)))>0)) then (grd (0=0/\0=0) <| grd (0<=(wI (a1-(wI 0)))/\(wI (a1-(wI 0))).toNat*8<=140737488355328) <| grd ((wI (a1-(wI 0))).toNat*8<=140737488355328) <| grd (0<=0/\0<=0/\0<=(((wI (a1-(wI 0))).toNat:Nat):Int)) <| some ((List.replicate (wI (a1-(wI 0))).toNat (0:Int)).take 0)) else some []
def QaH (N:Nat) (a0:List (List Int)):Nat->Int->Int->Option Int
 | 0,_,_=>none
 | n+1,v1,v2 =>
  bif (decide (v2<((a0.length:Nat):Int))) then (bnd (Xb a0 v2) λ p3 =>
   bif (decide ((wI (v1+((p3.length:Nat):Int)))<0)) then none
   else QaH N a0 n (wI (v1+((p3.length:Nat):Int))) (wI (v2+1)))
  else some v1
def QaI (N:Nat) (a0:List (List Int)):Nat->Int->(List Int)->Option (List Int)
 | 0,_,_=>none
 | n+1,v6,v7 =>
  bif (decide (v6<((a0.length:Nat):Int))) then (bnd (Xb a0 v6) λ p8 =>
   grd ((v7.length+p8.length)*8<=140737488355328) <|
   QaI N a0 n (wI (v6+1)) (v7++p8))
  else some v7
def Qbf (N:Nat) (a0:List (List Int)):Option (List Int):=bnd (QaH N a0 N 0 0) λ y4=>bnd (Qa2 N y4) λ y5=>bnd (QaI N a0 N 0 y5) λ y9=>some y9
def QfD (N:Nat) (a0:List (List Int)):Option (List Int):=bnd (Qbf N a0) λ y1=>some y1
def Qdg (N:Nat) (a0:Wq):Nat->Int->(List Int)->Option (List Int)
 | 0,_,_=>none
 | n+1,v2,v3 =>
  bif (decide (v2<((a0.Slots.length:Nat):Int))) then (bnd (Xb a0.Slots v2) λ p4 =>
   bif p4.Live then (grd ((v3.length+1)*8<=140737488355328) <|
    Qdg N a0 n (wI (v2+1)) (v3++[p4.Ref]))
   else Qdg N a0 n (wI (v2+1)) v3)
  else some v3
def Qga (N:Nat) (a0:Wq):Option (List Int):=bnd (QdB N a0) λ y1=>bif (!y1) then some [] else bnd (Qdg N a0 N 0 []) λ y5=>some y5
def QdX (N:Nat) (a0:Uh):Nat->Int->(List Int)->Option (List Int)
 | 0,_,_=>none
 | n+1,v1,v2 =>
  bif (decide (v1<((a0.Pins.length:Nat):Int))) then (bnd (Xb a0.Pins v1) λ p3 =>
   grd ((v2.length+1)*8<=140737488355328) <|
   QdX N a0 n (wI (v1+1)) (v2++[p3.Ref]))
  else some v2
def QgN (N:Nat) (a0:Uh):Option (List Int):=bnd (QdX N a0 N 0 []) λ y4=>some y4
def Qgb (N:Nat) (a0:Uh):Option (List Int):=bnd (Qga N a0.Locals) λ y1=>bnd (QeQ N a0.Globals) λ y2=>bnd (QgN N a0) λ y3=>bnd (QfD N [a0.Roots,y1,y2,y3]) λ y4=>some y4
def Qfo (N:Nat) (a0:Uh):Option Bool:=bnd (QgC N a0.Heap a0.Pins) λ y1=>bif (!y1) then some false else bnd (QdB N a0.Locals) λ y2=>bif (!y2) then some false else bnd (QdC N a0.Globals) λ y3=>bif (!y3) then some false else bnd (QdC N a0.Weaks) λ y4=>bif (!y4) then some false else bnd (QeQ N a0.Globals) λ y5=>bnd (Qa1 N y5 0) λ y6=>bif y6 then some false else bnd (Qgb N a0) λ y7=>bnd (QeQ N a0.Weaks) λ y8=>bnd (QfD N [y7,y8]) λ y9=>bnd (Qfn N a0.Heap y9) λ y10=>some y10
def Qfp (N:Nat) (a0:UR):Option Bool:=bif (decide (a0.Tag<1)) then some false else bif (decide (a0.Tag>3)) then some false else bif (decide (a0.Index<0)) then some false else bif (decide (a0.Stamp<1)) then some false else bnd (Qbe N 16) λ y1=>bif (decide ((wU a0.Index)<=y1)) then (bnd (Qbe N 32) λ y2=>some (decide ((wU a0.Stamp)<=y2))) else some false
def Qe1 (N:Nat) (a0:Int):Option (UR×Int):=bif (a0==0) then some ((UR.mk 0 0 0),5) else bnd (QdA N a0 [2,16,32]) λ y1=>bif (y1.2 != 0) then some ((UR.mk 0 0 0),6) else bnd (Xb y1.1 0) λ p2=>bnd (Xb y1.1 1) λ p3=>bnd (Xb y1.1 2) λ p4=>bnd (Qfp N (UR.mk (wI p2) (wI p3) (wI p4))) λ y5=>bif (!y5) then some ((UR.mk 0 0 0),6) else some ((UR.mk (wI p2) (wI p3) (wI p4)),0)
def QgD (N:Nat) (a0:Wq) (a1:Int) (a2:Int):Option (Int×Int):=bnd (QdB N a0) λ y1=>bif (!y1) then some (0,1) else bif (decide (a2<1)) then some (0,6) else bif (decide (a2>((a0.Issued.length:Nat):Int))) then some (0,6) else bnd (Xb a0.Issued (wI (a2-1))) λ p2=>bif (p2 != a1) then some (0,6) else bif (decide (a1>=((a0.Slots.length:Nat):Int))) then some (0,7) else bnd (Xb a0.Slots a1) λ p3=>bif (p3.Stamp != a2) then some (0,7) else bnd (Xb a0.Slots a1) λ p4=>bif (!p4.Live) then some (0,8) else bnd (Xb a0.Slots a1) λ p5=>some (p5.Ref,0)
def Qgy (N:Nat) (a0:Wy) (a1:Int) (a2:Int):Option Int:=bnd (QdC N a0) λ y1=>bif (!y1) then some 1 else bif (decide (a1<0)) then some 6 else bif (decide (a1>=((a0.Entries.length:Nat):Int))) then some 6 else bif (decide (a2<1)) then some 6 else bnd (Xb a0.Entries a1) λ p2=>bif (decide (a2>p2.Gen)) then some 6 else bnd (Xb a0.Entries a1) λ p3=>bif (decide (a2<p3.Gen)) then some 8 else bnd (Xb a0.Entries a1) λ p4=>bif (!p4.Live) then some 8 else some 0
def Qf1 (N:Nat) (a0:Wy) (a1:Int) (a2:Int):Option (Int×Int):=bnd (Qgy N a0 a1 a2) λ y1=>bif (y1 != 0) then some (0,y1) else bnd (Xb a0.Entries a1) λ p2=>some (p2.Ref,0)
def Qcn (N:Nat) (a0:Uh) (a1:Int):Option (Int×Int):=bnd (Qfo N a0) λ y1=>bif (!y1) then some (0,19) else bnd (Qe1 N a1) λ y2=>bif (y2.2==5) then some (0,0) else bif (y2.2 != 0) then some (0,y2.2) else bif (y2.1.Tag==1) then (bnd (QgD N a0.Locals y2.1.Index y2.1.Stamp) λ y3=>some (y3.1,y3.2)) else bif (y2.1.Tag==2) then (bnd (Qf1 N a0.Globals y2.1.Index y2.1.Stamp) λ y4=>some (y4.1,y4.2)) else bnd (Qf1 N a0.Weaks y2.1.Index y2.1.Stamp) λ y5=>some (y5.1,y5.2)
def Qav (N:Nat) (a0:List Wx):Option (List Wx):=some a0
def Qgz (N:Nat) (a0:Wo):Option Wo:=bnd (Qax N a0.Words) λ y1=>bnd (Qav N a0.Pages) λ y2=>some (Wo.mk a0.Conf y1 y2 a0.Space a0.Bump)
def QaY (N:Nat) (a0:List US):Option (List US):=some a0
def QaS (N:Nat) (a0:List U2):Option (List U2):=some a0
def Qcx (N:Nat) (a0:List Int):Option (List Int):=some a0
def QfS (N:Nat) (a0:Wq):Option Wq:=bnd (QaY N a0.Slots) λ y1=>bnd (QaS N a0.Scopes) λ y2=>bnd (Qcx N a0.Issued) λ y3=>some (Wq.mk y1 y2 y3)
def Qbh (N:Nat) (a0:List W6):Option (List W6):=some a0
def Qfq (N:Nat) (a0:Wy):Option Wy:=bnd (Qbh N a0.Entries) λ y1=>some (Wy.mk y1)
def QbQ (N:Nat) (a0:List UE):Option (List UE):=some a0
def QfE (N:Nat) (a0:Uh):Option Uh:=bnd (Qgz N a0.Heap) λ y1=>bnd (QfS N a0.Locals) λ y2=>bnd (Qfq N a0.Globals) λ y3=>bnd (Qfq N a0.Weaks) λ y4=>bnd (QbQ N a0.Pins) λ y5=>bnd (Qax N a0.Roots) λ y6=>some (Uh.mk y1 y2 y3 y4 y5 y6)
def Qgc (N:Nat) (a0:WX) (a1:Ww):Option Bool:=bnd (Qcv N a1) λ y1=>bif y1 then (bif (a1.Kind != 0) then (bnd (QbL N a1) λ y2=>bnd (Qd5 N a0 y2) λ y3=>some (decide (y3>=0))) else some false) else some false
def Qe2 (N:Nat) (a0:List Wx):Nat->Int->Int->Option Int
 | 0,_,_=>none
 | n+1,v1,v2 =>
  bif (decide (v2<((a0.length:Nat):Int))) then (bnd (Xb a0 v2) λ p3 =>
   bif (p3.Kind != 0) then Qe2 N a0 n (wI (v1+1)) (wI (v2+1))
   else Qe2 N a0 n v1 (wI (v2+1)))
  else some v1
def QgO (N:Nat) (a0:List Wx):Option Int:=bnd (Qe2 N a0 N 0 0) λ y4=>some y4
def Qhd (N:Nat) (a0:List Wx) (a1:Int) (a2:List Wx):Option (List Wx×Int):=bif (decide (a1<0)) then some ([],2) else bif (decide (a1>(wI (((a0.length:Nat):Int)-((a2.length:Nat):Int))))) then some ([],2) else grd (0<=a1/\a1<=(wI (a1+((a2.length:Nat):Int)))/\(wI (a1+((a2.length:Nat):Int)))<=((a0.length:Nat):Int)) <| bnd (QgO N ((a0.drop a1.toNat).take ((wI (a1+((a2.length:Nat):Int))).toNat-a1.toNat))) λ y1=>bif (decide (y1>0)) then some ([],20) else bnd (Qav N a0) λ y2=>grd (0<=a1/\a1<=((y2.length:Nat):Int)/\((y2.length:Nat):Int)<=((y2.length:Nat):Int)) <| grd (a2.length<=(y2.length-a1.toNat)) <| some ((((y2.take a1.toNat)++a2)++(y2.drop (a1.toNat+a2.length))),0)
def Qhv (N:Nat) (a0:List Wx) (a1:Int) (a2:Int):Option (List Wx×Int):=bnd (Qbs N (Wx.mk 1 a2 0 0)) λ y1=>bif (!y1) then some ([],1) else bnd (Qhd N a0 a1 [(Wx.mk 1 a2 0 0)]) λ y2=>some (y2.1,y2.2)
def QfT (N:Nat) (a1:List Wx) (a2:Int) (a3:Int) (y1:Int):Nat->(List Wx)->Option (List Wx)
 | 0,_=>none
 | n+1,v3 =>
  grd (v3.length<=140737488355328) <|
  bif (decide (((v3.length:Nat):Int)<y1)) then (grd ((v3.length+1)*32<=140737488355328) <|
   QfT N a1 a2 a3 y1 n (v3++[(Wx.mk 3 a3 0 0)]))
  else some v3
def Qhw (N:Nat) (a0:WX) (a1:List Wx) (a2:Int) (a3:Int) (a4:Int):Option (List Wx×Int):=bnd (Qd5 N a0 a4) λ y1=>bif (decide (y1<1)) then some ([],1) else bnd (Qbs N (Wx.mk 2 a3 a4 0)) λ y2=>bif (!y2) then some ([],1) else bnd (QfT N a1 a2 a3 y1 N [(Wx.mk 2 a3 a4 0)]) λ y4=>bnd (Qhd N a1 a2 y4) λ y5=>some (y5.1,y5.2)
def Qhx (N:Nat) (a0:WX):Option Int:=bnd (Qbd N a0) λ y1=>bif (!y1) then some 0 else some (wI (a0.Pages.tdiv 4))
def Qex (N:Nat) (a0:List Wx):Nat->Int->(List IZ)->Option (List IZ)
 | 0,_,_=>none
 | n+1,v1,v2 =>
  bif (decide (v1<((a0.length:Nat):Int))) then (bnd (Xb a0 v1) λ p3 =>
   grd (v2.length<=140737488355328) <|
   bif (p3.Kind != 0) then Qex N a0 n (wI (v1+1)) v2
   else jn (λ (_:Unit) =>
    grd ((v2.length+1)*16<=140737488355328) <|
    Qex N a0 n (wI (v1+1)) (v2++[(IZ.mk v1 1)])) λ j1 =>
   bif (decide ((wI (((v2.length:Nat):Int)-1))>=0)) then (bnd (Xb v2 (wI (((v2.length:Nat):Int)-1))) λ p4 =>
    bnd (Xb v2 (wI (((v2.length:Nat):Int)-1))) λ p5 =>
    bif ((wI (p4.From+p5.Len))==v1) then (bnd (Xb v2 (wI (((v2.length:Nat):Int)-1))) λ p6 =>
     bnd (Xb v2 (wI (((v2.length:Nat):Int)-1))) λ p7 =>
     Qex N a0 n (wI (v1+1)) (v2.set (wI (((v2.length:Nat):Int)-1)).toNat (IZ.mk p7.From (wI (p6.Len+1)))))
    else j1 ())
   else j1 ())
  else some v2
def QhP (N:Nat) (a0:List Wx):Option (List IZ):=bnd (Qex N a0 N 0 []) λ y8=>some y8
def QfU (N:Nat) (a1:Int) (y1:List IZ):Nat->Int->Option (Ex Int Unit)
 | 0,_=>none
 | n+1,v2 =>
  bif (decide (v2<((y1.length:Nat):Int))) then (bnd (Xb y1 v2) λ p3 =>
   bif (decide (p3.Len>=a1)) then some (.ret p3.From)
   else QfU N a1 y1 n (wI (v2+1)))
  else some (.nxt ())
def QgP (N:Nat) (a0:List Wx) (a1:Int):Option Int:=bif (decide (a1<1)) then some (-1) else bnd (QhP N a0) λ y1=>bnd (QfU N a1 y1 N 0) λ e=>exK e (λ r=>some r) λ y4=>some (-1)
def Qgr (N:Nat) (a0:Wo) (a1:Int):Option (Wo×I5×Int):=bnd (QgO N a0.Pages) λ y1=>bnd (Qhx N a0.Conf) λ y2=>bnd (Qd5 N a0.Conf a1) λ y3=>bif (decide (y3>0)) then (bnd (QgP N a0.Pages y3) λ y4=>jn (λ (_:Unit)=>some (zHp,(I5.mk 0 0),3)) λ j1=>bif (decide (y4>=0)) then (bif (decide (y1<=(wI (y2-y3)))) then (bnd (Qhw N a0.Conf a0.Pages y4 a0.Space a1) λ y7=>some ((Wo.mk a0.Conf a0.Words y7.1 a0.Space a0.Bump),(I5.mk y4 0),y7.2)) else j1 ()) else j1 ()) else jn (λ (_:Unit)=>bnd (QgP N a0.Pages 1) λ y6=>jn (λ (_:Unit)=>some (zHp,(I5.mk 0 0),3)) λ j4=>bif (decide (y6>=0)) then (bif (decide (y1<y2)) then (bnd (Qhv N a0.Pages y6 a0.Space) λ y11=>bif (y11.2 != 0) then some (zHp,(I5.mk 0 0),y11.2) else bnd (Xb y11.1 y6) λ p12=>some ((Wo.mk a0.Conf a0.Words (y11.1.set y6.toNat (Wx.mk p12.Kind p12.Space a1 p12.Pins)) a0.Space y6),(I5.mk y6 0),0)) else j4 ()) else j4 ()) λ j3=>bif (decide (a0.Bump>=0)) then (bif (decide (y1<=y2)) then (bnd (Xb a0.Pages a0.Bump) λ p5=>jn (λ (_:Unit)=>j3 ()) λ j2=>bif (p5.Space==a0.Space) then (bif (decide (a1<=(wI (a0.Conf.PageWords-p5.Used)))) then (bnd (Qav N a0.Pages) λ y8=>bnd (Xb y8 a0.Bump) λ p9=>bnd (Xb y8 a0.Bump) λ p10=>some ((Wo.mk a0.Conf a0.Words (y8.set a0.Bump.toNat (Wx.mk p10.Kind p10.Space (wI (p9.Used+a1)) p10.Pins)) a0.Space a0.Bump),(I5.mk a0.Bump p5.Used),0)) else j2 ()) else j2 ()) else j3 ()) else j3 ()
def QhQ (N:Nat) (a0:Int) (a1:Int):Option Bool:=bnd (Qbe N a1) λ y1=>some ((Xce .u64 a0 y1)==0)
def Qgd (N:Nat) (a0:List IU):Nat->Int->Int->Option (Ex (Int×Int) Unit)
 | 0,_,_=>none
 | n+1,v1,v2 =>
  bif (decide (v2<((a0.length:Nat):Int))) then (bnd (Xb a0 v2) λ p3 =>
   bif (decide (p3.Width<1)) then some (.ret (0,1))
   else bif (decide (p3.Width>v1)) then some (.ret (0,1))
   else Qgd N a0 n (wI (v1-p3.Width)) (wI (v2+1)))
  else some (.nxt ())
def Qge (N:Nat) (a0:List IU):Nat->Int->Int->Int->Option (Ex (Int×Int) Int)
 | 0,_,_,_=>none
 | n+1,v5,v6,v7 =>
  bif (decide (v7<((a0.length:Nat):Int))) then (bnd (Xb a0 v7) λ p8 =>
   bnd (QhQ N p8.Value p8.Width) λ y9 =>
   bif (!y9) then some (.ret (0,2))
   else grd (0<=v6) <|
   Qge N a0 n (bOr .u64 v5 (Kq .u64 p8.Value v6)) (wI (v6+p8.Width)) (wI (v7+1)))
  else some (.nxt v5)
def Qhe (N:Nat) (a0:List IU):Option (Int×Int):=bnd (Qgd N a0 N 64 0) λ e=>exK e (λ r=>some r) λ y4=>bnd (Qge N a0 N 0 0 0) λ e=>exK e (λ r=>some r) λ y10=>some (y10,0)
def QgG (N:Nat) (a0:Ww):Option (Int×Int):=bnd (Qcv N a0) λ y1=>bif (!y1) then some (0,1) else bnd (Qhe N [(IU.mk 2 1),(IU.mk 2 (wU a0.Kind)),(IU.mk 12 (wU a0.Length)),(IU.mk 32 (wU a0.Map))]) λ y2=>some (y2.1,y2.2)
def Qhl (N:Nat) (a0:List Int) (a1:Int) (a2:List Int):Option (List Int×Int):=bnd (Qek N a0 a1 ((a2.length:Nat):Int)) λ y1=>bif (!y1.2) then some ([],2) else bnd (Qax N a0) λ y2=>grd (0<=y1.1/\y1.1<=((y2.length:Nat):Int)/\((y2.length:Nat):Int)<=((y2.length:Nat):Int)) <| grd (a2.length<=(y2.length-y1.1.toNat)) <| some ((((y2.take y1.1.toNat)++a2)++(y2.drop (y1.1.toNat+a2.length))),0)
def Qgs (N:Nat) (a0:Wo) (a1:List Int) (a2:Int):Option (Wo×Int):=bif (a2 != 0) then some (zHp,a2) else bnd (Qav N a0.Pages) λ y1=>some ((Wo.mk a0.Conf a1 y1 a0.Space a0.Bump),0)
def Qhm (N:Nat) (a0:Wo) (a1:Int) (a2:Ww):Option (Wo×Int):=bnd (QgG N a2) λ y1=>bif (y1.2 != 0) then some (zHp,1) else bnd (Qb0 N a0) λ y2=>bif (!y2) then some (zHp,1) else bnd (QbL N a2) λ y3=>grd (0<=y3/\y3.toNat*8<=140737488355328) <| bnd (Xb (List.replicate y3.toNat (0:Int)) 0) λ p4=>bnd (Qhl N a0.Words a1 ((List.replicate y3.toNat (0:Int)).set 0 y1.1)) λ y5=>bnd (Qgs N a0 y5.1 y5.2) λ y6=>some (y6.1,y6.2)
def QhR (N:Nat) (a0:Wo) (a1:Ww):Option (Wo×Int×Int):=bnd (Qb0 N a0) λ y1=>bif (!y1) then some (zHp,0,1) else bnd (Qgc N a0.Conf a1) λ y2=>bif (!y2) then some (zHp,0,1) else bnd (QbL N a1) λ y3=>bnd (Qgr N a0 y3) λ y4=>bif (y4.2.2 != 0) then some (zHp,0,y4.2.2) else bnd (QdO N a0.Conf y4.2.1.page y4.2.1.offset) λ y5=>bif (y5.2 != 0) then some (zHp,0,y5.2) else bnd (Qhm N y4.1 y5.1 a1) λ y6=>bif (y6.2 != 0) then some (zHp,0,y6.2) else some (y6.1,y5.1,0)
def QhS (N:Nat) (a0:Uh) (a1:Ww):Option (Uh×Int×Int):=bnd (Qfo N a0) λ y1=>bif (!y1) then some ((Uh.mk zHp (Wq.mk [] [] []) (Wy.mk []) (Wy.mk []) [] []),0,19) else bnd (Qgc N a0.Heap.Conf a1) λ y2=>bif (!y2) then some ((Uh.mk zHp (Wq.mk [] [] []) (Wy.mk []) (Wy.mk []) [] []),0,1) else bnd (QfE N a0) λ y3=>bnd (QhR N a0.Heap a1) λ y4=>bif (y4.2.2==3) then none else bif (y4.2.2 != 0) then some ((Uh.mk zHp (Wq.mk [] [] []) (Wy.mk []) (Wy.mk []) [] []),0,y4.2.2) else some ((Uh.mk y4.1 y3.Locals y3.Globals y3.Weaks y3.Pins y3.Roots),y4.2.1,0)
def Qhn (N:Nat) (a0:Wq):Option Wq:=bnd (QaY N a0.Slots) λ y1=>bnd (QaS N a0.Scopes) λ y2=>bnd (Qcx N a0.Issued) λ y3=>some (Wq.mk y1 y2 y3)
def Qhf (N:Nat) (a0:Wq) (a1:Int):Option (Wq×Int×Int×Int):=bnd (QdB N a0) λ y1=>bif (!y1) then some ((Wq.mk [] [] []),0,0,1) else bif (a1==0) then some ((Wq.mk [] [] []),0,0,1) else bif (decide ((wI (((a0.Scopes.length:Nat):Int)-1))<0)) then some ((Wq.mk [] [] []),0,0,9) else bnd (QcA N (Ii.mk a0) (wI (((a0.Scopes.length:Nat):Int)-1))) λ y2=>bnd (Xb a0.Scopes (wI (((a0.Scopes.length:Nat):Int)-1))) λ p3=>bif (decide (y2>=p3.Cap)) then some ((Wq.mk [] [] []),0,0,10) else bif (decide (((a0.Issued.length:Nat):Int)>=4096)) then some ((Wq.mk [] [] []),0,0,18) else bnd (Qhn N a0) λ y4=>grd (y4.Slots.length<=140737488355328) <| grd (y4.Issued.length<=140737488355328) <| grd ((y4.Slots.length+1)*24<=140737488355328) <| grd ((y4.Issued.length+1)*8<=140737488355328) <| some ((Wq.mk (y4.Slots++[(US.mk (wI (((y4.Issued.length:Nat):Int)+1)) a1 true)]) y4.Scopes (y4.Issued++[((y4.Slots.length:Nat):Int)])),((y4.Slots.length:Nat):Int),(wI (((y4.Issued.length:Nat):Int)+1)),0)
def Qd9 (N:Nat) (a0:Wo) (a1:Int):Option (Ww×Int):=bnd (Qb0 N a0) λ y1=>bif (!y1) then some ((Ww.mk 0 0 0),1) else bif (a1==0) then some ((Ww.mk 0 0 0),5) else bnd (Qd7 N a0 a1) λ y2=>bif (y2.2 != 0) then some ((Ww.mk 0 0 0),y2.2) else bif (y2.1.Kind==0) then some ((Ww.mk 0 0 0),4) else some (y2.1,0)
def Qgf (N:Nat) (a0:Wo) (a1:Int) (a2:Int):Option (Int×Int):=bnd (Qd9 N a0 a1) λ y1=>bif (y1.2 != 0) then some (0,y1.2) else bif (decide (a2<0)) then some (0,2) else bif (decide (a2>=y1.1.Length)) then some (0,2) else some ((wU ((wU (a1+1))+(wU a2))),0)
def Qfr (N:Nat) (a0:Wo) (a1:Int) (a2:Int):Option (Int×Int):=bnd (Qgf N a0 a1 a2) λ y1=>bif (y1.2 != 0) then some (0,y1.2) else bnd (Qd6 N a0.Words y1.1) λ y2=>some (y2.1,y2.2)
def QgH (N:Nat) (a0:UR):Option (Int×Int):=bnd (Qfp N a0) λ y1=>bif (!y1) then some (0,1) else bnd (Qhe N [(IU.mk 2 (wU a0.Tag)),(IU.mk 16 (wU a0.Index)),(IU.mk 32 (wU a0.Stamp))]) λ y2=>some (y2.1,y2.2)
def Qdh (N:Nat) (a0:Uh) (a1:Int) (a2:Int) (a3:Int) (a4:Int):Option (Uh×Int×Int):=bnd (Qfo N a0) λ y1=>bif (!y1) then some ((Uh.mk zHp (Wq.mk [] [] []) (Wy.mk []) (Wy.mk []) [] []),0,19) else bif (decide (a1<1)) then some ((Uh.mk zHp (Wq.mk [] [] []) (Wy.mk []) (Wy.mk []) [] []),0,1) else bif (decide (a1>20)) then some ((Uh.mk zHp (Wq.mk [] [] []) (Wy.mk []) (Wy.mk []) [] []),0,1) else bnd (QfE N a0) λ y2=>bif (a1==3) then (jn (λ (x13:Int) (x14:Int) (x15:Int) (x16:Int) (x17:List Int) (x18:List Wx) (x19:Int) (x20:Int) (x21:List US) (x22:List U2) (x23:List Int) (x24:List W6) (x25:List W6) (x26:List UE) (x27:List Int)=>bif (x14 != 0) then some ((Uh.mk zHp (Wq.mk [] [] []) (Wy.mk []) (Wy.mk []) [] []),0,x14) else some ((Uh.mk (Wo.mk (WX.mk x15 x16) x17 x18 x19 x20) (Wq.mk x21 x22 x23) (Wy.mk x24) (Wy.mk x25) x26 x27),x13,0)) λ j2=>bnd (Qhf N y2.Locals 4096) λ y3=>bif (decide (((y2.Pins.length:Nat):Int)>0)) then j2 0 15 y2.Heap.Conf.PageWords y2.Heap.Conf.Pages y2.Heap.Words y2.Heap.Pages y2.Heap.Space y2.Heap.Bump y2.Locals.Slots y2.Locals.Scopes y2.Locals.Issued y2.Globals.Entries y2.Weaks.Entries y2.Pins y2.Roots else bif (!(decide (a2<=2147483647))) then j2 0 1 y2.Heap.Conf.PageWords y2.Heap.Conf.Pages y2.Heap.Words y2.Heap.Pages y2.Heap.Space y2.Heap.Bump y2.Locals.Slots y2.Locals.Scopes y2.Locals.Issued y2.Globals.Entries y2.Weaks.Entries y2.Pins y2.Roots else bnd (Qgc N y2.Heap.Conf (Ww.mk 3 (wI (if 2147483647<a2 then 2147483647 else a2)) 0)) λ y4=>bif (!y4) then j2 0 1 y2.Heap.Conf.PageWords y2.Heap.Conf.Pages y2.Heap.Words y2.Heap.Pages y2.Heap.Space y2.Heap.Bump y2.Locals.Slots y2.Locals.Scopes y2.Locals.Issued y2.Globals.Entries y2.Weaks.Entries y2.Pins y2.Roots else bif (y3.2.2.2 != 0) then j2 0 y3.2.2.2 y2.Heap.Conf.PageWords y2.Heap.Conf.Pages y2.Heap.Words y2.Heap.Pages y2.Heap.Space y2.Heap.Bump y2.Locals.Slots y2.Locals.Scopes y2.Locals.Issued y2.Globals.Entries y2.Weaks.Entries y2.Pins y2.Roots else bnd (QhS N y2 (Ww.mk 3 (wI (if 2147483647<a2 then 2147483647 else a2)) 0)) λ y5=>bif (y5.2.2 != 0) then j2 0 y5.2.2 y2.Heap.Conf.PageWords y2.Heap.Conf.Pages y2.Heap.Words y2.Heap.Pages y2.Heap.Space y2.Heap.Bump y2.Locals.Slots y2.Locals.Scopes y2.Locals.Issued y2.Globals.Entries y2.Weaks.Entries y2.Pins y2.Roots else jn (λ (x8:Int) (x9:Int) (x10:List US) (x11:List U2) (x12:List Int)=>j2 x8 x9 y5.1.Heap.Conf.PageWords y5.1.Heap.Conf.Pages y5.1.Heap.Words y5.1.Heap.Pages y5.1.Heap.Space y5.1.Heap.Bump x10 x11 x12 y5.1.Globals.Entries y5.1.Weaks.Entries y5.1.Pins y5.1.Roots) λ j1=>bif (y5.2.1==0) then j1 0 0 y5.1.Locals.Slots y5.1.Locals.Scopes y5.1.Locals.Issued else bnd (Qhf N y5.1.Locals y5.2.1) λ y6=>bif (y6.2.2.2 != 0) then j1 0 y6.2.2.2 y5.1.Locals.Slots y5.1.Locals.Scopes y5.1.Locals.Issued else bnd (QgH N (UR.mk 1 y6.2.1 y6.2.2.1)) λ y7=>j1 y7.1 y7.2 y6.1.Slots y6.1.Scopes y6.1.Issued) else bif (a1==4) then (jn (λ (x32:Int) (x33:Int) (x34:Int) (x35:Int) (x36:Int)=>bif (x33 != 0) then some ((Uh.mk zHp (Wq.mk [] [] []) (Wy.mk []) (Wy.mk []) [] []),0,x33) else some (y2,(wU x35),0)) λ j4=>jn (λ (x29:Int) (x30:Int)=>bif (x30 != 0) then j4 0 x30 0 0 0 else bnd (Qd9 N y2.Heap x29) λ y31=>j4 x29 y31.2 y31.1.Kind y31.1.Length y31.1.Map) λ j3=>bnd (Qcn N y2 a2) λ y28=>bif (y28.2 != 0) then j3 0 y28.2 else bif (y28.1==0) then j3 0 5 else j3 y28.1 0) else bif (a1==5) then (jn (λ (x41:Int) (x42:Int) (x43:Int) (x44:Int) (x45:Int)=>bif (x42 != 0) then some ((Uh.mk zHp (Wq.mk [] [] []) (Wy.mk []) (Wy.mk []) [] []),0,x42) else some (y2,(wU x43),0)) λ j6=>jn (λ (x38:Int) (x39:Int)=>bif (x39 != 0) then j6 0 x39 0 0 0 else bnd (Qd9 N y2.Heap x38) λ y40=>j6 x38 y40.2 y40.1.Kind y40.1.Length y40.1.Map) λ j5=>bnd (Qcn N y2 a2) λ y37=>bif (y37.2 != 0) then j5 0 y37.2 else bif (y37.1==0) then j5 0 5 else j5 y37.1 0) else bif (a1==6) then (jn (λ (x60:Int) (x61:Int)=>bif (x61 != 0) then some ((Uh.mk zHp (Wq.mk [] [] []) (Wy.mk []) (Wy.mk []) [] []),0,x61) else some (y2,x60,0)) λ j10=>jn (λ (x56:Int) (x57:Int) (x58:Int)=>bif (x58 != 0) then j10 0 x58 else bnd (Qfr N y2.Heap x56 x57) λ y59=>j10 y59.1 y59.2) λ j9=>jn (λ (x50:Int) (x51:Int) (x52:Int) (x53:Int) (x54:Int)=>bif (x51 != 0) then j9 0 0 x51 else bif (decide (a3>=(wU x53))) then j9 0 0 2 else bnd (QdH N (Ww.mk x52 x53 x54) (wI a3)) λ y55=>bif (!(y55==false)) then j9 0 0 4 else j9 x50 (wI a3) 0) λ j8=>jn (λ (x47:Int) (x48:Int)=>bif (x48 != 0) then j8 0 x48 0 0 0 else bnd (Qd9 N y2.Heap x47) λ y49=>j8 x47 y49.2 y49.1.Kind y49.1.Length y49.1.Map) λ j7=>bnd (Qcn N y2 a2) λ y46=>bif (y46.2 != 0) then j7 0 y46.2 else bif (y46.1==0) then j7 0 5 else j7 y46.1 0) else bif (a1==10) then (jn (λ (x64:Int) (x65:Int)=>bif (x65 != 0) then some ((Uh.mk zHp (Wq.mk [] [] []) (Wy.mk []) (Wy.mk []) [] []),0,x65) else some (y2,x64,0)) λ j11=>bnd (Qcn N y2 a2) λ y62=>bif (y62.2 != 0) then j11 0 y62.2 else bnd (Qcn N y2 a3) λ y63=>bif (y63.2 != 0) then j11 0 y63.2 else bif (y62.1 != y63.1) then j11 0 y63.2 else j11 1 0) else none
def QgA (N:Nat):Option Bool:=bnd (Qf0 N [] 0) λ y1=>bnd (Qdh N y1.Env 3 3 0 0) λ y2=>bnd (Qdh N y2.1 4 y2.2.1 0 0) λ y3=>bif (y2.2.2==0) then (bif (y3.2.2==0) then (bif (y2.2.1==262145) then some (y3.2.1==3) else some false) else some false) else some false
def QbB (N:Nat) (a0:List Wx) (a1:List Wx):Nat->Int->Option (Ex Bool Unit)
 | 0,_=>none
 | n+1,v1 =>
  bif (decide (v1<((a0.length:Nat):Int))) then (bnd (Xb a0 v1) λ p2 =>
   bnd (Xb a1 v1) λ p3 =>
   bif (!((p2.Kind==p3.Kind)&&((p2.Space==p3.Space)&&((p2.Used==p3.Used)&&(p2.Pins==p3.Pins))))) then some (.ret false)
   else QbB N a0 a1 n (wI (v1+1)))
  else some (.nxt ())
def Qea (N:Nat) (a0:List Wx) (a1:List Wx):Option Bool:=bif (((a0.length:Nat):Int) != ((a1.length:Nat):Int)) then some false else bnd (QbB N a0 a1 N 0) λ e=>exK e (λ r=>some r) λ y4=>some true
def Qdi (N:Nat) (a0:Wo) (a1:Wo):Nat->Int->Option (Ex Bool Unit)
 | 0,_=>none
 | n+1,v2 =>
  bif (decide (v2<((a0.Words.length:Nat):Int))) then (bnd (Xb a0.Words v2) λ p3 =>
   bnd (Xb a1.Words v2) λ p4 =>
   bif (p3 != p4) then some (.ret false)
   else Qdi N a0 a1 n (wI (v2+1)))
  else some (.nxt ())
def Qgg (N:Nat) (a0:Wo) (a1:Wo):Option Bool:=bif (!((a0.Conf.PageWords==a1.Conf.PageWords)&&(a0.Conf.Pages==a1.Conf.Pages))) then some false else bif (a0.Space != a1.Space) then some false else bif (a0.Bump != a1.Bump) then some false else bnd (Qea N a0.Pages a1.Pages) λ y1=>bif (!y1) then some false else bif (((a0.Words.length:Nat):Int) != ((a1.Words.length:Nat):Int)) then some false else bnd (Qdi N a0 a1 N 0) λ e=>exK e (λ r=>some r) λ y5=>some true
def QcH (N:Nat) (a0:Wq) (a1:Wq):Nat->Int->Option (Ex Bool Unit)
 | 0,_=>none
 | n+1,v1 =>
  bif (decide (v1<((a0.Slots.length:Nat):Int))) then (bnd (Xb a0.Slots v1) λ p2 =>
   bnd (Xb a1.Slots v1) λ p3 =>
   bif (!((p2.Stamp==p3.Stamp)&&((p2.Ref==p3.Ref)&&(p2.Live==p3.Live)))) then some (.ret false)
   else QcH N a0 a1 n (wI (v1+1)))
  else some (.nxt ())
def QcI (N:Nat) (a0:Wq) (a1:Wq):Nat->Int->Option (Ex Bool Unit)
 | 0,_=>none
 | n+1,v5 =>
  bif (decide (v5<((a0.Scopes.length:Nat):Int))) then (bnd (Xb a0.Scopes v5) λ p6 =>
   bnd (Xb a1.Scopes v5) λ p7 =>
   bif (!((p6.From==p7.From)&&((p6.Cap==p7.Cap)&&(p6.Base==p7.Base)))) then some (.ret false)
   else QcI N a0 a1 n (wI (v5+1)))
  else some (.nxt ())
def QcJ (N:Nat) (a0:Wq) (a1:Wq):Nat->Int->Option (Ex Bool Unit)
 | 0,_=>none
 | n+1,v9 =>
  bif (decide (v9<((a0.Issued.length:Nat):Int))) then (bnd (Xb a0.Issued v9) λ p10 =>
   bnd (Xb a1.Issued v9) λ p11 =>
   bif (p10 != p11) then some (.ret false)
   else QcJ N a0 a1 n (wI (v9+1)))
  else some (.nxt ())
def Qgh (N:Nat) (a0:Wq) (a1:Wq):Option Bool:=bif (((a0.Slots.length:Nat):Int) != ((a1.Slots.length:Nat):Int)) then some false else bif (((a0.Scopes.length:Nat):Int) != ((a1.Scopes.length:Nat):Int)) then some false else bif (((a0.Issued.length:Nat):Int) != ((a1.Issued.length:Nat):Int)) then some false else bnd (QcH N a0 a1 N 0) λ e=>exK e (λ r=>some r) λ y4=>bnd (QcI N a0 a1 N 0) λ e=>exK e (λ r=>some r) λ y8=>bnd (QcJ N a0 a1 N 0) λ e=>exK e (λ r=>some r) λ y12=>some true
def Qdj (N:Nat) (a0:Wy) (a1:Wy):Nat->Int->Option (Ex Bool Unit)
 | 0,_=>none
 | n+1,v1 =>
  bif (decide (v1<((a0.Entries.length:Nat):Int))) then (bnd (Xb a0.Entries v1) λ p2 =>
   bnd (Xb a1.Entries v1) λ p3 =>
   bif (!((p2.Gen==p3.Gen)&&((p2.Ref==p3.Ref)&&(p2.Live==p3.Live)))) then some (.ret false)
   else Qdj N a0 a1 n (wI (v1+1)))
  else some (.nxt ())
def QfF (N:Nat) (a0:Wy) (a1:Wy):Option Bool:=bif (((a0.Entries.length:Nat):Int) != ((a1.Entries.length:Nat):Int)) then some false else bnd (Qdj N a0 a1 N 0) λ e=>exK e (λ r=>some r) λ y4=>some true
def Qdk (N:Nat) (a0:List UE) (a1:List UE):Nat->Int->Option (Ex Bool Unit)
 | 0,_=>none
 | n+1,v1 =>
  bif (decide (v1<((a0.length:Nat):Int))) then (bnd (Xb a0 v1) λ p2 =>
   bnd (Xb a1 v1) λ p3 =>
   bif (!((p2.Ref==p3.Ref)&&(p2.Count==p3.Count))) then some (.ret false)
   else Qdk N a0 a1 n (wI (v1+1)))
  else some (.nxt ())
def Qgi (N:Nat) (a0:List UE) (a1:List UE):Option Bool:=bif (((a0.length:Nat):Int) != ((a1.length:Nat):Int)) then some false else bnd (Qdk N a0 a1 N 0) λ e=>exK e (λ r=>some r) λ y4=>some true
def Qdl (N:Nat) (a0:List Int) (a1:List Int):Nat->Int->Option (Ex Bool Unit)
 | 0,_=>none
 | n+1,v1 =>
  bif (decide (v1<((a0.length:Nat):Int))) then (bnd (Xb a0 v1) λ p2 =>
   bnd (Xb a1 v1) λ p3 =>
   bif (p2 != p3) then some (.ret false)
   else Qdl N a0 a1 n (wI (v1+1)))
  else some (.nxt ())
def Qgj (N:Nat) (a0:List Int) (a1:List Int):Option Bool:=bif (((a0.length:Nat):Int) != ((a1.length:Nat):Int)) then some false else bnd (Qdl N a0 a1 N 0) λ e=>exK e (λ r=>some r) λ y4=>some true
def Qgk (N:Nat) (a0:Uh) (a1:Uh):Option Bool:=bnd (Qgg N a0.Heap a1.Heap) λ y1=>bif y1 then (bnd (Qgh N a0.Locals a1.Locals) λ y2=>bif y2 then (bnd (QfF N a0.Globals a1.Globals) λ y3=>bif y3 then (bnd (QfF N a0.Weaks a1.Weaks) λ y4=>bif y4 then (bnd (Qgi N a0.Pins a1.Pins) λ y5=>bif y5 then (bnd (Qgj N a0.Roots a1.Roots) λ y6=>some y6) else some false) else some false) else some false) else some false) else some false
def QbV (N:Nat) (a0:List Int) (a1:Int) (a2:Int) (a3:Int):Option Bool:=bnd (Qf0 N a0 60) λ y1=>bnd (Xb [4,5,6,10] ((wI ((a3.tmod 4)+4)).tmod 4)) λ p2=>grd ((wU ((y1.Words.length:Nat):Int))≠0) <| bnd (Xb y1.Words (a1.tmod (wU ((y1.Words.length:Nat):Int)))) λ p3=>bnd (Qdh N y1.Env p2 p3 (a2.tmod 3) 0) λ y4=>bnd (QgA N ) λ y5=>bif y5 then (bif (y4.2.2 != 0) then some true else bnd (Qgk N y4.1 y1.Env) λ y6=>some y6) else some false
end Go.Sx
