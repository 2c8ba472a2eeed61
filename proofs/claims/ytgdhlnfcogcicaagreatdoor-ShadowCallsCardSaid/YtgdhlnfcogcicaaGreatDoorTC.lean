import Derived.Test.YtgdhlnfcogcicaaGreatDoorTA
set_option linter.all false
namespace Go.Sx
structure Ut where
 PageWords:Int
 Pages:Int
structure WE where
 Kind:Int
 Length:Int
 Map:Int
structure W5 where
 Header:WE
 Fields:List Int
structure UR where
 Stamp:Int
 Ref:Int
 Live:Bool
structure UV where
 From:Int
 Cap:Int
 Base:Bool
structure Ws where
 Slots:List UR
 Scopes:List UV
 Issued:List Int
structure WP where
 Gen:Int
 Ref:Int
 Live:Bool
structure WC where
 Entries:List WP
structure Uz where
 Id:Int
 Count:Int
 Base:Int
structure Wm where
 Conf:Ut
 Things:List W5
 Locals:Ws
 Globals:WC
 Weaks:WC
 Marks:List Uz
 Roots:List Int
structure UH where
 Failed:Bool
 Collected:Bool
 Base:Int
structure W4 where
 Kind:Int
 Space:Int
 Used:Int
 Pins:Int
structure Wz where
 Conf:Ut
 Words:List Int
 Pages:List W4
 Space:Int
 Bump:Int
structure II where
 Ref:Int
 Count:Int
structure UX where
 Heap:Wz
 Locals:Ws
 Globals:WC
 Weaks:WC
 Pins:List II
 Roots:List Int
structure IL where
 Env:UX
 World:Wm
 Words:List Int
structure I4 where
 Op:Int
 A:Int
 B:Int
 C:Int
structure Ir where
 L:List Int
 at_:Int
structure UL where
 Copied:Int
 Kept:Int
 Filled:Int
 Freed:Int
 Cleared:Int
 Steps:Int
structure UI where
 Tag:Int
 Index:Int
 Stamp:Int
structure IP where
 Locals:Ws
structure IB where
 Width:Int
 Value:Int
structure W9 where
 Heap:Wz
 Old:List Int
 Taken:List Int
 Queue:List Int
 Scanned:Int
 Report:UL
structure UQ where
 World:Wm
 a:Int
 b:Int
 c:Int
 failed:Bool
structure If where
 Fault:Int
 Page:Int
 Addr:Int
structure OP where
 From:Int
 Len:Int
@[simp] abbrev zWd:Wm:=Wm.mk (Ut.mk 0 0) [] (Ws.mk [] [] []) (WC.mk []) (WC.mk []) [] []
@[simp] abbrev zHp:Wz:=Wz.mk (Ut.mk 0 0) [] [] 0 0
def Qab (N:Nat) (a0:Ir) (a1:Int):Option (Int×Ir):=bif (decide (a1<1)) then some (0,a0) else jn (λ (x2:Int)=>grd (a1≠0) <| grd (a1≠0) <| some (((wI ((x2.tmod a1)+a1)).tmod a1),(Ir.mk a0.L (wI (a0.at_+1))))) λ j1=>bif (decide (a0.at_<((a0.L.length:Nat):Int))) then (bnd (Xb a0.L a0.at_) λ p1=>j1 p1) else j1 (wI ((wI (a0.at_*7))+3))
def Qba (N:Nat) (a0:IL) (a1:Ir):Option (Int×Ir):=bnd (Qab N a1 14) λ y1=>bif (y1.1==0) then (bnd (Qab N y1.2 8) λ y2=>bnd (Xb [0,1,262145,262146,524289,1125899906842624,4097,262149] y2.1) λ p3=>some (p3,y2.2)) else bif (y1.1==1) then (bnd (Qab N y1.2 ((a0.Words.length:Nat):Int)) λ y4=>bnd (Xb a0.Words y4.1) λ p5=>bnd (Qab N y4.2 3) λ y6=>some ((wU (p5+(wU y6.1))),y6.2)) else jn (λ (x8:Bool)=>bif x8 then (bnd (Qab N y1.2 ((a0.Words.length:Nat):Int)) λ y9=>bnd (Xb a0.Words y9.1) λ p10=>some (p10,y9.2)) else bnd (Qab N y1.2 (if 6<((a0.Words.length:Nat):Int) then 6 else ((a0.Words.length:Nat):Int))) λ y11=>bnd (Xb a0.Words (wI ((wI (((a0.Words.length:Nat):Int)-1))-y11.1))) λ p12=>some (p12,y11.2)) λ j2=>bif (y1.1==2) then j2 true else jn (λ (x7:Bool)=>j2 x7) λ j1=>bif (y1.1==3) then j1 true else j1 (y1.1==4)
def QbN (N:Nat) (a0:IL) (a1:Ir):Option (I4×Ir):=bnd (Qab N a1 32) λ y1=>bnd (Xb [1,1,2,2,3,4,5,6,7,7,8,8,9,9,9,10,11,12,12,13,14,15,16,17,18,19,19,20,20,0,0,21] y1.1) λ p2=>bif (p2==1) then (bnd (Qab N y1.2 4) λ y3=>grd (0<=(wU y3.1)) <| bnd (Qab N y3.2 (Ka .i64 1 (wU y3.1))) λ y4=>some ((I4.mk p2 (wU y3.1) (wU y4.1) 0),y4.2)) else jn (λ (x5:Bool)=>bif x5 then (bnd (Qab N y1.2 4) λ y6=>bnd (Qab N y6.2 9) λ y7=>bif (y7.1==0) then (bnd (Qab N y7.2 70) λ y8=>some ((I4.mk p2 (wU y8.1) 0 0),y8.2)) else some ((I4.mk p2 (wU y6.1) 0 0),y7.2)) else bif (p2==17) then (bnd (Qab N y1.2 9) λ y9=>some ((I4.mk p2 (wU y9.1) 0 0),y9.2)) else bnd (Qba N a0 y1.2) λ y10=>bnd (Qab N y10.2 4) λ y11=>bnd (Qab N y11.2 1000) λ y12=>jn (λ (x16:List Int) (x17:Int) (x18:Int)=>bif (p2==10) then (bnd (Qba N a0 (Ir.mk x16 x17)) λ y19=>some ((I4.mk p2 y10.1 y19.1 x18),y19.2)) else some ((I4.mk p2 y10.1 (wU y11.1) x18),(Ir.mk x16 x17))) λ j2=>bif (p2==9) then (bnd (Qba N a0 y12.2) λ y14=>j2 y14.2.L y14.2.at_ y14.1) else bnd (Qab N y12.2 9) λ y13=>bif (y13.1==0) then (bnd (Qba N a0 y13.2) λ y15=>j2 y15.2.L y15.2.at_ y15.1) else j2 y13.2.L y13.2.at_ (wU y12.1)) λ j1=>bif (p2==2) then j1 true else j1 (p2==3)
def Qav (N:Nat) (a0:Ut):Option Bool:=bif (decide (a0.PageWords>=16)) then (bif (decide (a0.PageWords<=64)) then (bif ((a0.PageWords.tmod 4)==0) then (bif (decide (a0.Pages>=8)) then some (decide (a0.Pages<=64)) else some false) else some false) else some false) else some false
def QfS (N:Nat) (a0:Ut):Option (Wm×Int):=bnd (Qav N a0) λ y1=>bif (!y1) then some (zWd,1) else some ((Wm.mk a0 [] (Ws.mk [] [] []) (WC.mk []) (WC.mk []) [] []),0)
def QeX (N:Nat) (a0:Ir):Option (Ut×Ir):=bnd (Qab N a0 4) λ y1=>bnd (Xb [16,16,20,32] y1.1) λ p2=>bnd (Qab N y1.2 5) λ y3=>bnd (Xb [8,12,16,20,24] y3.1) λ p4=>some ((Ut.mk p2 p4),y3.2)
def Qgt (N:Nat) (a0:Ut):Option (Wz×Int):=bnd (Qav N a0) λ y1=>bif (!y1) then some (zHp,1) else grd (0<=(wI (a0.Pages*a0.PageWords))/\(wI (a0.Pages*a0.PageWords)).toNat*8<=140737488355328) <| grd (0<=a0.Pages/\a0.Pages.toNat*32<=140737488355328) <| some ((Wz.mk a0 (List.replicate (wI (a0.Pages*a0.PageWords)).toNat 0) (List.replicate a0.Pages.toNat (W4.mk 0 0 0 0)) 0 (-1)),0)
def QfT (N:Nat) (a0:Ut):Option (UX×Int):=bnd (Qgt N a0) λ y1=>some ((UX.mk y1.1 (Ws.mk [] [] []) (WC.mk []) (WC.mk []) [] []),y1.2)
def QbX (N:Nat) (a0:Ir):Option (IL×Ir):=bnd (QeX N a0) λ y1=>bnd (QfT N y1.1) λ y2=>bnd (QfS N y1.1) λ y3=>bnd (Qab N y1.2 40) λ y4=>some ((IL.mk (UX.mk y2.1.Heap (Ws.mk y2.1.Locals.Slots [(UV.mk 0 (wI (4+y4.1)) true)] y2.1.Locals.Issued) y2.1.Globals y2.1.Weaks y2.1.Pins y2.1.Roots) (Wm.mk y3.1.Conf y3.1.Things (Ws.mk y3.1.Locals.Slots [(UV.mk 0 (wI (4+y4.1)) true)] y3.1.Locals.Issued) y3.1.Globals y3.1.Weaks y3.1.Marks y3.1.Roots) [0]),y4.2)
def Qf6 (N:Nat) (a0:Ir):Option Bool:=some (decide (a0.at_>=((a0.L.length:Nat):Int)))
def Qcb (N:Nat) (a0:WC):Nat->Int->Option (Ex Bool Unit)
 | 0,_=>none
 | n+1,v1 =>
  bif (decide (v1<((a0.Entries.length:Nat):Int))) then (bnd (Xb a0.Entries v1) λ p2 =>
   bif (decide (p2.Gen<1)) then some (.ret false)
   else bif (decide (p2.Gen>4294967295)) then some (.ret false)
   else bif (!p2.Live) then (bif (p2.Ref != 0) then some (.ret false)
    else Qcb N a0 n (wI (v1+1)))
   else Qcb N a0 n (wI (v1+1)))
  else some (.nxt ())
def QbF (N:Nat) (a0:WC):Option Bool:=bnd (Qcb N a0 N 0) λ e=>exK e (λ r=>some r) λ y3=>some (decide (((a0.Entries.length:Nat):Int)<=64))
def Qci (N:Nat) (a0:WE):Option Bool:=bif (decide (a0.Kind<0)) then some false else bif (decide (a0.Kind>3)) then some false else bif (decide (a0.Length<0)) then some false else bif (decide (a0.Length>255)) then some false else bif (a0.Kind != 1) then some (a0.Map==0) else bif (decide (a0.Length<=32)) then (grd (0<=(wU a0.Length)) <| some (decide ((wU a0.Map)<(Ka .u64 1 (wU a0.Length))))) else some false
def QbG (N:Nat) (a0:WE) (a1:Int):Option Bool:=bnd (Qci N a0) λ y1=>bif (!y1) then some false else bif (decide (a1<0)) then some false else bif (decide (a1>=a0.Length)) then some false else bif (a0.Kind==2) then some true else bif (a0.Kind==1) then (grd (0<=(wU a1)) <| some ((Y0 .u32 (YD .u32 a0.Map (wU a1)) 1)==1)) else some false
def Qdp (N:Nat) (a0:W5):Nat->Int->(List Int)->Option (List Int)
 | 0,_,_=>none
 | n+1,v1,v2 =>
  bif (decide (v1<((a0.Fields.length:Nat):Int))) then (bnd (QbG N a0.Header v1) λ y3 =>
   bif y3 then (bnd (Xb a0.Fields v1) λ p4 =>
    grd ((v2.length+1)*8<=140737488355328) <|
    Qdp N a0 n (wI (v1+1)) (v2++[p4]))
   else Qdp N a0 n (wI (v1+1)) v2)
  else some v2
def QcX (N:Nat) (a0:W5):Option (List Int):=bnd (Qdp N a0 N 0 []) λ y5=>some y5
def Qa7 (N:Nat) (a0:WC):Nat->Int->(List Int)->Option (List Int)
 | 0,_,_=>none
 | n+1,v1,v2 =>
  bif (decide (v1<((a0.Entries.length:Nat):Int))) then (bnd (QbF N a0) λ y3 =>
   bif y3 then (bnd (Xb a0.Entries v1) λ p4 =>
    bif p4.Live then (bnd (Xb a0.Entries v1) λ p5 =>
     grd ((v2.length+1)*8<=140737488355328) <|
     Qa7 N a0 n (wI (v1+1)) (v2++[p5.Ref]))
    else Qa7 N a0 n (wI (v1+1)) v2)
   else some v2)
  else some v2
def Qa4 (N:Nat) (a0:WC):Option (List Int):=bnd (Qa7 N a0 N 0 []) λ y6=>some y6
def QcA (N:Nat) (a0:Ws) (a2:Int):Nat->Int->Int->Option Int
 | 0,_,_=>none
 | n+1,v1,v2 =>
  bif (decide (v2<a2)) then (bnd (Xb a0.Slots v2) λ p3 =>
   bif p3.Live then QcA N a0 a2 n (wI (v1+1)) (wI (v2+1))
   else QcA N a0 a2 n v1 (wI (v2+1)))
  else some v1
def Qf7 (N:Nat) (a0:Ws) (a1:Int) (a2:Int):Option Int:=bnd (QcA N a0 a2 N 0 a1) λ y4=>some y4
def Qg7 (N:Nat) (a0:Ws) (a1:Int):Option Int:=bif (decide ((wI (a1+1))<((a0.Scopes.length:Nat):Int))) then (bnd (Xb a0.Scopes (wI (a1+1))) λ p1=>some p1.From) else some ((a0.Slots.length:Nat):Int)
def QcK (N:Nat) (a0:Ws):Nat->Int->Option (Ex Bool Unit)
 | 0,_=>none
 | n+1,v1 =>
  bif (decide (v1<((a0.Issued.length:Nat):Int))) then (bnd (Xb a0.Issued v1) λ p2 =>
   bif (decide (p2<0)) then some (.ret false)
   else bnd (Xb a0.Issued v1) λ p3 =>
   bif (decide (p3>4095)) then some (.ret false)
   else QcK N a0 n (wI (v1+1)))
  else some (.nxt ())
def Qam (N:Nat) (a0:Ws):Nat->Int->Int->Option (Ex Bool Unit)
 | 0,_,_=>none
 | n+1,v5,v6 =>
  bif (decide (v6<((a0.Slots.length:Nat):Int))) then (bnd (Xb a0.Slots v6) λ p7 =>
   bif (decide (p7.Stamp<=v5)) then some (.ret false)
   else bif (decide (p7.Stamp>((a0.Issued.length:Nat):Int))) then some (.ret false)
   else bnd (Xb a0.Issued (wI (p7.Stamp-1))) λ p8 =>
   bif (p8 != v6) then some (.ret false)
   else bif (!(p7.Live==(p7.Ref != 0))) then some (.ret false)
   else Qam N a0 n p7.Stamp (wI (v6+1)))
  else some (.nxt ())
def Qak (N:Nat) (a0:Ws):Nat->Int->Int->Option (Ex Bool Unit)
 | 0,_,_=>none
 | n+1,v10,v11 =>
  bif (decide (v11<((a0.Scopes.length:Nat):Int))) then (bnd (Xb a0.Scopes v11) λ p12 =>
   bif (v11==0) then (bif (p12.From != 0) then some (.ret false)
    else bif (!p12.Base) then some (.ret false)
    else bif (decide (p12.From<v10)) then some (.ret false)
    else bif (decide (p12.From>((a0.Slots.length:Nat):Int))) then some (.ret false)
    else bif (decide (p12.Cap<0)) then some (.ret false)
    else bif (decide (p12.Cap>64)) then some (.ret false)
    else Qak N a0 n p12.From (wI (v11+1)))
   else bif (decide (p12.From<v10)) then some (.ret false)
   else bif (decide (p12.From>((a0.Slots.length:Nat):Int))) then some (.ret false)
   else bif (decide (p12.Cap<0)) then some (.ret false)
   else bif (decide (p12.Cap>64)) then some (.ret false)
   else Qak N a0 n p12.From (wI (v11+1)))
  else some (.nxt ())
def Qcc (N:Nat) (a0:Ws):Nat->Int->Option (Ex Bool Unit)
 | 0,_=>none
 | n+1,v14 =>
  bif (decide (v14<((a0.Scopes.length:Nat):Int))) then (bnd (Xb a0.Scopes v14) λ p15 =>
   bnd (Qg7 N a0 v14) λ y16 =>
   bnd (Qf7 N a0 p15.From y16) λ y17 =>
   bnd (Xb a0.Scopes v14) λ p18 =>
   bif (decide (y17>p18.Cap)) then some (.ret false)
   else Qcc N a0 n (wI (v14+1)))
  else some (.nxt ())
def QbH (N:Nat) (a0:Ws):Option Bool:=jn (λ (_:Unit)=>bnd (QcK N a0 N 0) λ e=>exK e (λ r=>some r) λ y4=>bnd (Qam N a0 N 0 0) λ e=>exK e (λ r=>some r) λ y9=>bnd (Qak N a0 N 0 0) λ e=>exK e (λ r=>some r) λ y13=>bnd (Qcc N a0 N 0) λ e=>exK e (λ r=>some r) λ y19=>some true) λ j1=>bif (decide (((a0.Issued.length:Nat):Int)>4096)) then some false else bif (decide (((a0.Scopes.length:Nat):Int)>64)) then some false else bif (((a0.Scopes.length:Nat):Int)==0) then (bif (decide (((a0.Slots.length:Nat):Int)>0)) then some false else j1 ()) else j1 ()
def Qcp (N:Nat) (a0:Wm) (a1:List Int):Nat->Int->Option (Ex Bool Unit)
 | 0,_=>none
 | n+1,v1 =>
  bif (decide (v1<((a1.length:Nat):Int))) then (bnd (Xb a1 v1) λ p2 =>
   bif (decide (p2>(wU ((a0.Things.length:Nat):Int)))) then some (.ret false)
   else Qcp N a0 a1 n (wI (v1+1)))
  else some (.nxt ())
def Qcq (N:Nat) (a0:Wm) (a1:List Int):Option Bool:=bnd (Qcp N a0 a1 N 0) λ e=>exK e (λ r=>some r) λ y3=>some true
def Qew (N:Nat) (a0:Wm) (a1:Int):Nat->Int->Option (Ex Int Unit)
 | 0,_=>none
 | n+1,v1 =>
  bif (decide (v1<((a0.Marks.length:Nat):Int))) then (bnd (Xb a0.Marks v1) λ p2 =>
   bif (p2.Id==a1) then some (.ret v1)
   else Qew N a0 a1 n (wI (v1+1)))
  else some (.nxt ())
def Qff (N:Nat) (a0:Wm) (a1:Int):Option Int:=bnd (Qew N a0 a1 N 0) λ e=>exK e (λ r=>some r) λ y3=>some (-1)
def Qa8 (N:Nat) (a0:Ws):Nat->Int->(List Int)->Option (List Int)
 | 0,_,_=>none
 | n+1,v1,v2 =>
  bif (decide (v1<((a0.Slots.length:Nat):Int))) then (bnd (QbH N a0) λ y3 =>
   bif y3 then (bnd (Xb a0.Slots v1) λ p4 =>
    bif p4.Live then (bnd (Xb a0.Slots v1) λ p5 =>
     grd ((v2.length+1)*8<=140737488355328) <|
     Qa8 N a0 n (wI (v1+1)) (v2++[p5.Ref]))
    else Qa8 N a0 n (wI (v1+1)) v2)
   else some v2)
  else some v2
def Qb3 (N:Nat) (a0:Ws):Option (List Int):=bnd (Qa8 N a0 N 0 []) λ y6=>some y6
def QcL (N:Nat) (a0:Wm):Nat->Int->Option (Ex Bool Unit)
 | 0,_=>none
 | n+1,v5 =>
  bif (decide (v5<((a0.Things.length:Nat):Int))) then (bnd (Xb a0.Things v5) λ p6 =>
   bnd (Qci N p6.Header) λ y7 =>
   bif (!y7) then some (.ret false)
   else bif (p6.Header.Kind==0) then some (.ret false)
   else bif (((p6.Fields.length:Nat):Int) != p6.Header.Length) then some (.ret false)
   else bnd (QcX N p6) λ y8 =>
   bnd (Qcq N a0 y8) λ y9 =>
   bif (!y9) then some (.ret false)
   else QcL N a0 n (wI (v5+1)))
  else some (.nxt ())
def QcM (N:Nat) (a0:Wm) (y11:List Int):Nat->Int->Option (Ex Bool Unit)
 | 0,_=>none
 | n+1,v12 =>
  grd (y11.length<=140737488355328) <|
  bif (decide (v12<((y11.length:Nat):Int))) then (bnd (Xb y11 v12) λ p13 =>
   bif (p13==0) then some (.ret false)
   else QcM N a0 y11 n (wI (v12+1)))
  else some (.nxt ())
def QcN (N:Nat) (a0:Wm) (y11:List Int):Nat->Int->Option (Ex Bool Unit)
 | 0,_=>none
 | n+1,v15 =>
  bif (decide (v15<((a0.Marks.length:Nat):Int))) then (bnd (Xb a0.Marks v15) λ p16 =>
   bif (decide (p16.Id<1)) then some (.ret false)
   else bif (decide (p16.Id>(wU ((a0.Things.length:Nat):Int)))) then some (.ret false)
   else bnd (Qff N a0 p16.Id) λ y17 =>
   bif (y17 != v15) then some (.ret false)
   else bif (decide (p16.Count<1)) then some (.ret false)
   else bif (decide (p16.Count>1000)) then some (.ret false)
   else QcN N a0 y11 n (wI (v15+1)))
  else some (.nxt ())
def QdO (N:Nat) (a0:Wm):Option Bool:=bnd (Qav N a0.Conf) λ y1=>bif (!y1) then some false else bnd (QbH N a0.Locals) λ y2=>bif (!y2) then some false else bnd (QbF N a0.Globals) λ y3=>bif (!y3) then some false else bnd (QbF N a0.Weaks) λ y4=>bif (!y4) then some false else bif (decide (((a0.Marks.length:Nat):Int)>64)) then some false else bnd (QcL N a0 N 0) λ e=>exK e (λ r=>some r) λ y10=>bnd (Qa4 N a0.Globals) λ y11=>bnd (QcM N a0 y11 N 0) λ e=>exK e (λ r=>some r) λ y14=>bnd (QcN N a0 y11 N 0) λ e=>exK e (λ r=>some r) λ y18=>bnd (Qcq N a0 a0.Roots) λ y19=>bif y19 then (bnd (Qb3 N a0.Locals) λ y20=>bnd (Qcq N a0 y20) λ y21=>bif y21 then (bnd (Qcq N a0 y11) λ y22=>bif y22 then (bnd (Qa4 N a0.Weaks) λ y23=>bnd (Qcq N a0 y23) λ y24=>some y24) else some false) else some false) else some false
def QbY (N:Nat) (a0:Wm):Nat->Int->(List Int)->Option (List Int)
 | 0,_,_=>none
 | n+1,v3,v4 =>
  bif (decide (v3<((a0.Marks.length:Nat):Int))) then (bnd (Xb a0.Marks v3) λ p5 =>
   grd ((v4.length+1)*8<=140737488355328) <|
   QbY N a0 n (wI (v3+1)) (v4++[p5.Id]))
  else some v4
def Qem (N:Nat) (a0:Wm):Option (List Int):=grd (a0.Roots.length*8<=140737488355328) <| bnd (Qb3 N a0.Locals) λ y1=>grd ((a0.Roots.length+y1.length)*8<=140737488355328) <| bnd (Qa4 N a0.Globals) λ y2=>grd (((a0.Roots.length+y1.length)+y2.length)*8<=140737488355328) <| bnd (QbY N a0 N 0 ((a0.Roots++y1)++y2)) λ y6=>some y6
def Qar (N:Nat) (a0:Wm):Nat->Int->(List Bool)->(List Int)->Option (List Bool)
 | 0,_,_,_=>none
 | n+1,v3,v4,v5 =>
  grd (v5.length<=140737488355328) <|
  bif (decide (v3<((v5.length:Nat):Int))) then (bnd (Xb v5 v3) λ p6 =>
   bif (p6==0) then Qar N a0 n (wI (v3+1)) v4 v5
   else bnd (Xb v5 v3) λ p7 =>
   bnd (Xb v4 (wU (p7-1))) λ p8 =>
   bif p8 then Qar N a0 n (wI (v3+1)) v4 v5
   else bnd (Xb v5 v3) λ p9 =>
   bnd (Xb v4 (wU (p9-1))) λ p10 =>
   bnd (Xb v5 v3) λ p11 =>
   bnd (Xb a0.Things (wU (p11-1))) λ p12 =>
   bnd (QcX N p12) λ y13 =>
   grd ((v5.length+y13.length)*8<=140737488355328) <|
   Qar N a0 n (wI (v3+1)) (v4.set (wU (p9-1)).toNat true) (v5++y13))
  else some v4
def Qdq (N:Nat) (a0:Wm):Option (List Bool):=bnd (QdO N a0) λ y1=>bif (!y1) then some [] else grd (0<=((a0.Things.length:Nat):Int)/\((a0.Things.length:Nat):Int).toNat<=140737488355328) <| bnd (Qem N a0) λ y2=>bnd (Qar N a0 N 0 (List.replicate ((a0.Things.length:Nat):Int).toNat false) y2) λ y14=>some y14
def QaS (N:Nat) (a1:List Int):Nat->Int->Int->(List WP)->Option (List WP)
 | 0,_,_,_=>none
 | n+1,v3,v4,v5 =>
  grd (v5.length<=140737488355328) <|
  bif (decide (v4<((v5.length:Nat):Int))) then (bnd (Xb v5 v4) λ p6 =>
   bif p6.Live then (bnd (Xb a1 v3) λ p7 =>
    bnd (Xb v5 v4) λ p8 =>
    QaS N a1 n (wI (v3+1)) (wI (v4+1)) (v5.set v4.toNat (WP.mk p8.Gen p7 p8.Live)))
   else QaS N a1 n v3 (wI (v4+1)) v5)
  else some v5
def Qcr (N:Nat) (a0:WC) (a1:List Int):Option (WC×Int):=bnd (QbF N a0) λ y1=>bif (!y1) then some ((WC.mk []),1) else bnd (Qa4 N a0) λ y2=>grd (y2.length<=140737488355328) <| bif (((a1.length:Nat):Int) != ((y2.length:Nat):Int)) then some ((WC.mk []),1) else grd (a0.Entries.length*24<=140737488355328) <| bnd (QaS N a1 N 0 0 a0.Entries) λ y9=>some ((WC.mk y9),0)
def Qaw (N:Nat) (a0:Wm) (y2:List Bool):Nat->Int->(List Int)->Option (List Int)
 | 0,_,_=>none
 | n+1,v4,v5 =>
  grd (v5.length<=140737488355328) <|
  bif (decide (v4<((v5.length:Nat):Int))) then (bnd (Xb v5 v4) λ p6 =>
   bif (p6 != 0) then (bnd (Xb v5 v4) λ p7 =>
    bnd (Xb y2 (wU (p7-1))) λ p8 =>
    bif (!p8) then (bnd (Xb v5 v4) λ p9 =>
     Qaw N a0 y2 n (wI (v4+1)) (v5.set v4.toNat 0))
    else Qaw N a0 y2 n (wI (v4+1)) v5)
   else Qaw N a0 y2 n (wI (v4+1)) v5)
  else some v5
def QbI (N:Nat) (a0:Wm):Option (Wm×Int):=bnd (QdO N a0) λ y1=>bif (!y1) then some (zWd,19) else bnd (Qdq N a0) λ y2=>bnd (Qa4 N a0.Weaks) λ y3=>bnd (Qaw N a0 y2 N 0 y3) λ y10=>bnd (Qcr N a0.Weaks y10) λ y11=>some ((Wm.mk a0.Conf a0.Things a0.Locals a0.Globals y11.1 a0.Marks a0.Roots),0)
def Qbp (N:Nat) (a0:Int) (a1:Int) (a2:Int):Option (WE×Bool):=bif (a0==1) then (bif (decide (a1<=2147483647)) then some ((WE.mk a0 (wI (Y0 .u64 a1 2147483647)) (wW a2)),(decide (a2<=4294967295))) else some ((WE.mk a0 (wI (Y0 .u64 a1 2147483647)) (wW a2)),false)) else some ((WE.mk a0 (wI (Y0 .u64 a1 2147483647)) 0),(decide (a1<=2147483647)))
def QcO (N:Nat) (a0:Ut):Option Int:=bnd (Qav N a0) λ y1=>bif (!y1) then some 0 else some (wI (a0.PageWords.tdiv 4))
def Qb4 (N:Nat) (a0:Ut) (a1:Int):Nat->Int->Option (Ex Int Unit)
 | 0,_=>none
 | n+1,v3 =>
  bif (decide (v3<=4)) then (bif (decide ((wI (v3*a0.PageWords))>=a1)) then some (.ret v3)
   else Qb4 N a0 a1 n (wI (v3+1)))
  else some (.nxt ())
def QeC (N:Nat) (a0:Ut) (a1:Int):Option Int:=bnd (Qav N a0) λ y1=>bif (!y1) then some (-1) else bif (decide (a1<1)) then some (-1) else bnd (QcO N a0) λ y2=>bif (decide (a1<=y2)) then some 0 else bnd (Qb4 N a0 a1 N 1) λ e=>exK e (λ r=>some r) λ y4=>some (-1)
def Qb5 (N:Nat) (a0:WE):Option Int:=bnd (Qci N a0) λ y1=>bif (!y1) then some 0 else some (wI (a0.Length+1))
def QdK (N:Nat) (a0:Ut) (a1:WE):Option Bool:=bnd (Qci N a1) λ y1=>bif y1 then (bif (a1.Kind != 0) then (bnd (Qb5 N a1) λ y2=>bnd (QeC N a0 y2) λ y3=>some (y3 != (-1))) else some false) else some false
def QdP (N:Nat) (a0:Ws) (a1:Int):Option (Ws×Int×Int×Int):=bnd (QbH N a0) λ y1=>bif (!y1) then some ((Ws.mk [] [] []),0,0,1) else bif (a1==0) then some ((Ws.mk [] [] []),0,0,1) else bif (((a0.Scopes.length:Nat):Int)==0) then some ((Ws.mk [] [] []),0,0,9) else bnd (Xb a0.Scopes (wI (((a0.Scopes.length:Nat):Int)-1))) λ p2=>bnd (Qf7 N a0 p2.From ((a0.Slots.length:Nat):Int)) λ y3=>bnd (Xb a0.Scopes (wI (((a0.Scopes.length:Nat):Int)-1))) λ p4=>bif (decide (y3>=p4.Cap)) then some ((Ws.mk [] [] []),0,0,10) else bif (((a0.Issued.length:Nat):Int)==4096) then some ((Ws.mk [] [] []),0,0,18) else grd (a0.Issued.length*8<=140737488355328) <| grd ((a0.Issued.length+1)*8<=140737488355328) <| grd (a0.Slots.length*24<=140737488355328) <| grd ((a0.Slots.length+1)*24<=140737488355328) <| some ((Ws.mk (a0.Slots++[(UR.mk (wI (((a0.Issued.length:Nat):Int)+1)) a1 true)]) a0.Scopes (a0.Issued++[((a0.Slots.length:Nat):Int)])),((a0.Slots.length:Nat):Int),(wI (((a0.Issued.length:Nat):Int)+1)),0)
def Qcj (N:Nat) (a0:Ws) (a1:Int):Option Int:=bif (a1==0) then some 0 else bnd (QdP N a0 a1) λ y1=>some y1.2.2.2
def Qft (N:Nat) (a0:Wm) (a1:Int) (a2:Int) (a3:Int) (a4:Bool):Option Int:=bif (decide (((a0.Marks.length:Nat):Int)>0)) then some 15 else bnd (Qbp N a1 a2 a3) λ y1=>bif (!y1.2) then some 1 else bnd (QdK N a0.Conf y1.1) λ y2=>bif (!y2) then some 1 else bnd (Qcj N a0.Locals 1) λ y3=>bif (y3 != 0) then some y3 else bif a4 then some 3 else some 0
def QfF (N:Nat) (a0:UI):Option Bool:=bif (decide (a0.Tag>=1)) then (bif (decide (a0.Tag<=3)) then (bif (decide (a0.Index>=0)) then (bif (decide (a0.Index<=65535)) then (bif (decide (a0.Stamp>=1)) then some (decide (a0.Stamp<=4294967295)) else some false) else some false) else some false) else some false) else some false
def QaP (N:Nat) (a0:UI):Option (Int×Int):=bnd (QfF N a0) λ y1=>bif (!y1) then some (0,1) else some ((wU ((wU ((wU a0.Tag)+(Ka .u64 (wU a0.Index) 2)))+(Ka .u64 (wU a0.Stamp) 18))),0)
def QbA (N:Nat) (a0:Int):Option (UI×Int):=bif (a0==0) then some ((UI.mk 0 0 0),5) else bnd (QaP N (UI.mk (wI (Y0 .u64 a0 3)) (wI (Y0 .u64 (YD .u64 a0 2) 65535)) (wI (YD .u64 a0 18)))) λ y1=>bif (y1.2 != 0) then some ((UI.mk 0 0 0),6) else bif (y1.1 != a0) then some ((UI.mk 0 0 0),6) else some ((UI.mk (wI (Y0 .u64 a0 3)) (wI (Y0 .u64 (YD .u64 a0 2) 65535)) (wI (YD .u64 a0 18))),0)
def QdQ (N:Nat) (a0:Ws) (a1:Int) (a2:Int):Option (Int×Int):=bnd (QbH N a0) λ y1=>bif (!y1) then some (0,1) else bif (decide (a2<1)) then some (0,6) else bif (decide (a2>((a0.Issued.length:Nat):Int))) then some (0,6) else bnd (Xb a0.Issued (wI (a2-1))) λ p2=>bif (p2 != a1) then some (0,6) else bif (decide (a1>=((a0.Slots.length:Nat):Int))) then some (0,7) else bnd (Xb a0.Slots a1) λ p3=>bif (p3.Stamp != a2) then some (0,7) else bnd (Xb a0.Slots a1) λ p4=>bif (!p4.Live) then some (0,8) else bnd (Xb a0.Slots a1) λ p5=>some (p5.Ref,0)
def Qc1 (N:Nat) (a0:WC) (a1:Int) (a2:Int):Option (Int×Int):=bnd (QbF N a0) λ y1=>bif (!y1) then some (0,1) else bif (decide (a1<0)) then some (0,6) else bif (decide (a1>=((a0.Entries.length:Nat):Int))) then some (0,6) else bif (decide (a2<1)) then some (0,6) else bnd (Xb a0.Entries a1) λ p2=>bif (decide (a2>p2.Gen)) then some (0,6) else bnd (Xb a0.Entries a1) λ p3=>bif (decide (a2<p3.Gen)) then some (0,8) else bnd (Xb a0.Entries a1) λ p4=>bif (!p4.Live) then some (0,8) else bnd (Xb a0.Entries a1) λ p5=>some (p5.Ref,0)
def Qay (N:Nat) (a0:Wm) (a1:Int):Option (Int×Int):=bnd (QdO N a0) λ y1=>bif (!y1) then some (0,19) else bif (a1==0) then some (0,0) else bnd (QbA N a1) λ y2=>bif (y2.2 != 0) then some (0,y2.2) else bif (y2.1.Tag==1) then (bnd (QdQ N a0.Locals y2.1.Index y2.1.Stamp) λ y3=>some (y3.1,y3.2)) else bif (y2.1.Tag==2) then (bnd (Qc1 N a0.Globals y2.1.Index y2.1.Stamp) λ y4=>some (y4.1,y4.2)) else bnd (Qc1 N a0.Weaks y2.1.Index y2.1.Stamp) λ y5=>some (y5.1,y5.2)
def QdR (N:Nat) (a0:Wm) (a1:Int):Option (Int×Int):=bnd (Qay N a0 a1) λ y1=>bif (y1.2==0) then (bif (y1.1==0) then some (0,5) else some (y1.1,y1.2)) else some (y1.1,y1.2)
def QfU (N:Nat) (a0:Wm) (a1:Int) (a2:Int) (a3:Int) (a4:Int):Option Int:=bnd (QdR N a0 a2) λ y1=>bif (y1.2 != 0) then some y1.2 else bnd (Xb a0.Things (wU (y1.1-1))) λ p2=>bif (decide (a3>=(wU p2.Header.Length))) then some 2 else jn (λ (x3:Bool)=>bnd (QbG N p2.Header (wI a3)) λ y4=>bif (!(y4==x3)) then some 4 else bif (a1==8) then (bnd (Xb p2.Fields a3) λ p5=>bnd (Qcj N a0.Locals p5) λ y6=>some y6) else bif (a1==9) then (bnd (Qay N a0 a4) λ y7=>some y7.2) else some y1.2) λ j1=>bif (a1==8) then j1 true else j1 (a1==9)
def Qfu (N:Nat) (a0:Wm) (a1:Int) (a2:Int):Option Int:=bif (a2==0) then some 5 else bnd (Qay N a0 a2) λ y1=>bif (y1.2 != 0) then some y1.2 else bnd (QbA N a2) λ y2=>jn (λ (x3:Int)=>bif (a1==16) then (bif (y2.1.Tag != 3) then some 4 else some 0) else bif (y2.1.Tag != x3) then some 4 else some 0) λ j1=>bif (a1==14) then j1 2 else j1 1
def Qbj (N:Nat) (a0:WC) (a1:Int):Nat->Int->Option (Ex (WC×Int×Int×Int) Unit)
 | 0,_=>none
 | n+1,v2 =>
  grd (a0.Entries.length<=140737488355328) <|
  bif (decide (v2<((a0.Entries.length:Nat):Int))) then (bnd (Xb a0.Entries v2) λ p3 =>
   bif (!p3.Live) then (bnd (Xb a0.Entries v2) λ p4 =>
    bif (decide (p4.Gen<4294967295)) then (bnd (Xb a0.Entries v2) λ p5 =>
     bnd (Xb a0.Entries v2) λ p6 =>
     bnd (Xb (a0.Entries.set v2.toNat (WP.mk (wI (p5.Gen+1)) a1 true)) v2) λ p7 =>
     some (.ret ((WC.mk (a0.Entries.set v2.toNat (WP.mk (wI (p5.Gen+1)) a1 true))),v2,p7.Gen,0)))
    else Qbj N a0 a1 n (wI (v2+1)))
   else Qbj N a0 a1 n (wI (v2+1)))
  else some (.nxt ())
def QbZ (N:Nat) (a0:WC) (a1:Int):Option (WC×Int×Int×Int):=bnd (QbF N a0) λ y1=>bif (!y1) then some ((WC.mk []),0,0,1) else grd (a0.Entries.length*24<=140737488355328) <| bnd (Qbj N a0 a1 N 0) λ e=>exK e (λ r=>some r) λ y8=>grd (a0.Entries.length<=140737488355328) <| bif (((a0.Entries.length:Nat):Int)==64) then some ((WC.mk []),0,0,18) else grd ((a0.Entries.length+1)*24<=140737488355328) <| grd (a0.Entries.length<=140737488355328) <| some ((WC.mk (a0.Entries++[(WP.mk 1 a1 true)])),((a0.Entries.length:Nat):Int),1,0)
def Qgj (N:Nat) (a0:Wm) (a1:Int) (a2:Int):Option Int:=bnd (QdR N a0 a2) λ y1=>bif (y1.2 != 0) then some y1.2 else jn (λ (x2:List WP)=>bnd (QbZ N (WC.mk x2) y1.1) λ y3=>some y3.2.2.2) λ j1=>bif (a1==15) then j1 a0.Weaks.Entries else j1 a0.Globals.Entries
def Qf8 (N:Nat) (a0:Ws) (a1:Int) (a2:Bool):Option (Ws×Int):=bnd (QbH N a0) λ y1=>bif (!y1) then some ((Ws.mk [] [] []),1) else bif (decide (a1<0)) then some ((Ws.mk [] [] []),1) else bif (decide (a1>64)) then some ((Ws.mk [] [] []),1) else jn (λ (_:Unit)=>bif (((a0.Scopes.length:Nat):Int)==64) then some ((Ws.mk [] [] []),17) else grd (a0.Scopes.length*24<=140737488355328) <| grd ((a0.Scopes.length+1)*24<=140737488355328) <| some ((Ws.mk a0.Slots (a0.Scopes++[(UV.mk ((a0.Slots.length:Nat):Int) a1 a2)]) a0.Issued),0)) λ j1=>bif (!a2) then (bif (((a0.Scopes.length:Nat):Int)==0) then some ((Ws.mk [] [] []),9) else j1 ()) else j1 ()
def QdL (N:Nat) (a0:Ws) (a1:Int):Option (Ws×Int):=bnd (Qf8 N a0 a1 false) λ y1=>some (y1.1,y1.2)
def Qgu (N:Nat) (a0:Ws) (a1:Int):Option Ws:=bnd (Xb a0.Scopes a1) λ p1=>grd (0<=0/\0<=p1.From/\p1.From<=((a0.Slots.length:Nat):Int)) <| grd ((min p1.From.toNat a0.Slots.length)*24<=140737488355328) <| grd (0<=0/\0<=a1/\a1<=((a0.Scopes.length:Nat):Int)) <| grd ((min a1.toNat a0.Scopes.length)*24<=140737488355328) <| some (Ws.mk (a0.Slots.take p1.From.toNat) (a0.Scopes.take a1.toNat) a0.Issued)
def QeD (N:Nat) (a0:Ws):Option (Ws×Int):=bnd (QbH N a0) λ y1=>bif (!y1) then some ((Ws.mk [] [] []),1) else bif (((a0.Scopes.length:Nat):Int)==0) then some ((Ws.mk [] [] []),9) else bnd (Xb a0.Scopes (wI (((a0.Scopes.length:Nat):Int)-1))) λ p2=>bif p2.Base then some ((Ws.mk [] [] []),9) else bnd (Qgu N a0 (wI (((a0.Scopes.length:Nat):Int)-1))) λ y3=>some (y3,0)
def QfV (N:Nat) (a0:Wm) (a1:Int) (a2:Int):Option Int:=bif (a1==17) then (bif (decide (a2>64)) then some 1 else bnd (QdL N a0.Locals (wI a2)) λ y1=>some y1.2) else bnd (Qay N a0 a2) λ y2=>bif (y2.2 != 0) then some y2.2 else bnd (QeD N a0.Locals) λ y3=>bif (y3.2 != 0) then some y3.2 else bnd (Qcj N y3.1 y2.1) λ y4=>some y4
def Qgy (N:Nat) (a0:Wm) (a1:Int) (a2:Int) (a3:Bool):Option Int:=bnd (QdR N a0 a2) λ y1=>bif (y1.2 != 0) then some y1.2 else bnd (Qff N a0 y1.1) λ y2=>bif (a1==20) then (bif (decide (y2<0)) then some 12 else some 0) else bif (decide (y2>=0)) then (bnd (Xb a0.Marks y2) λ p3=>bif (p3.Count==1000) then some 18 else bif (decide (y2<0)) then (bif (((a0.Marks.length:Nat):Int)==64) then some 18 else bif a3 then some 18 else some 0) else bif a3 then some 18 else some 0) else bif (decide (y2<0)) then (bif (((a0.Marks.length:Nat):Int)==64) then some 18 else bif a3 then some 18 else some 0) else bif a3 then some 18 else some 0
def Qgk (N:Nat) (a0:Wm) (a1:Int) (a2:Int) (a3:Int):Option Int:=jn (λ (_:Unit)=>bnd (QdR N a0 a2) λ y1=>some y1.2) λ j1=>bif (a1==4) then j1 () else bif (a1==5) then j1 () else bnd (Qay N a0 a2) λ y2=>bif (y2.2 != 0) then some y2.2 else bif (a1==10) then (bnd (Qay N a0 a3) λ y3=>some y3.2) else bnd (Qcj N a0.Locals y2.1) λ y4=>some y4
def Qex (N:Nat) (a0:Wm) (a1:Int) (a2:Int) (a3:Int) (a4:Int) (a5:Bool):Option Int:=bnd (QdO N a0) λ y1=>bif (!y1) then some 19 else jn (λ (x3:Bool)=>bif x3 then (bnd (Qft N a0 a1 a2 a3 a5) λ y4=>some y4) else jn (λ (x7:Bool)=>bif x7 then (bnd (QfU N a0 a1 a2 a3 a4) λ y8=>some y8) else jn (λ (x10:Bool)=>bif x10 then (bnd (Qfu N a0 a1 a2) λ y11=>some y11) else jn (λ (x12:Bool)=>bif x12 then (bnd (Qgj N a0 a1 a2) λ y13=>some y13) else jn (λ (x14:Bool)=>bif x14 then (bnd (QfV N a0 a1 a2) λ y15=>some y15) else jn (λ (x16:Bool)=>bif x16 then (bnd (Qgy N a0 a1 a2 a5) λ y17=>some y17) else jn (λ (x20:Bool)=>bif x20 then (bnd (Qgk N a0 a1 a2 a3) λ y21=>some y21) else some 1) λ j13=>bif (a1==4) then j13 true else jn (λ (x19:Bool)=>j13 x19) λ j12=>bif (a1==5) then j12 true else jn (λ (x18:Bool)=>j12 x18) λ j11=>bif (a1==10) then j11 true else j11 (a1==11)) λ j10=>bif (a1==19) then j10 true else j10 (a1==20)) λ j9=>bif (a1==17) then j9 true else j9 (a1==18)) λ j8=>bif (a1==13) then j8 true else j8 (a1==15)) λ j7=>bif (a1==12) then j7 true else jn (λ (x9:Bool)=>j7 x9) λ j6=>bif (a1==14) then j6 true else j6 (a1==16)) λ j5=>bif (a1==6) then j5 true else jn (λ (x6:Bool)=>j5 x6) λ j4=>bif (a1==7) then j4 true else jn (λ (x5:Bool)=>j4 x5) λ j3=>bif (a1==8) then j3 true else j3 (a1==9)) λ j2=>bif (a1==1) then j2 true else jn (λ (x2:Bool)=>j2 x2) λ j1=>bif (a1==2) then j1 true else j1 (a1==3)
def Qbc (N:Nat) (a0:Wm) (a1:Int):Option (Wm×Int):=bif (a1==0) then some (a0,0) else bnd (QdP N a0.Locals a1) λ y1=>bnd (QaP N (UI.mk 1 y1.2.1 y1.2.2.1)) λ y2=>some ((Wm.mk a0.Conf a0.Things y1.1 a0.Globals a0.Weaks a0.Marks a0.Roots),y2.1)
def QdS (N:Nat) (a0:Wm) (a1:Int) (a2:Int) (a3:Int):Option Wm:=grd (a0.Things.length*48<=140737488355328) <| bnd (Xb a0.Things (wU (a1-1))) λ p1=>grd (p1.Fields.length*8<=140737488355328) <| bnd (Xb p1.Fields a2) λ p2=>bnd (Xb a0.Things (wU (a1-1))) λ p3=>some (Wm.mk a0.Conf (a0.Things.set (wU (a1-1)).toNat (W5.mk p1.Header (p1.Fields.set a2.toNat a3))) a0.Locals a0.Globals a0.Weaks a0.Marks a0.Roots)
def Qb6 (N:Nat) (a0:Wm) (a1:Int) (a2:Int):Option (Wm×Int):=jn (λ (x3:List WP) (x4:List WP) (x5:Int) (x6:Int) (x7:Int)=>bnd (QaP N (UI.mk x5 x6 x7)) λ y8=>some ((Wm.mk a0.Conf a0.Things a0.Locals (WC.mk x3) (WC.mk x4) a0.Marks a0.Roots),y8.1)) λ j1=>bif (a1==15) then (bnd (QbZ N a0.Weaks a2) λ y1=>j1 a0.Globals.Entries y1.1.Entries 3 y1.2.1 y1.2.2.1) else bnd (QbZ N a0.Globals a2) λ y2=>j1 y2.1.Entries a0.Weaks.Entries 2 y2.2.1 y2.2.2.1
def Qc2 (N:Nat) (a0:Ws) (a1:Int) (a2:Int):Option (Ws×Int):=bnd (QdQ N a0 a1 a2) λ y1=>bif (y1.2 != 0) then some ((Ws.mk [] [] []),y1.2) else grd (a0.Slots.length*24<=140737488355328) <| bnd (Xb a0.Slots a1) λ p2=>some ((Ws.mk (a0.Slots.set a1.toNat (UR.mk a2 0 false)) a0.Scopes a0.Issued),0)
def Qgv (N:Nat) (a0:WC) (a1:Int) (a2:WP):Option WC:=grd (a0.Entries.length*24<=140737488355328) <| bnd (Xb a0.Entries a1) λ p1=>some (WC.mk (a0.Entries.set a1.toNat a2))
def Qb1 (N:Nat) (a0:WC) (a1:Int) (a2:Int):Option (WC×Int):=bnd (Qc1 N a0 a1 a2) λ y1=>bif (y1.2 != 0) then some ((WC.mk []),y1.2) else bnd (Qgv N a0 a1 (WP.mk a2 0 false)) λ y2=>some (y2,0)
def Qcs (N:Nat) (a0:Wm) (a1:Int):Option Wm:=bnd (QbA N a1) λ y1=>bif (y1.1.Tag==1) then (bnd (Qc2 N a0.Locals y1.1.Index y1.1.Stamp) λ y2=>some (Wm.mk a0.Conf a0.Things y2.1 a0.Globals a0.Weaks a0.Marks a0.Roots)) else bif (y1.1.Tag==2) then (bnd (Qb1 N a0.Globals y1.1.Index y1.1.Stamp) λ y3=>some (Wm.mk a0.Conf a0.Things a0.Locals y3.1 a0.Weaks a0.Marks a0.Roots)) else bnd (Qb1 N a0.Weaks y1.1.Index y1.1.Stamp) λ y4=>some (Wm.mk a0.Conf a0.Things a0.Locals a0.Globals y4.1 a0.Marks a0.Roots)
def QeY (N:Nat) (a0:Wm) (a1:Int):Option Int:=bnd (Qff N a0 a1) λ y1=>some y1
def QdM (N:Nat) (a0:Wm) (a1:Int) (a2:Int) (a3:Int):Option (Wm×Int):=bnd (QeY N a0 a2) λ y1=>grd (a0.Marks.length*24<=140737488355328) <| bif (a1==20) then (bnd (Xb a0.Marks y1) λ p2=>bnd (Xb a0.Marks y1) λ p3=>bnd (Xb (a0.Marks.set y1.toNat (Uz.mk p3.Id (wI (p2.Count-1)) p3.Base)) y1) λ p4=>bif (p4.Count==0) then (grd (0<=0/\0<=y1/\y1<=((a0.Marks.length:Nat):Int)) <| grd (0<=(wI (y1+1))/\(wI (y1+1))<=((a0.Marks.length:Nat):Int)/\((a0.Marks.length:Nat):Int)<=((a0.Marks.length:Nat):Int)) <| grd (y1.toNat≠a0.Marks.length/\(y1.toNat+(a0.Marks.length-(wI (y1+1)).toNat))<=a0.Marks.length) <| some ((Wm.mk a0.Conf a0.Things a0.Locals a0.Globals a0.Weaks (((((a0.Marks.set y1.toNat (Uz.mk p3.Id (wI (p2.Count-1)) p3.Base)).take y1.toNat)++(((a0.Marks.set y1.toNat (Uz.mk p3.Id (wI (p2.Count-1)) p3.Base)).drop (wI (y1+1)).toNat).take (a0.Marks.length-(wI (y1+1)).toNat)))++((a0.Marks.set y1.toNat (Uz.mk p3.Id (wI (p2.Count-1)) p3.Base)).drop (y1.toNat+(a0.Marks.length-(wI (y1+1)).toNat)))).take (y1.toNat+(a0.Marks.length-(wI (y1+1)).toNat))) a0.Roots),0)) else some ((Wm.mk a0.Conf a0.Things a0.Locals a0.Globals a0.Weaks (a0.Marks.set y1.toNat (Uz.mk p3.Id (wI (p2.Count-1)) p3.Base)) a0.Roots),0)) else bif (decide (y1>=0)) then (bnd (Xb a0.Marks y1) λ p7=>bnd (Xb a0.Marks y1) λ p8=>bnd (Xb (a0.Marks.set y1.toNat (Uz.mk p8.Id (wI (p7.Count+1)) p8.Base)) y1) λ p9=>some ((Wm.mk a0.Conf a0.Things a0.Locals a0.Globals a0.Weaks (a0.Marks.set y1.toNat (Uz.mk p8.Id (wI (p7.Count+1)) p8.Base)) a0.Roots),p9.Base)) else grd ((a0.Marks.length+1)*24<=140737488355328) <| some ((Wm.mk a0.Conf a0.Things a0.Locals a0.Globals a0.Weaks (a0.Marks++[(Uz.mk a2 1 a3)]) a0.Roots),a3)
def Qaa (N:Nat) (a0:Wm) (a1:Int) (a2:Int) (a3:Int) (a4:Int) (a5:UH):Option (Wm×Int×Int):=bnd (Qex N a0 a1 a2 a3 a4 a5.Failed) λ y1=>bif (y1 != 0) then some (zWd,0,y1) else jn (λ (x3:Int)=>jn (λ (x5:Bool)=>bif x5 then (jn (λ (x7:Int) (x8:Int) (x9:List W5) (x10:List UR) (x11:List UV) (x12:List Int) (x13:List WP) (x14:List WP) (x15:List Uz) (x16:List Int)=>bnd (Qbp N a1 a2 a3) λ y17=>grd (x9.length*48<=140737488355328) <| grd (0<=y17.1.Length/\y17.1.Length.toNat*8<=140737488355328) <| grd ((x9.length+1)*48<=140737488355328) <| grd ((x9.length+1)<=140737488355328) <| bnd (Qbc N (Wm.mk (Ut.mk x7 x8) (x9++[(W5.mk y17.1 (List.replicate y17.1.Length.toNat 0))]) (Ws.mk x10 x11 x12) (WC.mk x13) (WC.mk x14) x15 x16) (wU (((x9.length+1):Nat):Int))) λ y18=>some (y18.1,y18.2,0)) λ j4=>bif a5.Collected then (bnd (QbI N a0) λ y6=>j4 y6.1.Conf.PageWords y6.1.Conf.Pages y6.1.Things y6.1.Locals.Slots y6.1.Locals.Scopes y6.1.Locals.Issued y6.1.Globals.Entries y6.1.Weaks.Entries y6.1.Marks y6.1.Roots) else j4 a0.Conf.PageWords a0.Conf.Pages a0.Things a0.Locals.Slots a0.Locals.Scopes a0.Locals.Issued a0.Globals.Entries a0.Weaks.Entries a0.Marks a0.Roots) else bif (a1==4) then (bnd (Xb a0.Things (wU (x3-1))) λ p19=>some (a0,(wU p19.Header.Length),0)) else bif (a1==5) then (bnd (Xb a0.Things (wU (x3-1))) λ p20=>some (a0,(wU p20.Header.Kind),0)) else bif (a1==6) then (bnd (Xb a0.Things (wU (x3-1))) λ p21=>bnd (Xb p21.Fields a3) λ p22=>some (a0,p22,0)) else bif (a1==7) then (bnd (QdS N a0 x3 (wI a3) a4) λ y23=>some (y23,0,0)) else bif (a1==8) then (bnd (Xb a0.Things (wU (x3-1))) λ p24=>bnd (Xb p24.Fields a3) λ p25=>bnd (Qbc N a0 p25) λ y26=>some (y26.1,y26.2,0)) else bif (a1==9) then (bnd (Qay N a0 a4) λ y27=>bnd (QdS N a0 x3 (wI a3) y27.1) λ y28=>some (y28,0,0)) else bif (a1==10) then (bnd (Qay N a0 a3) λ y29=>bif (x3==y29.1) then some (a0,1,0) else some (a0,0,0)) else bif (a1==11) then (bnd (Qbc N a0 x3) λ y30=>some (y30.1,y30.2,0)) else jn (λ (x31:Bool)=>bif x31 then (bnd (Qb6 N a0 a1 x3) λ y32=>some (y32.1,y32.2,0)) else jn (λ (x34:Bool)=>bif x34 then (bnd (Qcs N a0 a2) λ y35=>some (y35,0,0)) else bif (a1==17) then (bnd (QdL N a0.Locals (wI a2)) λ y36=>some ((Wm.mk a0.Conf a0.Things y36.1 a0.Globals a0.Weaks a0.Marks a0.Roots),0,0)) else bif (a1==18) then (bnd (QeD N a0.Locals) λ y37=>bnd (Qbc N (Wm.mk a0.Conf a0.Things y37.1 a0.Globals a0.Weaks a0.Marks a0.Roots) x3) λ y38=>some (y38.1,y38.2,0)) else bnd (QdM N a0 a1 x3 a5.Base) λ y39=>some (y39.1,y39.2,0)) λ j7=>bif (a1==12) then j7 true else jn (λ (x33:Bool)=>j7 x33) λ j6=>bif (a1==14) then j6 true else j6 (a1==16)) λ j5=>bif (a1==13) then j5 true else j5 (a1==15)) λ j3=>bif (a1==1) then j3 true else jn (λ (x4:Bool)=>j3 x4) λ j2=>bif (a1==2) then j2 true else j2 (a1==3)) λ j1=>bif (decide (a1>3)) then (bif (a1 != 17) then (bnd (Qay N a0 a2) λ y2=>j1 y2.1) else j1 0) else j1 0
def Qdr (N:Nat) (a0:UX) (a1:UX) (a2:Int) (a3:Int) (a4:Int):Option UH:=jn (λ (x1:Bool)=>jn (λ (x2:Bool)=>bif (a2==19) then (bif (a4==0) then some (UH.mk x1 x2 a3) else some (UH.mk x1 x2 0)) else some (UH.mk x1 x2 0)) λ j2=>bif (a4==0) then j2 (a0.Heap.Space != a1.Heap.Space) else j2 false) λ j1=>bif (a4==3) then j1 true else bif (a4==18) then j1 (a2==19) else j1 false
def QeZ (N:Nat) (a0:List Int) (a1:Int):Nat->Int->Option (Ex Bool Unit)
 | 0,_=>none
 | n+1,v1 =>
  bif (decide (v1<((a0.length:Nat):Int))) then (bnd (Xb a0 v1) λ p2 =>
   bif (p2==a1) then some (.ret true)
   else QeZ N a0 a1 n (wI (v1+1)))
  else some (.nxt ())
def Qcd (N:Nat) (a0:List Int) (a1:Int):Option Bool:=bnd (QeZ N a0 a1 N 0) λ e=>exK e (λ r=>some r) λ y3=>some false
def Qgz (N:Nat) (a0:Int):Option Bool:=bif (decide (a0>=0)) then some (decide (a0<=2147483647)) else some false
def Qd1 (N:Nat) (a0:List W4) (a2:Int):Nat->Int->Int->Option Int
 | 0,_,_=>none
 | n+1,v1,v2 =>
  bif (decide (v2<((a0.length:Nat):Int))) then (bnd (Xb a0 v2) λ p3 =>
   bif (p3.Kind==3) then (bnd (Xb a0 v2) λ p4 =>
    bif (p4.Space==a2) then Qd1 N a0 a2 n (wI (v1+1)) (wI (v2+1))
    else some v1)
   else some v1)
  else some v1
def Qgl (N:Nat) (a0:List W4) (a1:Int) (a2:Int):Option Int:=bnd (Qd1 N a0 a2 N 0 (wI (a1+1))) λ y5=>some y5
def Qb0 (N:Nat) (a0:Wz):Nat->Int->Int->Option (Ex Bool Unit)
 | 0,_,_=>none
 | n+1,v3,v4 =>
  bif (decide (v4<((a0.Pages.length:Nat):Int))) then (bnd (Xb a0.Pages v4) λ p5 =>
   bif (!((p5.Kind==3)==(decide (v3>0)))) then some (.ret false)
   else bif (decide (p5.Space<0)) then some (.ret false)
   else bif (decide (p5.Space>1)) then some (.ret false)
   else bnd (Qgz N p5.Pins) λ y6 =>
   bif (!y6) then some (.ret false)
   else jn (λ (x11:Int) =>
    Qb0 N a0 n (if 0<(wI (x11-1)) then (wI (x11-1)) else 0) (wI (v4+1))) λ j4 =>
   bif (p5.Kind==0) then (bif (!((p5.Kind==0)&&((p5.Space==0)&&((p5.Used==0)&&(p5.Pins==0))))) then some (.ret false)
    else j4 v3)
   else jn (λ (x10:Int) =>
    j4 x10) λ j3 =>
   bif (p5.Kind==1) then (bif (decide (p5.Used<0)) then some (.ret false)
    else bif (decide (p5.Used>a0.Conf.PageWords)) then some (.ret false)
    else j3 v3)
   else jn (λ (x9:Int) =>
    j3 x9) λ j2 =>
   bif (p5.Kind==2) then (bnd (QeC N a0.Conf p5.Used) λ y7 =>
    bif (decide (y7<1)) then some (.ret false)
    else bnd (Qgl N a0.Pages v4 p5.Space) λ y8 =>
    bif (decide (y8<(wI (y7-1)))) then some (.ret false)
    else j2 y7)
   else bif (p5.Kind==3) then (bif (p5.Used != 0) then some (.ret false)
    else bif (p5.Pins != 0) then some (.ret false)
    else j2 v3)
   else some (.ret false))
  else some (.nxt ())
def QaL (N:Nat) (a0:Wz):Option Bool:=bnd (Qav N a0.Conf) λ y1=>bif (!y1) then some false else bif (((a0.Words.length:Nat):Int) != (wI (a0.Conf.Pages*a0.Conf.PageWords))) then some false else bif (((a0.Pages.length:Nat):Int) != a0.Conf.Pages) then some false else bif (decide (a0.Space<0)) then some false else bif (decide (a0.Space>1)) then some false else jn (λ (_:Unit)=>bnd (Qb0 N a0 N 0 0) λ e=>exK e (λ r=>some r) λ y12=>some true) λ j1=>bif (a0.Bump != (-1)) then (bif (decide (a0.Bump<0)) then some false else bif (decide (a0.Bump>=((a0.Pages.length:Nat):Int))) then some false else bnd (Xb a0.Pages a0.Bump) λ p2=>bif (p2.Kind != 1) then some false else j1 ()) else j1 ()
def Qfg (N:Nat) (a0:List Int) (a1:Int) (a2:Int):Option (Int×Bool):=bif (decide (a1<4096)) then some (0,false) else bif (decide (a1>(wU (4096+(wU ((a0.length:Nat):Int)))))) then some (0,false) else some ((wI (wU (a1-4096))),(decide (a2<=(wI (((a0.length:Nat):Int)-(wI (wU (a1-4096))))))))
def QgO (N:Nat) (a0:List Int) (a1:Int):Option (Int×Int):=bnd (Qfg N a0 a1 1) λ y1=>bif (!y1.2) then some (0,2) else some (y1.1,0)
def QbO (N:Nat) (a0:List Int) (a1:Int):Option (Int×Int):=bnd (QgO N a0 a1) λ y1=>bif (y1.2 != 0) then some (0,y1.2) else bnd (Xb a0 y1.1) λ p2=>some (p2,0)
def QeL (N:Nat) (a0:Ut) (a1:Int):Option (Int×Int×Int):=bnd (Qav N a0) λ y1=>bif (!y1) then some (0,0,1) else bif (decide (a1<4096)) then some (0,0,2) else bif (decide (a1>=(wU (wI (4096+(wI (a0.Pages*a0.PageWords))))))) then some (0,0,2) else grd (a0.PageWords≠0) <| grd (a0.PageWords≠0) <| some ((wI ((wI (wU (a1-4096))).tdiv a0.PageWords)),((wI (wU (a1-4096))).tmod a0.PageWords),0)
def Qct (N:Nat) (a0:WE):Option (Int×Int):=bnd (Qci N a0) λ y1=>bif (!y1) then some (0,1) else some ((wU ((wU ((wU (1+(wU (4*(wU a0.Kind)))))+(wU (16*(wU a0.Length)))))+(Ka .u64 (wU a0.Map) 16))),0)
def QbB (N:Nat) (a0:Int):Option (WE×Bool):=bnd (Qct N (WE.mk (wI (Y0 .u64 (YD .u64 a0 2) 3)) (wI (Y0 .u64 (YD .u64 a0 4) 4095)) (wW (YD .u64 a0 16)))) λ y1=>bif (y1.2 != 0) then some ((WE.mk 0 0 0),false) else bif (y1.1 != a0) then some ((WE.mk 0 0 0),false) else some ((WE.mk (wI (Y0 .u64 (YD .u64 a0 2) 3)) (wI (Y0 .u64 (YD .u64 a0 4) 4095)) (wW (YD .u64 a0 16))),true)
def QbU (N:Nat) (a0:Wz) (a1:Int):Option (WE×Int):=bnd (QaL N a0) λ y1=>bif (!y1) then some ((WE.mk 0 0 0),1) else bnd (QeL N a0.Conf a1) λ y2=>bif (y2.2.2 != 0) then some ((WE.mk 0 0 0),2) else bnd (Xb a0.Pages y2.1) λ p3=>bnd (QbO N a0.Words a1) λ y4=>bnd (QbB N y4.1) λ y5=>jn (λ (_:Unit)=>bnd (Qb5 N y5.1) λ y6=>bif (p3.Kind==1) then (bif (decide ((wI (y2.2.1+y6))>p3.Used)) then some ((WE.mk 0 0 0),19) else bif (p3.Kind==2) then (bif (y2.2.1 != 0) then some ((WE.mk 0 0 0),19) else bif (y6 != p3.Used) then some ((WE.mk 0 0 0),19) else some (y5.1,0)) else some (y5.1,0)) else bif (p3.Kind==2) then (bif (y2.2.1 != 0) then some ((WE.mk 0 0 0),19) else bif (y6 != p3.Used) then some ((WE.mk 0 0 0),19) else some (y5.1,0)) else some (y5.1,0)) λ j1=>bif (p3.Kind != 1) then (bif (p3.Kind != 2) then some ((WE.mk 0 0 0),19) else bif (decide (y2.2.1>=p3.Used)) then some ((WE.mk 0 0 0),19) else bif (!y5.2) then some ((WE.mk 0 0 0),19) else j1 ()) else bif (decide (y2.2.1>=p3.Used)) then some ((WE.mk 0 0 0),19) else bif (!y5.2) then some ((WE.mk 0 0 0),19) else j1 ()
def QcB (N:Nat) (a0:Ut) (a1:Int) (a2:Int):Option (Int×Int):=bnd (Qav N a0) λ y1=>bif (!y1) then some (0,1) else bif (decide (a1<0)) then some (0,2) else bif (decide (a1>=a0.Pages)) then some (0,2) else bif (decide (a2<0)) then some (0,2) else bif (decide (a2>=a0.PageWords)) then some (0,2) else some ((wU (wI ((wI (4096+(wI (a1*a0.PageWords))))+a2))),0)
def QbJ (N:Nat) (a0:Wz) (a1:Int) (p2:W4):Nat->Int->(List Int)->Option (Ex (List Int×Int) (List Int))
 | 0,_,_=>none
 | n+1,v3,v4 =>
  bif (decide (v3<p2.Used)) then (bnd (QcB N a0.Conf a1 v3) λ y5 =>
   bnd (QbU N a0 y5.1) λ y6 =>
   bif (y6.2 != 0) then some (.ret ([],19))
   else grd ((v4.length+1)*8<=140737488355328) <|
   bif (p2.Kind==2) then some (.nxt (v4++[y5.1]))
   else bnd (Qb5 N y6.1) λ y7 =>
   QbJ N a0 a1 p2 n (wI (v3+y7)) (v4++[y5.1]))
  else some (.nxt v4)
def QaV (N:Nat) (a0:Wz) (a1:Int):Option (List Int×Int):=bnd (QaL N a0) λ y1=>bif (!y1) then some ([],1) else bif (decide (a1<0)) then some ([],2) else bif (decide (a1>=((a0.Pages.length:Nat):Int))) then some ([],2) else bnd (Xb a0.Pages a1) λ p2=>bif (p2.Kind==0) then some ([],0) else bif (p2.Kind==3) then some ([],0) else bnd (QbJ N a0 a1 p2 N 0 []) λ e=>exK e (λ r=>some r) λ y8=>some (y8,0)
def Qbq (N:Nat) (a0:Wz) (a1:Int) (a2:List Int):Nat->Int->Option (Ex Int Unit)
 | 0,_=>none
 | n+1,v1 =>
  bif (decide (v1<((a2.length:Nat):Int))) then (bnd (Xb a2 v1) λ p2 =>
   bnd (QbU N a0 p2) λ y3 =>
   bnd (Qb5 N y3.1) λ y4 =>
   bnd (QcO N a0.Conf) λ y5 =>
   bnd (Xb a0.Pages a1) λ p6 =>
   bif (p6.Kind==1) then (bif (!(decide (y4<=y5))) then (bnd (Xb a2 v1) λ p9 =>
       some (.ret p9))
    else bnd (Xb a0.Pages a1) λ p7 =>
    bif (p7.Kind==2) then (bif (y3.1.Kind==0) then (bnd (Xb a2 v1) λ p10 =>
        some (.ret p10))
     else Qbq N a0 a1 a2 n (wI (v1+1)))
    else Qbq N a0 a1 a2 n (wI (v1+1)))
   else bnd (Xb a0.Pages a1) λ p8 =>
   bif (p8.Kind==2) then (bif (y3.1.Kind==0) then (bnd (Xb a2 v1) λ p11 =>
       some (.ret p11))
    else Qbq N a0 a1 a2 n (wI (v1+1)))
   else Qbq N a0 a1 a2 n (wI (v1+1)))
  else some (.nxt ())
def QfG (N:Nat) (a0:Wz) (a1:Int) (a2:List Int):Option Int:=bnd (Qbq N a0 a1 a2 N 0) λ e=>exK e (λ r=>some r) λ y12=>some 0
def Qey (N:Nat) (a0:Wz):Nat->Int->Option Int
 | 0,_=>none
 | n+1,v1 =>
  bnd (Xb a0.Pages v1) λ p2 =>
  bif (p2.Kind==3) then Qey N a0 n (wI (v1-1))
  else some v1
def Qg0 (N:Nat) (a0:Wz) (a1:Int):Option Int:=bnd (Qey N a0 N a1) λ y3=>some y3
def Qb7 (N:Nat) (a0:Wz) (a1:Int) (a2:List Int) (v1:Int) (x6:Int):Nat->Int->(List Bool)->Option (List Bool)
 | 0,_,_=>none
 | n+1,v7,v8 =>
  bif (decide (v7<x6)) then (bnd (Xb a2 v1) λ p9 =>
   bif (decide ((wI ((wI ((wI ((wI p9)-4096))+v7))-(wI (a1*a0.Conf.PageWords))))>=0)) then (grd (v8.length<=140737488355328) <|
    bif (decide ((wI ((wI ((wI ((wI p9)-4096))+v7))-(wI (a1*a0.Conf.PageWords))))<((v8.length:Nat):Int))) then (bnd (Xb v8 (wI ((wI ((wI ((wI p9)-4096))+v7))-(wI (a1*a0.Conf.PageWords))))) λ p10 =>
     Qb7 N a0 a1 a2 v1 x6 n (wI (v7+1)) (v8.set (wI ((wI ((wI ((wI p9)-4096))+v7))-(wI (a1*a0.Conf.PageWords)))).toNat true))
    else Qb7 N a0 a1 a2 v1 x6 n (wI (v7+1)) v8)
   else Qb7 N a0 a1 a2 v1 x6 n (wI (v7+1)) v8)
  else some v8
def Qds (N:Nat) (a0:Wz) (a1:Int) (a2:List Int):Nat->Int->(List Bool)->Option (List Bool)
 | 0,_,_=>none
 | n+1,v1,v2 =>
  bif (decide (v1<((a2.length:Nat):Int))) then (bnd (Xb a2 v1) λ p3 =>
   bnd (QbU N a0 p3) λ y4 =>
   bnd (Qb5 N y4.1) λ y5 =>
   jn (λ (x6:Int) =>
    bnd (Qb7 N a0 a1 a2 v1 x6 N 0 v2) λ y11 =>
    Qds N a0 a1 a2 n (wI (v1+1)) y11) λ j1 =>
   bif (y4.1.Kind==0) then j1 1
   else j1 y5)
  else some v2
def Qg1 (N:Nat) (a0:Wz) (a1:Int) (a2:List Int):Option (List Bool):=grd (0<=a0.Conf.PageWords/\a0.Conf.PageWords.toNat<=140737488355328) <| bnd (Qds N a0 a1 a2 N 0 (List.replicate a0.Conf.PageWords.toNat false)) λ y12=>some y12
def Qg2 (N:Nat) (a0:Wz) (a1:Int) (a2:Int):Option Int:=bnd (QcB N a0.Conf a1 a2) λ y1=>bnd (QbO N a0.Words y1.1) λ y2=>some y2.1
def QgA (N:Nat) (a0:Wz) (a1:Int) (a2:Int):Option Int:=bnd (Qg2 N a0 a1 a2) λ y1=>some y1
def Qgp (N:Nat) (a0:Wz) (a1:Int) (a2:Int):Option Int:=some (wU (wI ((wI (4096+(wI (a1*a0.Conf.PageWords))))+a2)))
def Qdt (N:Nat) (a0:Wz) (a1:Int) (y3:List Bool):Nat->Int->Option (Ex Int Unit)
 | 0,_=>none
 | n+1,v4 =>
  bif (decide (v4<((y3.length:Nat):Int))) then (bnd (Xb y3 v4) λ p5 =>
   bif (!p5) then (bnd (QgA N a0 a1 v4) λ y6 =>
    bif (y6 != 0) then (bnd (Qgp N a0 a1 v4) λ y7 =>
     some (.ret y7))
    else Qdt N a0 a1 y3 n (wI (v4+1)))
   else Qdt N a0 a1 y3 n (wI (v4+1)))
  else some (.nxt ())
def Qf9 (N:Nat) (a0:Wz) (a1:Int):Option Int:=bnd (Qg0 N a0 a1) λ y1=>bnd (QaV N a0 y1) λ y2=>bnd (Qg1 N a0 a1 y2.1) λ y3=>bnd (Qdt N a0 a1 y3 N 0) λ e=>exK e (λ r=>some r) λ y8=>some 0
def QgB (N:Nat) (a0:Wz) (a1:Int):Option If:=jn (λ (_:Unit)=>bnd (QaV N a0 a1) λ y3=>bif (y3.2 != 0) then some (If.mk 3 a1 0) else bnd (QfG N a0 a1 y3.1) λ y4=>bif (y4 != 0) then some (If.mk 5 a1 y4) else bnd (Qf9 N a0 a1) λ y5=>bif (y5 != 0) then some (If.mk 4 a1 y5) else some (If.mk 0 0 0)) λ j1=>bnd (Xb a0.Pages a1) λ p1=>bif (p1.Kind != 0) then (bnd (Xb a0.Pages a1) λ p2=>bif (p2.Space != a0.Space) then some (If.mk 2 a1 0) else j1 ()) else j1 ()
def Qc3 (N:Nat) (a0:Wz) (a1:Int):Option (WE×Int):=bnd (QaL N a0) λ y1=>bif (!y1) then some ((WE.mk 0 0 0),1) else bif (a1==0) then some ((WE.mk 0 0 0),5) else bnd (QbU N a0 a1) λ y2=>bif (y2.2==0) then (bif (y2.1.Kind==0) then some ((WE.mk 0 0 0),4) else some (y2.1,y2.2)) else some (y2.1,y2.2)
def Qbd (N:Nat) (a0:Wz):Nat->Int->(List Int)->Option (Ex (List Int×Int) (List Int))
 | 0,_,_=>none
 | n+1,v2,v3 =>
  bif (decide (v2<((a0.Pages.length:Nat):Int))) then (bnd (QaV N a0 v2) λ y4 =>
   bif (y4.2 != 0) then some (.ret ([],y4.2))
   else grd ((v3.length+y4.1.length)*8<=140737488355328) <|
   Qbd N a0 n (wI (v2+1)) (v3++y4.1))
  else some (.nxt v3)
def Qen (N:Nat) (a0:Wz):Option (List Int×Int):=bnd (QaL N a0) λ y1=>bif (!y1) then some ([],1) else bnd (Qbd N a0 N 0 []) λ e=>exK e (λ r=>some r) λ y5=>some (y5,0)
def QaQ (N:Nat) (a0:Wz) (y1:List Int×Int):Nat->Int->(List Int)->Option (List Int)
 | 0,_,_=>none
 | n+1,v2,v3 =>
  bif (decide (v2<((y1.1.length:Nat):Int))) then (bnd (Xb y1.1 v2) λ p4 =>
   bnd (QbU N a0 p4) λ y5 =>
   bif (y5.1.Kind != 0) then (bnd (Xb y1.1 v2) λ p6 =>
    grd ((v3.length+1)*8<=140737488355328) <|
    QaQ N a0 y1 n (wI (v2+1)) (v3++[p6]))
   else QaQ N a0 y1 n (wI (v2+1)) v3)
  else some v3
def Qbk (N:Nat) (a0:Wz):Option (List Int×Int):=bnd (Qen N a0) λ y1=>bnd (QaQ N a0 y1 N 0 []) λ y7=>some (y7,y1.2)
def QeE (N:Nat) (a0:List Int) (a1:Int) (a2:Int):Option (List Int×Int):=bif (decide (a2<0)) then some ([],1) else bnd (Qfg N a0 a1 a2) λ y1=>bif (!y1.2) then some ([],2) else grd (0<=y1.1/\y1.1<=(wI (y1.1+a2))/\(wI (y1.1+a2))<=((a0.length:Nat):Int)) <| grd ((min ((wI (y1.1+a2)).toNat-y1.1.toNat) (a0.length-y1.1.toNat))*8<=140737488355328) <| some (((a0.drop y1.1.toNat).take ((wI (y1.1+a2)).toNat-y1.1.toNat)),0)
def QfW (N:Nat) (a0:Wz) (a1:Int):Option (List Int×Int):=bnd (Qc3 N a0 a1) λ y1=>bif (y1.2 != 0) then some ([],y1.2) else bnd (QeE N a0.Words (wU (a1+1)) y1.1.Length) λ y2=>some (y2.1,y2.2)
def Qbt (N:Nat) (a0:Wz) (y1:List Int×Int) (y6:List Int×Int) (v2:Int) (y4:WE×Int):Nat->Int->Option (Ex If Unit)
 | 0,_=>none
 | n+1,v7 =>
  bif (decide (v7<((y6.1.length:Nat):Int))) then (bnd (QbG N y4.1 v7) λ y8 =>
   bif y8 then (bnd (Xb y6.1 v7) λ p9 =>
    bif (p9 != 0) then (bnd (Xb y6.1 v7) λ p10 =>
     bnd (Qcd N y1.1 p10) λ y11 =>
     bif (!y11) then (bnd (Xb y1.1 v2) λ p12 =>
      bnd (QeL N a0.Conf (wU ((wU (p12+1))+(wU v7)))) λ y13 =>
      some (.ret (If.mk 6 y13.1 (wU ((wU (p12+1))+(wU v7))))))
     else Qbt N a0 y1 y6 v2 y4 n (wI (v7+1)))
    else Qbt N a0 y1 y6 v2 y4 n (wI (v7+1)))
   else Qbt N a0 y1 y6 v2 y4 n (wI (v7+1)))
  else some (.nxt ())
def Qcy (N:Nat) (a0:Wz) (y1:List Int×Int):Nat->Int->Option (Ex If Unit)
 | 0,_=>none
 | n+1,v2 =>
  bif (decide (v2<((y1.1.length:Nat):Int))) then (bnd (Xb y1.1 v2) λ p3 =>
   bnd (Qc3 N a0 p3) λ y4 =>
   bnd (Xb y1.1 v2) λ p5 =>
   bnd (QfW N a0 p5) λ y6 =>
   bnd (Qbt N a0 y1 y6 v2 y4 N 0) λ e=>exK e (λ r=>some (.ret r)) λ y14 =>
   Qcy N a0 y1 n (wI (v2+1)))
  else some (.nxt ())
def Qe0 (N:Nat) (a0:Wz):Option If:=bnd (Qbk N a0) λ y1=>bnd (Qcy N a0 y1 N 0) λ e=>exK e (λ r=>some r) λ y15=>some (If.mk 0 0 0)
def Qd2 (N:Nat) (a0:Wz):Nat->Int->Option (Ex If Unit)
 | 0,_=>none
 | n+1,v2 =>
  bif (decide (v2<((a0.Pages.length:Nat):Int))) then (bnd (QgB N a0 v2) λ y3 =>
   bif (y3.Fault != 0) then some (.ret y3)
   else Qd2 N a0 n (wI (v2+1)))
  else some (.nxt ())
def Qce (N:Nat) (a0:Wz):Nat->Int->Int->Option Int
 | 0,_,_=>none
 | n+1,v6,v7 =>
  bif (decide (v7<((a0.Pages.length:Nat):Int))) then (bnd (Xb a0.Pages v7) λ p8 =>
   bif (p8.Kind==1) then (bnd (Xb a0.Pages v7) λ p9 =>
    bif (decide (p9.Pins>0)) then Qce N a0 n (wI (v6+1)) (wI (v7+1))
    else Qce N a0 n v6 (wI (v7+1)))
   else Qce N a0 n v6 (wI (v7+1)))
  else some v6
def QgP (N:Nat) (a0:Wz):Option If:=bnd (QaL N a0) λ y1=>bif (!y1) then some (If.mk 1 0 0) else bnd (Qd2 N a0 N 0) λ e=>exK e (λ r=>some r) λ y4=>bnd (Qe0 N a0) λ y5=>bif (y5.Fault != 0) then some y5 else bnd (Qce N a0 N 0 0) λ y10=>bif (decide (y10>(wI (a0.Conf.Pages.tdiv 4)))) then some (If.mk 7 0 0) else some (If.mk 0 0 0)
def QeF (N:Nat) (a0:Wz):Option Bool:=bnd (QgP N a0) λ y1=>some ((y1.Fault==0)&&((y1.Page==0)&&(y1.Addr==0)))
def QfH (N:Nat) (a0:List II) (a1:Int):Nat->Int->Option (Ex Int Unit)
 | 0,_=>none
 | n+1,v1 =>
  bif (decide (v1<((a0.length:Nat):Int))) then (bnd (Xb a0 v1) λ p2 =>
   bif (p2.Ref==a1) then some (.ret v1)
   else QfH N a0 a1 n (wI (v1+1)))
  else some (.nxt ())
def Qgq (N:Nat) (a0:List II) (a1:Int):Option Int:=bnd (QfH N a0 a1 N 0) λ e=>exK e (λ r=>some r) λ y3=>some (-1)
def Qfh (N:Nat) (a0:Wz) (a1:Int):Option Int:=bnd (QeL N a0.Conf a1) λ y1=>some y1.1
def Qd3 (N:Nat) (a0:Wz) (a1:List II) (y2:List Int×Int):Nat->Int->(List Int)->Option (Ex Bool (List Int))
 | 0,_,_=>none
 | n+1,v3,v4 =>
  bif (decide (v3<((a1.length:Nat):Int))) then (bnd (Xb a1 v3) λ p5 =>
   bnd (Qcd N y2.1 p5.Ref) λ y6 =>
   bif (!y6) then some (.ret false)
   else bnd (Xb a1 v3) λ p7 =>
   bnd (Qgq N a1 p7.Ref) λ y8 =>
   bif (y8 != v3) then some (.ret false)
   else bnd (Xb a1 v3) λ p9 =>
   bif (decide (p9.Count<1)) then some (.ret false)
   else bnd (Xb a1 v3) λ p10 =>
   bif (decide (p10.Count>1000)) then some (.ret false)
   else bnd (Xb a1 v3) λ p11 =>
   bnd (Qfh N a0 p11.Ref) λ y12 =>
   bnd (Xb v4 y12) λ p13 =>
   bnd (Xb a1 v3) λ p14 =>
   bnd (Xb v4 y12) λ p15 =>
   Qd3 N a0 a1 y2 n (wI (v3+1)) (v4.set y12.toNat (wI (p13+p14.Count))))
  else some (.nxt v4)
def Qd4 (N:Nat) (a0:Wz) (y16:List Int):Nat->Int->Option (Ex Bool Unit)
 | 0,_=>none
 | n+1,v17 =>
  bif (decide (v17<((a0.Pages.length:Nat):Int))) then (bnd (Xb a0.Pages v17) λ p18 =>
   bnd (Xb y16 v17) λ p19 =>
   bif (p18.Pins != p19) then some (.ret false)
   else Qd4 N a0 y16 n (wI (v17+1)))
  else some (.nxt ())
def QeM (N:Nat) (a0:Wz) (a1:List II):Option Bool:=bnd (QeF N a0) λ y1=>bif (!y1) then some false else bif (decide (((a1.length:Nat):Int)>64)) then some false else bnd (Qbk N a0) λ y2=>grd (0<=((a0.Pages.length:Nat):Int)/\((a0.Pages.length:Nat):Int).toNat*8<=140737488355328) <| bnd (Qd3 N a0 a1 y2 N 0 (List.replicate ((a0.Pages.length:Nat):Int).toNat 0)) λ e=>exK e (λ r=>some r) λ y16=>bnd (Qd4 N a0 y16 N 0) λ e=>exK e (λ r=>some r) λ y20=>some true
def Qcu (N:Nat) (a1:List Int) (y2:List Int×Int):Nat->Int->Option (Ex Bool Unit)
 | 0,_=>none
 | n+1,v3 =>
  bif (decide (v3<((a1.length:Nat):Int))) then (bnd (Xb a1 v3) λ p4 =>
   bif (p4 != 0) then (bnd (Xb a1 v3) λ p5 =>
    bnd (Qcd N y2.1 p5) λ y6 =>
    bif (!y6) then some (.ret false)
    else Qcu N a1 y2 n (wI (v3+1)))
   else Qcu N a1 y2 n (wI (v3+1)))
  else some (.nxt ())
def Qeo (N:Nat) (a0:Wz) (a1:List Int):Option Bool:=bnd (QeF N a0) λ y1=>bif (!y1) then some false else bnd (Qbk N a0) λ y2=>bnd (Qcu N a1 y2 N 0) λ e=>exK e (λ r=>some r) λ y7=>some true
def QdT (N:Nat) (a0:UX):Option Bool:=bnd (QeM N a0.Heap a0.Pins) λ y1=>bif (!y1) then some false else bnd (QbH N a0.Locals) λ y2=>bif (!y2) then some false else bnd (QbF N a0.Globals) λ y3=>bif (!y3) then some false else bnd (QbF N a0.Weaks) λ y4=>bif (!y4) then some false else bnd (Qa4 N a0.Globals) λ y5=>bnd (Qcd N y5 0) λ y6=>bif y6 then some false else grd (a0.Roots.length*8<=140737488355328) <| bnd (Qb3 N a0.Locals) λ y7=>grd ((a0.Roots.length+y7.length)*8<=140737488355328) <| grd (((a0.Roots.length+y7.length)+y5.length)*8<=140737488355328) <| bnd (Qa4 N a0.Weaks) λ y8=>grd ((((a0.Roots.length+y7.length)+y5.length)+y8.length)*8<=140737488355328) <| bnd (Qeo N a0.Heap (((a0.Roots++y7)++y5)++y8)) λ y9=>some y9
def Qcf (N:Nat) (a0:Wz) (y3:List Int×Int):Nat->Int->(List W4)->Option (List W4)
 | 0,_,_=>none
 | n+1,v4,v5 =>
  grd (v5.length<=140737488355328) <|
  bif (decide (v4<((v5.length:Nat):Int))) then (bnd (Xb v5 v4) λ p6 =>
   bif (p6.Kind==1) then (bif (decide (p6.Pins>0)) then (bnd (Xb v5 v4) λ p7 =>
       Qcf N a0 y3 n (wI (v4+1)) (v5.set v4.toNat (W4.mk p7.Kind (wI (1-a0.Space)) p7.Used p7.Pins)))
    else Qcf N a0 y3 n (wI (v4+1)) v5)
   else Qcf N a0 y3 n (wI (v4+1)) v5)
  else some v5
def QeN (N:Nat) (a0:Wz):Option (W9×Int):=bnd (QaL N a0) λ y1=>bif (!y1) then some ((W9.mk zHp [] [] [] 0 (UL.mk 0 0 0 0 0 0)),1) else bnd (QeF N a0) λ y2=>bif (!y2) then some ((W9.mk zHp [] [] [] 0 (UL.mk 0 0 0 0 0 0)),19) else bnd (Qbk N a0) λ y3=>grd (a0.Pages.length*32<=140737488355328) <| bnd (Qcf N a0 y3 N 0 a0.Pages) λ y8=>some ((W9.mk (Wz.mk a0.Conf a0.Words y8 a0.Space a0.Bump) y3.1 [] [] 0 (UL.mk 0 0 0 0 0 0)),0)
def Qc4 (N:Nat) (a0:Int):Option (Int×Bool):=bif ((a0.tmod 4) != 2) then some (0,false) else bif (decide ((YD .u64 a0 2)>=4294967296)) then some (0,false) else some ((YD .u64 a0 2),true)
def Qd5 (N:Nat) (a0:W9) (a1:Int):Nat->Int->Option (Ex Bool Unit)
 | 0,_=>none
 | n+1,v1 =>
  bif (decide (v1<((a0.Taken.length:Nat):Int))) then (bnd (Xb a0.Taken v1) λ p2 =>
   bif (p2==a1) then some (.ret true)
   else Qd5 N a0 a1 n (wI (v1+1)))
  else some (.nxt ())
def QgQ (N:Nat) (a0:W9) (a1:Int):Option Bool:=bnd (Qd5 N a0 a1 N 0) λ e=>exK e (λ r=>some r) λ y3=>some false
def Qd6 (N:Nat) (a0:W9) (a1:Int):Option Bool:=bif (decide (a1<0)) then some false else bif (decide (a1>=((a0.Heap.Pages.length:Nat):Int))) then some false else bnd (Xb a0.Heap.Pages a1) λ p1=>bif (p1.Kind==1) then (bif (p1.Space != a0.Heap.Space) then (bnd (QgQ N a0 a1) λ y2=>some (!y2)) else some false) else some false
def Qbr (N:Nat) (a2:List Int) (y1:Int×Bool):Nat->Int->(List Int)->Option (List Int)
 | 0,_,_=>none
 | n+1,v2,v3 =>
  bif (decide (v2<((a2.length:Nat):Int))) then (bnd (Xb a2 v2) λ p4 =>
   bnd (Xb v3 (wI (y1.1+v2))) λ p5 =>
   Qbr N a2 y1 n (wI (v2+1)) (v3.set (wI (y1.1+v2)).toNat p4))
  else some v3
def Qck (N:Nat) (a0:List Int) (a1:Int) (a2:List Int):Option (List Int×Int):=bnd (Qfg N a0 a1 ((a2.length:Nat):Int)) λ y1=>bif (!y1.2) then some ([],2) else grd (a0.length*8<=140737488355328) <| bnd (Qbr N a2 y1 N 0 a0) λ y6=>some (y6,0)
def QcY (N:Nat) (a0:List Int) (a1:Int) (a2:Int):Option (List Int×Int):=bnd (Qck N a0 a1 [a2]) λ y1=>some (y1.1,y1.2)
def QeG (N:Nat) (a0:W9) (a1:Int):Option W9:=grd (a0.Queue.length*8<=140737488355328) <| grd ((a0.Queue.length+1)*8<=140737488355328) <| some (W9.mk a0.Heap a0.Old a0.Taken (a0.Queue++[a1]) a0.Scanned (UL.mk a0.Report.Copied (wI (a0.Report.Kept+1)) a0.Report.Filled a0.Report.Freed a0.Report.Cleared a0.Report.Steps))
def Qb8 (N:Nat) (a0:List W4):Nat->Int->(List OP)->Option (List OP)
 | 0,_,_=>none
 | n+1,v1,v2 =>
  bif (decide (v1<((a0.length:Nat):Int))) then (bnd (Xb a0 v1) λ p3 =>
   bif (p3.Kind != 0) then Qb8 N a0 n (wI (v1+1)) v2
   else grd (v2.length<=140737488355328) <|
   jn (λ (_:Unit) =>
    grd ((v2.length+1)*16<=140737488355328) <|
    Qb8 N a0 n (wI (v1+1)) (v2++[(OP.mk v1 1)])) λ j1 =>
   bif (decide (((v2.length:Nat):Int)>0)) then (bnd (Xb v2 (wI (((v2.length:Nat):Int)-1))) λ p4 =>
    bnd (Xb v2 (wI (((v2.length:Nat):Int)-1))) λ p5 =>
    bif ((wI (p4.From+p5.Len))==v1) then (bnd (Xb v2 (wI (((v2.length:Nat):Int)-1))) λ p6 =>
     bnd (Xb v2 (wI (((v2.length:Nat):Int)-1))) λ p7 =>
     Qb8 N a0 n (wI (v1+1)) (v2.set (wI (((v2.length:Nat):Int)-1)).toNat (OP.mk p7.From (wI (p6.Len+1)))))
    else j1 ())
   else j1 ())
  else some v2
def Qg3 (N:Nat) (a0:List W4):Option (List OP):=bnd (Qb8 N a0 N 0 []) λ y8=>some y8
def QcP (N:Nat) (a1:Int) (y1:List OP):Nat->Int->Option (Ex Int Unit)
 | 0,_=>none
 | n+1,v2 =>
  bif (decide (v2<((y1.length:Nat):Int))) then (bif (decide (a1>=1)) then (bnd (Xb y1 v2) λ p3 =>
      bif (decide (p3.Len>=a1)) then (bnd (Xb y1 v2) λ p4 =>
       some (.ret p4.From))
      else QcP N a1 y1 n (wI (v2+1)))
   else QcP N a1 y1 n (wI (v2+1)))
  else some (.nxt ())
def QdU (N:Nat) (a0:List W4) (a1:Int):Option Int:=bnd (Qg3 N a0) λ y1=>bnd (QcP N a1 y1 N 0) λ e=>exK e (λ r=>some r) λ y5=>some (-1)
def Qez (N:Nat) (a1:Int) (a2:Int) (a3:W4) (a4:W4):Nat->Int->(List W4)->Option (Ex (List W4×Int) (List W4))
 | 0,_,_=>none
 | n+1,v1,v2 =>
  bif (decide (v1<a2)) then (bnd (Xb v2 (wI (a1+v1))) λ p3 =>
   bif (p3.Kind != 0) then some (.ret ([],20))
   else bnd (Xb v2 (wI (a1+v1))) λ p4 =>
   Qez N a1 a2 a3 a4 n (wI (v1+1)) (v2.set (wI (a1+v1)).toNat a4))
  else some (.nxt v2)
def Qga (N:Nat) (a0:List W4) (a1:Int) (a2:Int) (a3:W4) (a4:W4):Option (List W4×Int):=bif (decide (a1<0)) then some ([],2) else bif (decide (a1>=((a0.length:Nat):Int))) then some ([],2) else bif (decide (a2>(wI (((a0.length:Nat):Int)-a1)))) then some ([],2) else grd (a0.length*32<=140737488355328) <| bnd (Qez N a1 a2 a3 a4 N 0 a0) λ e=>exK e (λ r=>some r) λ y5=>bnd (Xb y5 a1) λ p6=>some ((y5.set a1.toNat a3),0)
def QdV (N:Nat) (a0:List W4) (a1:Int) (a2:Int):Option (List W4×Int):=bif (decide (a2<0)) then some ([],1) else bif (decide (a2>1)) then some ([],1) else bnd (Qga N a0 a1 1 (W4.mk 1 a2 0 0) (W4.mk 0 0 0 0)) λ y1=>some (y1.1,y1.2)
def QdW (N:Nat) (a0:W9) (a1:Int):Option (W9×Int×Bool):=grd (a0.Heap.Pages.length*32<=140737488355328) <| jn (λ (_:Unit)=>bnd (QdU N a0.Heap.Pages 1) λ y4=>bif (decide (y4<0)) then some ((W9.mk zHp [] [] [] 0 (UL.mk 0 0 0 0 0 0)),0,false) else bnd (QdV N a0.Heap.Pages y4 (wI (1-a0.Heap.Space))) λ y5=>grd (a0.Taken.length*8<=140737488355328) <| grd ((a0.Taken.length+1)*8<=140737488355328) <| bnd (Xb y5.1 y4) λ p13=>bnd (Xb y5.1 y4) λ p14=>bnd (Xb y5.1 y4) λ p15=>some ((W9.mk (Wz.mk a0.Heap.Conf a0.Heap.Words (y5.1.set y4.toNat (W4.mk p15.Kind p15.Space (wI (p14.Used+a1)) p15.Pins)) a0.Heap.Space a0.Heap.Bump) a0.Old (a0.Taken++[y4]) a0.Queue a0.Scanned a0.Report),(wU (wI ((wI (4096+(wI (y4*a0.Heap.Conf.PageWords))))+p13.Used))),true)) λ j1=>bif (decide (((a0.Taken.length:Nat):Int)>0)) then (bnd (Xb a0.Taken (wI (((a0.Taken.length:Nat):Int)-1))) λ p1=>bnd (Xb a0.Heap.Pages p1) λ p2=>bif (decide ((wI (p2.Used+a1))<=a0.Heap.Conf.PageWords)) then (bnd (Xb a0.Taken (wI (((a0.Taken.length:Nat):Int)-1))) λ p3=>bnd (Xb a0.Heap.Pages p3) λ p10=>bnd (Xb a0.Heap.Pages p3) λ p11=>bnd (Xb a0.Heap.Pages p3) λ p12=>some ((W9.mk (Wz.mk a0.Heap.Conf a0.Heap.Words (a0.Heap.Pages.set p3.toNat (W4.mk p12.Kind p12.Space (wI (p11.Used+a1)) p12.Pins)) a0.Heap.Space a0.Heap.Bump) a0.Old a0.Taken a0.Queue a0.Scanned a0.Report),(wU (wI ((wI (4096+(wI (p3*a0.Heap.Conf.PageWords))))+p10.Used))),true)) else j1 ()) else j1 ()
def Qfi (N:Nat) (a0:List Int) (a1:Int) (a2:Int) (a3:Int):Option (List Int×Int):=bnd (QeE N a0 a2 a3) λ y1=>bif (y1.2 != 0) then some ([],y1.2) else bnd (Qck N a0 a1 y1.1) λ y2=>some (y2.1,y2.2)
def Qdu (N:Nat) (a0:Int):Option (Int×Int):=bif (decide (a0>=4294967296)) then some (0,1) else some ((wU ((wU (4*a0))+2)),0)
def QcQ (N:Nat) (a0:W9) (a1:Int):Nat->Int->(List W4)->Option (List W4)
 | 0,_,_=>none
 | n+1,v10,v11 =>
  grd (v11.length<=140737488355328) <|
  bif (decide (v10<((v11.length:Nat):Int))) then (bnd (Xb v11 v10) λ p12 =>
   bif (p12.Kind==3) then (bnd (Xb v11 v10) λ p13 =>
    QcQ N a0 a1 n (wI (v10+1)) (v11.set v10.toNat (W4.mk p13.Kind (wI (1-a0.Heap.Space)) p13.Used p13.Pins)))
   else some v11)
  else some v11
def QcC (N:Nat) (a0:W9) (a1:Int):Option (W9×Int×Int):=bif (a1==0) then some (a0,a1,0) else bnd (Qcd N a0.Queue a1) λ y1=>bif y1 then some (a0,a1,0) else bnd (Qcd N a0.Old a1) λ y2=>bif (!y2) then some ((W9.mk zHp [] [] [] 0 (UL.mk 0 0 0 0 0 0)),0,19) else bnd (QbO N a0.Heap.Words a1) λ y3=>bnd (Qc4 N y3.1) λ y4=>bif y4.2 then some (a0,y4.1,0) else bnd (QeL N a0.Heap.Conf a1) λ y5=>bif (y5.2.2 != 0) then some ((W9.mk zHp [] [] [] 0 (UL.mk 0 0 0 0 0 0)),0,19) else bif (decide (y5.1>=((a0.Heap.Pages.length:Nat):Int))) then some ((W9.mk zHp [] [] [] 0 (UL.mk 0 0 0 0 0 0)),0,19) else bnd (Qd6 N a0 y5.1) λ y6=>bif y6 then (bnd (QeG N a0 a1) λ y7=>some (y7,a1,0)) else bnd (Xb a0.Heap.Pages y5.1) λ p8=>bif (p8.Kind==2) then (grd (a0.Heap.Pages.length*32<=140737488355328) <| bnd (Xb a0.Heap.Pages y5.1) λ p9=>bnd (QcQ N a0 a1 N (wI (y5.1+1)) (a0.Heap.Pages.set y5.1.toNat (W4.mk p9.Kind (wI (1-a0.Heap.Space)) p9.Used p9.Pins))) λ y14=>bnd (QeG N (W9.mk (Wz.mk a0.Heap.Conf a0.Heap.Words y14 a0.Heap.Space a0.Heap.Bump) a0.Old a0.Taken a0.Queue a0.Scanned a0.Report) a1) λ y15=>some (y15,a1,0)) else bnd (QbB N y3.1) λ y16=>bnd (Qb5 N y16.1) λ y17=>bnd (QdW N a0 y17) λ y18=>bif (!y18.2.2) then some ((W9.mk zHp [] [] [] 0 (UL.mk 0 0 0 0 0 0)),0,3) else bnd (Qfi N y18.1.Heap.Words y18.2.1 a1 y17) λ y19=>bnd (Qdu N y18.2.1) λ y20=>bnd (QcY N y19.1 a1 y20.1) λ y21=>grd (y18.1.Queue.length*8<=140737488355328) <| grd ((y18.1.Queue.length+1)*8<=140737488355328) <| some ((W9.mk (Wz.mk y18.1.Heap.Conf y21.1 y18.1.Heap.Pages y18.1.Heap.Space y18.1.Heap.Bump) y18.1.Old y18.1.Taken (y18.1.Queue++[y18.2.1]) y18.1.Scanned (UL.mk (wI (y18.1.Report.Copied+1)) y18.1.Report.Kept y18.1.Report.Filled y18.1.Report.Freed y18.1.Report.Cleared y18.1.Report.Steps)),y18.2.1,0)
def Qbs (N:Nat) (a1:List Int):Nat->Int->Int->Int->(List Int)->(List W4)->Int->Int->(List Int)->(List Int)->(List Int)->Int->Int->Int->Int->Int->Int->Int->(List Int)->Option (Ex (W9×List Int×Int) (Int×Int×List Int×List W4×Int×Int×List Int×List Int×List Int×Int×Int×Int×Int×Int×Int×Int×List Int))
 | 0,_,_,_,_,_,_,_,_,_,_,_,_,_,_,_,_,_,_=>none
 | n+1,v1,v2,v3,v4,v5,v6,v7,v8,v9,v10,v11,v12,v13,v14,v15,v16,v17,v18 =>
  bif (decide (v1<((a1.length:Nat):Int))) then (bnd (Xb a1 v1) λ p19 =>
   bnd (QcC N (W9.mk (Wz.mk (Ut.mk v2 v3) v4 v5 v6 v7) v8 v9 v10 v11 (UL.mk v12 v13 v14 v15 v16 v17)) p19) λ y20 =>
   bif (y20.2.2 != 0) then some (.ret ((W9.mk zHp [] [] [] 0 (UL.mk 0 0 0 0 0 0)),[],y20.2.2))
   else grd ((v18.length+1)*8<=140737488355328) <|
   Qbs N a1 n (wI (v1+1)) y20.1.Heap.Conf.PageWords y20.1.Heap.Conf.Pages y20.1.Heap.Words y20.1.Heap.Pages y20.1.Heap.Space y20.1.Heap.Bump y20.1.Old y20.1.Taken y20.1.Queue y20.1.Scanned y20.1.Report.Copied y20.1.Report.Kept y20.1.Report.Filled y20.1.Report.Freed y20.1.Report.Cleared y20.1.Report.Steps (v18++[y20.2.1]))
  else some (.nxt (v2,v3,v4,v5,v6,v7,v8,v9,v10,v11,v12,v13,v14,v15,v16,v17,v18))
def QeO (N:Nat) (a0:W9) (a1:List Int):Option (W9×List Int×Int):=bnd (Qbs N a1 N 0 a0.Heap.Conf.PageWords a0.Heap.Conf.Pages a0.Heap.Words a0.Heap.Pages a0.Heap.Space a0.Heap.Bump a0.Old a0.Taken a0.Queue a0.Scanned a0.Report.Copied a0.Report.Kept a0.Report.Filled a0.Report.Freed a0.Report.Cleared a0.Report.Steps []) λ e=>exK e (λ r=>some r) λ y21=>some ((W9.mk (Wz.mk (Ut.mk y21.1 y21.2.1) y21.2.2.1 y21.2.2.2.1 y21.2.2.2.2.1 y21.2.2.2.2.2.1) y21.2.2.2.2.2.2.1 y21.2.2.2.2.2.2.2.1 y21.2.2.2.2.2.2.2.2.1 y21.2.2.2.2.2.2.2.2.2.1 (UL.mk y21.2.2.2.2.2.2.2.2.2.2.1 y21.2.2.2.2.2.2.2.2.2.2.2.1 y21.2.2.2.2.2.2.2.2.2.2.2.2.1 y21.2.2.2.2.2.2.2.2.2.2.2.2.2.1 y21.2.2.2.2.2.2.2.2.2.2.2.2.2.2.1 y21.2.2.2.2.2.2.2.2.2.2.2.2.2.2.2.1)),y21.2.2.2.2.2.2.2.2.2.2.2.2.2.2.2.2,0)
def Qfb (N:Nat) (a0:W9) (a1:Int):Option WE:=bnd (QbO N a0.Heap.Words a1) λ y1=>bnd (QbB N y1.1) λ y2=>some y2.1
def Qbu (N:Nat) (a0:WE):Nat->Int->(List Int)->Option (List Int)
 | 0,_,_=>none
 | n+1,v1,v2 =>
  bif (decide (v1<a0.Length)) then (bnd (Qci N a0) λ y3 =>
   bif y3 then (bnd (QbG N a0 v1) λ y4 =>
    bif y4 then (grd ((v2.length+1)*8<=140737488355328) <|
     Qbu N a0 n (wI (v1+1)) (v2++[v1]))
    else Qbu N a0 n (wI (v1+1)) v2)
   else some v2)
  else some v2
def Qe1 (N:Nat) (a0:WE):Option (List Int):=bnd (Qbu N a0 N 0 []) λ y5=>some y5
def QbK (N:Nat) (p1:Int) (y3:List Int):Nat->Int->Int->Int->(List Int)->(List W4)->Int->Int->(List Int)->(List Int)->(List Int)->Int->Int->Int->Int->Int->Int->Int->Option (Ex (W9×Bool×Int) (Int×Int×List Int×List W4×Int×Int×List Int×List Int×List Int×Int×Int×Int×Int×Int×Int×Int))
 | 0,_,_,_,_,_,_,_,_,_,_,_,_,_,_,_,_,_=>none
 | n+1,v4,v5,v6,v7,v8,v9,v10,v11,v12,v13,v14,v15,v16,v17,v18,v19,v20 =>
  bif (decide (v4<((y3.length:Nat):Int))) then (bnd (Xb y3 v4) λ p21 =>
   bnd (QbO N v7 (wU ((wU (p1+1))+(wU p21)))) λ y22 =>
   bnd (QcC N (W9.mk (Wz.mk (Ut.mk v5 v6) v7 v8 v9 v10) v11 v12 v13 v14 (UL.mk v15 v16 v17 v18 v19 v20)) y22.1) λ y23 =>
   bif (y23.2.2 != 0) then some (.ret ((W9.mk zHp [] [] [] 0 (UL.mk 0 0 0 0 0 0)),false,y23.2.2))
   else bnd (QcY N y23.1.Heap.Words (wU ((wU (p1+1))+(wU p21))) y23.2.1) λ y24 =>
   QbK N p1 y3 n (wI (v4+1)) y23.1.Heap.Conf.PageWords y23.1.Heap.Conf.Pages y24.1 y23.1.Heap.Pages y23.1.Heap.Space y23.1.Heap.Bump y23.1.Old y23.1.Taken y23.1.Queue y23.1.Scanned y23.1.Report.Copied y23.1.Report.Kept y23.1.Report.Filled y23.1.Report.Freed y23.1.Report.Cleared y23.1.Report.Steps)
  else some (.nxt (v5,v6,v7,v8,v9,v10,v11,v12,v13,v14,v15,v16,v17,v18,v19,v20))
def Qfj (N:Nat) (a0:W9):Option (W9×Bool×Int):=bif (decide (a0.Scanned>=((a0.Queue.length:Nat):Int))) then some (a0,false,0) else bnd (Xb a0.Queue a0.Scanned) λ p1=>bnd (Qfb N a0 p1) λ y2=>bnd (Qe1 N y2) λ y3=>bnd (QbK N p1 y3 N 0 a0.Heap.Conf.PageWords a0.Heap.Conf.Pages a0.Heap.Words a0.Heap.Pages a0.Heap.Space a0.Heap.Bump a0.Old a0.Taken a0.Queue a0.Scanned a0.Report.Copied a0.Report.Kept a0.Report.Filled a0.Report.Freed a0.Report.Cleared a0.Report.Steps) λ e=>exK e (λ r=>some r) λ y25=>some ((W9.mk (Wz.mk (Ut.mk y25.1 y25.2.1) y25.2.2.1 y25.2.2.2.1 y25.2.2.2.2.1 y25.2.2.2.2.2.1) y25.2.2.2.2.2.2.1 y25.2.2.2.2.2.2.2.1 y25.2.2.2.2.2.2.2.2.1 (wI (y25.2.2.2.2.2.2.2.2.2.1+1)) (UL.mk y25.2.2.2.2.2.2.2.2.2.2.1 y25.2.2.2.2.2.2.2.2.2.2.2.1 y25.2.2.2.2.2.2.2.2.2.2.2.2.1 y25.2.2.2.2.2.2.2.2.2.2.2.2.2.1 y25.2.2.2.2.2.2.2.2.2.2.2.2.2.2.1 (wI ((wI (y25.2.2.2.2.2.2.2.2.2.2.2.2.2.2.2+1))+((y3.length:Nat):Int))))),true,0)
def Qb2 (N:Nat):Nat->Int->Int->(List Int)->(List W4)->Int->Int->(List Int)->(List Int)->(List Int)->Int->Int->Int->Int->Int->Int->Int->Option (W9×Int)
 | 0,_,_,_,_,_,_,_,_,_,_,_,_,_,_,_,_=>none
 | n+1,v1,v2,v3,v4,v5,v6,v7,v8,v9,v10,v11,v12,v13,v14,v15,v16 =>
  bnd (Qfj N (W9.mk (Wz.mk (Ut.mk v1 v2) v3 v4 v5 v6) v7 v8 v9 v10 (UL.mk v11 v12 v13 v14 v15 v16))) λ y17 =>
  bif (y17.2.2 != 0) then some ((W9.mk zHp [] [] [] 0 (UL.mk 0 0 0 0 0 0)),y17.2.2)
  else bif (!y17.2.1) then some (y17.1,0)
  else Qb2 N n y17.1.Heap.Conf.PageWords y17.1.Heap.Conf.Pages y17.1.Heap.Words y17.1.Heap.Pages y17.1.Heap.Space y17.1.Heap.Bump y17.1.Old y17.1.Taken y17.1.Queue y17.1.Scanned y17.1.Report.Copied y17.1.Report.Kept y17.1.Report.Filled y17.1.Report.Freed y17.1.Report.Cleared y17.1.Report.Steps
def QfX (N:Nat) (a0:W9):Option (W9×Int):=bnd (Qb2 N N a0.Heap.Conf.PageWords a0.Heap.Conf.Pages a0.Heap.Words a0.Heap.Pages a0.Heap.Space a0.Heap.Bump a0.Old a0.Taken a0.Queue a0.Scanned a0.Report.Copied a0.Report.Kept a0.Report.Filled a0.Report.Freed a0.Report.Cleared a0.Report.Steps) λ r=>some r
def QeP (N:Nat) (a0:W9) (a1:Int):Option Int:=bnd (Qcd N a0.Queue a1) λ y1=>bif y1 then some a1 else bnd (QbO N a0.Heap.Words a1) λ y2=>bnd (Qc4 N y2.1) λ y3=>some y3.1
def QbL (N:Nat) (a0:W9) (v4:List W4) (p5:W4) (v1:Int) (v2:Int):Nat->Int->(List Int)->Option (List Int)
 | 0,_,_=>none
 | n+1,v7,v8 =>
  bif (decide (v7<a0.Heap.Conf.PageWords)) then (bnd (Xb v8 (wI ((wI (v1*a0.Heap.Conf.PageWords))+v7))) λ p9 =>
   QbL N a0 v4 p5 v1 v2 n (wI (v7+1)) (v8.set (wI ((wI (v1*a0.Heap.Conf.PageWords))+v7)).toNat 0))
  else some v8
def Qa9 (N:Nat) (a0:W9):Nat->Int->Int->(List Int)->(List W4)->Option (Int×List Int×List W4)
 | 0,_,_,_,_=>none
 | n+1,v1,v2,v3,v4 =>
  grd (v4.length<=140737488355328) <|
  bif (decide (v1<((v4.length:Nat):Int))) then (bnd (Xb v4 v1) λ p5 =>
   bif (p5.Kind==0) then Qa9 N a0 n (wI (v1+1)) v2 v3 v4
   else bif (p5.Space != a0.Heap.Space) then Qa9 N a0 n (wI (v1+1)) v2 v3 v4
   else bnd (Xb v4 v1) λ p6 =>
   bnd (QbL N a0 v4 p5 v1 v2 N 0 v3) λ y10 =>
   Qa9 N a0 n (wI (v1+1)) (wI (v2+1)) y10 (v4.set v1.toNat (W4.mk 0 0 0 0)))
  else some (v2,v3,v4)
def Qfk (N:Nat) (a0:W9):Option W9:=grd (a0.Heap.Pages.length*32<=140737488355328) <| grd (a0.Heap.Words.length*8<=140737488355328) <| bnd (Qa9 N a0 N 0 a0.Report.Freed a0.Heap.Words a0.Heap.Pages) λ y11=>some (W9.mk (Wz.mk a0.Heap.Conf y11.2.1 y11.2.2 a0.Heap.Space a0.Heap.Bump) a0.Old a0.Taken a0.Queue a0.Scanned (UL.mk a0.Report.Copied a0.Report.Kept a0.Report.Filled y11.1 a0.Report.Cleared a0.Report.Steps))
def QaT (N:Nat) (a0:W9):Nat->Int->(List Int)->Int->Option (List Int×Int)
 | 0,_,_,_=>none
 | n+1,v1,v2,v3 =>
  bif (decide (v1<((a0.Old.length:Nat):Int))) then (bnd (Xb a0.Old v1) λ p4 =>
   bnd (QeL N a0.Heap.Conf p4) λ y5 =>
   bnd (Qd6 N (W9.mk (Wz.mk a0.Heap.Conf v2 a0.Heap.Pages a0.Heap.Space a0.Heap.Bump) a0.Old a0.Taken a0.Queue a0.Scanned (UL.mk a0.Report.Copied a0.Report.Kept v3 a0.Report.Freed a0.Report.Cleared a0.Report.Steps)) y5.1) λ y6 =>
   bif (!y6) then QaT N a0 n (wI (v1+1)) v2 v3
   else bnd (Xb a0.Old v1) λ p7 =>
   bnd (Qcd N a0.Queue p7) λ y8 =>
   bif y8 then QaT N a0 n (wI (v1+1)) v2 v3
   else bnd (Xb a0.Old v1) λ p9 =>
   bnd (Qfb N (W9.mk (Wz.mk a0.Heap.Conf v2 a0.Heap.Pages a0.Heap.Space a0.Heap.Bump) a0.Old a0.Taken a0.Queue a0.Scanned (UL.mk a0.Report.Copied a0.Report.Kept v3 a0.Report.Freed a0.Report.Cleared a0.Report.Steps)) p9) λ y10 =>
   bnd (Qct N (WE.mk 0 y10.Length 0)) λ y11 =>
   bnd (Xb a0.Old v1) λ p12 =>
   grd (0<=y10.Length/\y10.Length.toNat*8<=140737488355328) <|
   grd ((1+y10.Length.toNat)*8<=140737488355328) <|
   bnd (Qck N v2 p12 ([y11.1]++(List.replicate y10.Length.toNat 0))) λ y13 =>
   QaT N a0 n (wI (v1+1)) y13.1 (wI (v3+1)))
  else some (v2,v3)
def Qfl (N:Nat) (a0:W9):Option W9:=bnd (QaT N a0 N 0 a0.Heap.Words a0.Report.Filled) λ y14=>some (W9.mk (Wz.mk a0.Heap.Conf y14.1 a0.Heap.Pages a0.Heap.Space a0.Heap.Bump) a0.Old a0.Taken a0.Queue a0.Scanned (UL.mk a0.Report.Copied a0.Report.Kept y14.2 a0.Report.Freed a0.Report.Cleared a0.Report.Steps))
def QaZ (N:Nat) (a2:List Int) (y5:W9×List Int×Int) (y6:W9×Int):Nat->Int->Int->(List Int)->Option (Int×List Int)
 | 0,_,_,_=>none
 | n+1,v7,v8,v9 =>
  bif (decide (v7<((a2.length:Nat):Int))) then (bnd (Xb a2 v7) λ p10 =>
   jn (λ (x14:Int) (x15:Int) =>
    grd ((v9.length+1)*8<=140737488355328) <|
    QaZ N a2 y5 y6 n (wI (v7+1)) x15 (v9++[x14])) λ j3 =>
   bif (p10 != 0) then (bnd (Xb a2 v7) λ p11 =>
    bnd (QeP N (W9.mk y6.1.Heap y6.1.Old y6.1.Taken y6.1.Queue y6.1.Scanned (UL.mk y6.1.Report.Copied y6.1.Report.Kept y6.1.Report.Filled y6.1.Report.Freed v8 y6.1.Report.Steps)) p11) λ y12 =>
    jn (λ (x13:Int) =>
     j3 y12 x13) λ j2 =>
    bif (y12==0) then j2 (wI (v8+1))
    else j2 v8)
   else j3 0 v8)
  else some (v8,v9)
def Qdv (N:Nat) (a0:Wz) (a1:List Int) (a2:List Int):Option (Wz×List Int×List Int×UL×Int):=bnd (QaL N a0) λ y1=>bif (!y1) then some (zHp,[],[],(UL.mk 0 0 0 0 0 0),1) else jn (λ (_:Unit)=>some (zHp,[],[],(UL.mk 0 0 0 0 0 0),19)) λ j1=>bnd (Qeo N a0 a1) λ y2=>bif (!y2) then j1 () else bnd (Qeo N a0 a2) λ y3=>bif (!y3) then j1 () else bnd (QeN N a0) λ y4=>bnd (QeO N y4.1 a1) λ y5=>bif (y5.2.2 != 0) then some (zHp,[],[],(UL.mk 0 0 0 0 0 0),y5.2.2) else bnd (QfX N y5.1) λ y6=>bif (y6.2 != 0) then some (zHp,[],[],(UL.mk 0 0 0 0 0 0),y6.2) else bnd (QaZ N a2 y5 y6 N 0 y6.1.Report.Cleared []) λ y16=>bnd (Qfl N (W9.mk y6.1.Heap y6.1.Old y6.1.Taken y6.1.Queue y6.1.Scanned (UL.mk y6.1.Report.Copied y6.1.Report.Kept y6.1.Report.Filled y6.1.Report.Freed y16.1 y6.1.Report.Steps))) λ y17=>bnd (Qfk N y17) λ y18=>jn (λ (x20:Int)=>some ((Wz.mk y18.Heap.Conf y18.Heap.Words y18.Heap.Pages (wI (1-y18.Heap.Space)) x20),y5.2.1,y16.2,y18.Report,0)) λ j4=>bif (decide (((y18.Taken.length:Nat):Int)>0)) then (bnd (Xb y18.Taken (wI (((y18.Taken.length:Nat):Int)-1))) λ p19=>j4 p19) else j4 (-1)
def Qbe (N:Nat) (a0:UX):Nat->Int->(List Int)->Option (List Int)
 | 0,_,_=>none
 | n+1,v3,v4 =>
  bif (decide (v3<((a0.Pins.length:Nat):Int))) then (bnd (Xb a0.Pins v3) λ p5 =>
   grd ((v4.length+1)*8<=140737488355328) <|
   Qbe N a0 n (wI (v3+1)) (v4++[p5.Ref]))
  else some v4
def Qep (N:Nat) (a0:UX):Option (List Int):=grd (a0.Roots.length*8<=140737488355328) <| bnd (Qb3 N a0.Locals) λ y1=>grd ((a0.Roots.length+y1.length)*8<=140737488355328) <| bnd (Qa4 N a0.Globals) λ y2=>grd (((a0.Roots.length+y1.length)+y2.length)*8<=140737488355328) <| bnd (Qbe N a0 N 0 ((a0.Roots++y1)++y2)) λ y6=>some y6
def Qbl (N:Nat) (a0:Ws) (a1:List Int):Nat->Int->Int->(List UR)->Option (Ex (Ws×Int) (List UR))
 | 0,_,_,_=>none
 | n+1,v3,v4,v5 =>
  grd (v5.length<=140737488355328) <|
  bif (decide (v4<((v5.length:Nat):Int))) then (bnd (Xb v5 v4) λ p6 =>
   bif (!p6.Live) then Qbl N a0 a1 n v3 (wI (v4+1)) v5
   else bnd (Xb a1 v3) λ p7 =>
   bif (p7==0) then some (.ret ((Ws.mk [] [] []),1))
   else bnd (Xb a1 v3) λ p8 =>
   bnd (Xb v5 v4) λ p9 =>
   Qbl N a0 a1 n (wI (v3+1)) (wI (v4+1)) (v5.set v4.toNat (UR.mk p9.Stamp p8 p9.Live)))
  else some (.nxt v5)
def Qfm (N:Nat) (a0:Ws) (a1:List Int):Option (Ws×Int):=bnd (QbH N a0) λ y1=>bif (!y1) then some ((Ws.mk [] [] []),1) else bnd (Qb3 N a0) λ y2=>bif (((a1.length:Nat):Int) != ((y2.length:Nat):Int)) then some ((Ws.mk [] [] []),1) else grd (a0.Slots.length*24<=140737488355328) <| bnd (Qbl N a0 a1 N 0 0 a0.Slots) λ e=>exK e (λ r=>some r) λ y10=>some ((Ws.mk y10 a0.Scopes a0.Issued),0)
def Qa0 (N:Nat) (a0:UX) (y4:Wz×List Int×List Int×UL×Int) (y5:List Int) (y6:List Int) (y7:Ws×Int) (y8:WC×Int) (y9:WC×Int):Nat->Int->(List II)->Option (List II)
 | 0,_,_=>none
 | n+1,v10,v11 =>
  bif (decide (v10<((a0.Pins.length:Nat):Int))) then (bnd (Xb y4.2.1 (wI ((wI ((wI (((a0.Roots.length:Nat):Int)+((y5.length:Nat):Int)))+((y6.length:Nat):Int)))+v10))) λ p12 =>
   bnd (Xb a0.Pins v10) λ p13 =>
   grd ((v11.length+1)*16<=140737488355328) <|
   Qa0 N a0 y4 y5 y6 y7 y8 y9 n (wI (v10+1)) (v11++[(II.mk p12 p13.Count)]))
  else some v11
def QcD (N:Nat) (a0:UX):Option (UX×UL×Int):=bnd (QdT N a0) λ y1=>bif (!y1) then some ((UX.mk zHp (Ws.mk [] [] []) (WC.mk []) (WC.mk []) [] []),(UL.mk 0 0 0 0 0 0),19) else bnd (Qep N a0) λ y2=>bnd (Qa4 N a0.Weaks) λ y3=>bnd (Qdv N a0.Heap y2 y3) λ y4=>bif (y4.2.2.2.2 != 0) then some ((UX.mk zHp (Ws.mk [] [] []) (WC.mk []) (WC.mk []) [] []),(UL.mk 0 0 0 0 0 0),y4.2.2.2.2) else bnd (Qb3 N a0.Locals) λ y5=>bnd (Qa4 N a0.Globals) λ y6=>grd (y6.length<=140737488355328) <| grd (0<=0/\0<=((a0.Roots.length:Nat):Int)/\((a0.Roots.length:Nat):Int)<=((y4.2.1.length:Nat):Int)) <| grd ((min (((a0.Roots.length:Nat):Int).toNat) y4.2.1.length)*8<=140737488355328) <| grd (0<=((a0.Roots.length:Nat):Int)/\((a0.Roots.length:Nat):Int)<=(wI (((a0.Roots.length:Nat):Int)+((y5.length:Nat):Int)))/\(wI (((a0.Roots.length:Nat):Int)+((y5.length:Nat):Int)))<=((y4.2.1.length:Nat):Int)) <| bnd (Qfm N a0.Locals ((y4.2.1.drop ((a0.Roots.length:Nat):Int).toNat).take ((wI (((a0.Roots.length:Nat):Int)+((y5.length:Nat):Int))).toNat-((a0.Roots.length:Nat):Int).toNat))) λ y7=>grd (0<=(wI (((a0.Roots.length:Nat):Int)+((y5.length:Nat):Int)))/\(wI (((a0.Roots.length:Nat):Int)+((y5.length:Nat):Int)))<=(wI ((wI (((a0.Roots.length:Nat):Int)+((y5.length:Nat):Int)))+((y6.length:Nat):Int)))/\(wI ((wI (((a0.Roots.length:Nat):Int)+((y5.length:Nat):Int)))+((y6.length:Nat):Int)))<=((y4.2.1.length:Nat):Int)) <| bnd (Qcr N a0.Globals ((y4.2.1.drop (wI (((a0.Roots.length:Nat):Int)+((y5.length:Nat):Int))).toNat).take ((wI ((wI (((a0.Roots.length:Nat):Int)+((y5.length:Nat):Int)))+((y6.length:Nat):Int))).toNat-(wI (((a0.Roots.length:Nat):Int)+((y5.length:Nat):Int))).toNat))) λ y8=>bnd (Qcr N a0.Weaks y4.2.2.1) λ y9=>bnd (Qa0 N a0 y4 y5 y6 y7 y8 y9 N 0 []) λ y14=>some ((UX.mk y4.1 y7.1 y8.1 y9.1 y14 (y4.2.1.take ((a0.Roots.length:Nat):Int).toNat)),y4.2.2.2.1,0)
def Qae (N:Nat) (a0:Int):Option (UX×Int×Int):=some ((UX.mk zHp (Ws.mk [] [] []) (WC.mk []) (WC.mk []) [] []),0,a0)
def QfI (N:Nat) (a0:Ut):Option Int:=bnd (Qav N a0) λ y1=>bif (!y1) then some 0 else some (wI (a0.Pages.tdiv 4))
def QcR (N:Nat) (a0:List W4):Nat->Int->Int->Option Int
 | 0,_,_=>none
 | n+1,v1,v2 =>
  bif (decide (v2<((a0.length:Nat):Int))) then (bnd (Xb a0 v2) λ p3 =>
   bif (p3.Kind != 0) then QcR N a0 n (wI (v1+1)) (wI (v2+1))
   else QcR N a0 n v1 (wI (v2+1)))
  else some v1
def Qgm (N:Nat) (a0:List W4):Option Int:=bnd (QcR N a0 N 0 0) λ y4=>some y4
def QeQ (N:Nat) (a0:Wz) (a1:Int):Option (Wz×Int×Bool):=grd (a0.Pages.length*32<=140737488355328) <| bnd (QfI N a0.Conf) λ y1=>bnd (Qgm N a0.Pages) λ y2=>jn (λ (_:Unit)=>bnd (QdU N a0.Pages 1) λ y5=>bif (decide (y5<0)) then some (zHp,0,false) else bif (decide (y2>=y1)) then some (zHp,0,false) else bnd (QdV N a0.Pages y5 a0.Space) λ y6=>bnd (Xb y6.1 y5) λ p11=>bnd (Xb y6.1 y5) λ p12=>bnd (Xb y6.1 y5) λ p13=>some ((Wz.mk a0.Conf a0.Words (y6.1.set y5.toNat (W4.mk p13.Kind p13.Space (wI (p12.Used+a1)) p13.Pins)) a0.Space y5),(wU (wI ((wI (4096+(wI (y5*a0.Conf.PageWords))))+p11.Used))),true)) λ j1=>bif (decide (a0.Bump<0)) then j1 () else bnd (Xb a0.Pages a0.Bump) λ p3=>bif (p3.Space != a0.Space) then j1 () else bnd (Xb a0.Pages a0.Bump) λ p4=>bif (decide ((wI (p4.Used+a1))>a0.Conf.PageWords)) then j1 () else bif (decide (y2>y1)) then j1 () else bnd (Xb a0.Pages a0.Bump) λ p14=>bnd (Xb a0.Pages a0.Bump) λ p15=>bnd (Xb a0.Pages a0.Bump) λ p16=>some ((Wz.mk a0.Conf a0.Words (a0.Pages.set a0.Bump.toNat (W4.mk p16.Kind p16.Space (wI (p15.Used+a1)) p16.Pins)) a0.Space a0.Bump),(wU (wI ((wI (4096+(wI (a0.Bump*a0.Conf.PageWords))))+p14.Used))),true)
def Qgn (N:Nat) (a0:Ut) (a1:List W4) (a2:Int) (a3:Int) (a4:Int):Option (List W4×Int):=bnd (QeC N a0 a4) λ y1=>bif (decide (y1<1)) then some ([],1) else bif (decide (a3<0)) then some ([],1) else bif (decide (a3>1)) then some ([],1) else bnd (Qga N a1 a2 y1 (W4.mk 2 a3 a4 0) (W4.mk 3 a3 0 0)) λ y2=>some (y2.1,y2.2)
def QeR (N:Nat) (a0:Wz) (a1:Int) (a2:Int):Option (Wz×Int×Bool):=bnd (QdU N a0.Pages a2) λ y1=>bif (decide (y1<0)) then some (zHp,0,false) else bnd (Qgm N a0.Pages) λ y2=>bnd (QfI N a0.Conf) λ y3=>bif (decide ((wI (y2+a2))>y3)) then some (zHp,0,false) else bnd (Qgn N a0.Conf a0.Pages y1 a0.Space a1) λ y4=>some ((Wz.mk a0.Conf a0.Words y4.1 a0.Space a0.Bump),(wU (wI (4096+(wI (y1*a0.Conf.PageWords))))),true)
def Qfn (N:Nat) (a0:Wz) (a1:Int) (a2:WE):Option (Wz×Int):=bnd (Qct N a2) λ y1=>bnd (QaL N a0) λ y2=>bif (!y2) then some (zHp,1) else bif (y1.2 != 0) then some (zHp,1) else grd (0<=a2.Length/\a2.Length.toNat*8<=140737488355328) <| grd ((1+a2.Length.toNat)*8<=140737488355328) <| bnd (Qck N a0.Words a1 ([y1.1]++(List.replicate a2.Length.toNat 0))) λ y3=>bif (y3.2 != 0) then some (zHp,y3.2) else some ((Wz.mk a0.Conf y3.1 a0.Pages a0.Space a0.Bump),0)
def Qfc (N:Nat) (a0:Wz) (a1:WE):Option (Wz×Int×Int):=bnd (QaL N a0) λ y1=>bif (!y1) then some (zHp,0,1) else bnd (QdK N a0.Conf a1) λ y2=>bif (!y2) then some (zHp,0,1) else bnd (Qb5 N a1) λ y3=>bnd (QeC N a0.Conf y3) λ y4=>bnd (QeQ N a0 y3) λ y5=>jn (λ (x7:Int) (x8:Bool) (x9:Int) (x10:Int) (x11:List Int) (x12:List W4) (x13:Int) (x14:Int)=>bif (!x8) then some (zHp,0,3) else bnd (Qfn N (Wz.mk (Ut.mk x9 x10) x11 x12 x13 x14) x7 a1) λ y15=>some (y15.1,x7,0)) λ j1=>bif (decide (y4>0)) then (bnd (QeR N a0 y3 y4) λ y6=>j1 y6.2.1 y6.2.2 y6.1.Conf.PageWords y6.1.Conf.Pages y6.1.Words y6.1.Pages y6.1.Space y6.1.Bump) else j1 y5.2.1 y5.2.2 y5.1.Conf.PageWords y5.1.Conf.Pages y5.1.Words y5.1.Pages y5.1.Space y5.1.Bump
def QeS (N:Nat) (a0:UX) (a1:WE):Option (UX×Int×Int):=bnd (QdT N a0) λ y1=>bif (!y1) then some ((UX.mk zHp (Ws.mk [] [] []) (WC.mk []) (WC.mk []) [] []),0,19) else bnd (Qfc N a0.Heap a1) λ y2=>jn (λ (x5:Int) (x6:Int) (x7:Int) (x8:Int) (x9:List Int) (x10:List W4) (x11:Int) (x12:Int) (x13:List UR) (x14:List UV) (x15:List Int) (x16:List WP) (x17:List WP) (x18:List II) (x19:List Int) (x20:Int) (x21:Int) (x22:List Int) (x23:List W4) (x24:Int) (x25:Int)=>bif (x6 != 0) then some ((UX.mk zHp (Ws.mk [] [] []) (WC.mk []) (WC.mk []) [] []),0,x6) else some ((UX.mk (Wz.mk (Ut.mk x20 x21) x22 x23 x24 x25) (Ws.mk x13 x14 x15) (WC.mk x16) (WC.mk x17) x18 x19),x5,0)) λ j1=>bif (y2.2.2==3) then (bnd (QcD N a0) λ y3=>bif (y3.2.2 != 0) then some ((UX.mk zHp (Ws.mk [] [] []) (WC.mk []) (WC.mk []) [] []),0,y3.2.2) else bnd (Qfc N y3.1.Heap a1) λ y4=>j1 y4.2.1 y4.2.2 y3.1.Heap.Conf.PageWords y3.1.Heap.Conf.Pages y3.1.Heap.Words y3.1.Heap.Pages y3.1.Heap.Space y3.1.Heap.Bump y3.1.Locals.Slots y3.1.Locals.Scopes y3.1.Locals.Issued y3.1.Globals.Entries y3.1.Weaks.Entries y3.1.Pins y3.1.Roots y4.1.Conf.PageWords y4.1.Conf.Pages y4.1.Words y4.1.Pages y4.1.Space y4.1.Bump) else j1 y2.2.1 y2.2.2 a0.Heap.Conf.PageWords a0.Heap.Conf.Pages a0.Heap.Words a0.Heap.Pages a0.Heap.Space a0.Heap.Bump a0.Locals.Slots a0.Locals.Scopes a0.Locals.Issued a0.Globals.Entries a0.Weaks.Entries a0.Pins a0.Roots y2.1.Conf.PageWords y2.1.Conf.Pages y2.1.Words y2.1.Pages y2.1.Space y2.1.Bump
def Qcl (N:Nat) (a0:UX) (a1:Int):Option (UX×Int×Int):=bif (a1==0) then some (a0,0,0) else bnd (QdP N a0.Locals a1) λ y1=>bif (y1.2.2.2 != 0) then (bnd (Qae N y1.2.2.2) λ y2=>some (y2.1,y2.2.1,y2.2.2)) else bnd (QaP N (UI.mk 1 y1.2.1 y1.2.2.1)) λ y3=>some ((UX.mk a0.Heap y1.1 a0.Globals a0.Weaks a0.Pins a0.Roots),y3.1,0)
def Qeq (N:Nat) (a0:UX) (a1:Int) (a2:Int) (a3:Int):Option (UX×Int×Int):=bif (decide (((a0.Pins.length:Nat):Int)>0)) then (bnd (Qae N 15) λ y1=>some (y1.1,y1.2.1,y1.2.2)) else bnd (Qbp N a1 a2 a3) λ y2=>jn (λ (_:Unit)=>bnd (Qae N 1) λ y4=>some (y4.1,y4.2.1,y4.2.2)) λ j1=>bif (!y2.2) then j1 () else bnd (QdK N a0.Heap.Conf y2.1) λ y3=>bif (!y3) then j1 () else bnd (QdP N a0.Locals 1) λ y5=>bif (y5.2.2.2 != 0) then (bnd (Qae N y5.2.2.2) λ y6=>some (y6.1,y6.2.1,y6.2.2)) else bnd (QeS N a0 y2.1) λ y7=>bif (y7.2.2 != 0) then (bnd (Qae N y7.2.2) λ y8=>some (y8.1,y8.2.1,y8.2.2)) else bnd (Qcl N y7.1 y7.2.1) λ y9=>some (y9.1,y9.2.1,y9.2.2)
def QaU (N:Nat) (a0:UX) (a1:Int):Option (Int×Int):=bnd (QdT N a0) λ y1=>bif (!y1) then some (0,19) else bif (a1==0) then some (0,0) else bnd (QbA N a1) λ y2=>bif (y2.2 != 0) then some (0,y2.2) else bif (y2.1.Tag==1) then (bnd (QdQ N a0.Locals y2.1.Index y2.1.Stamp) λ y3=>some (y3.1,y3.2)) else bif (y2.1.Tag==2) then (bnd (Qc1 N a0.Globals y2.1.Index y2.1.Stamp) λ y4=>some (y4.1,y4.2)) else bnd (Qc1 N a0.Weaks y2.1.Index y2.1.Stamp) λ y5=>some (y5.1,y5.2)
def Qcm (N:Nat) (a0:UX) (a1:Int):Option (Int×Int):=bnd (QaU N a0 a1) λ y1=>bif (y1.2==0) then (bif (y1.1==0) then some (0,5) else some (y1.1,y1.2)) else some (y1.1,y1.2)
def QdX (N:Nat) (a0:UX) (a1:Int) (a2:Int) (a3:Bool):Option (Int×Int×Int):=bnd (Qcm N a0 a1) λ y1=>bif (y1.2 != 0) then some (0,0,y1.2) else bnd (Qc3 N a0.Heap y1.1) λ y2=>bif (decide (a2>=(wU y2.1.Length))) then some (0,0,2) else bnd (QbG N y2.1 (wI a2)) λ y3=>bif (!(y3==a3)) then some (0,0,4) else some (y1.1,(wI a2),0)
def QdY (N:Nat) (a0:Wz) (a1:Int) (a2:Int):Option (Int×Int):=bnd (Qc3 N a0 a1) λ y1=>bif (y1.2 != 0) then some (0,y1.2) else bif (decide (a2<0)) then some (0,2) else bif (decide (a2>=y1.1.Length)) then some (0,2) else bnd (QbO N a0.Words (wU ((wU (a1+1))+(wU a2)))) λ y2=>some (y2.1,y2.2)
def Qcg (N:Nat) (a0:Wz) (a1:Int) (a2:Int) (a3:Int):Option (Wz×Int):=bnd (QdY N a0 a1 a2) λ y1=>bif (y1.2 != 0) then some (zHp,y1.2) else bnd (QcY N a0.Words (wU ((wU (a1+1))+(wU a2))) a3) λ y2=>some ((Wz.mk a0.Conf y2.1 a0.Pages a0.Space a0.Bump),0)
def QeT (N:Nat) (a0:UX) (a1:Int) (a2:Int) (a3:Int) (a4:Int):Option (UX×Int×Int):=jn (λ (x3:Int) (x4:Int) (x5:Int)=>bif (x5 != 0) then (bnd (Qae N x5) λ y6=>some (y6.1,y6.2.1,y6.2.2)) else bnd (QdY N a0.Heap x3 x4) λ y7=>bif (a1==6) then some (a0,y7.1,0) else bif (a1==8) then (bnd (Qcl N a0 y7.1) λ y8=>some (y8.1,y8.2.1,y8.2.2)) else jn (λ (x11:Int)=>bnd (Qcg N a0.Heap x3 x4 x11) λ y12=>some ((UX.mk y12.1 a0.Locals a0.Globals a0.Weaks a0.Pins a0.Roots),0,0)) λ j2=>bif (a1==9) then (bnd (QaU N a0 a4) λ y9=>bif (y9.2 != 0) then (bnd (Qae N y9.2) λ y10=>some (y10.1,y10.2.1,y10.2.2)) else j2 y9.1) else j2 a4) λ j1=>bif (a1==8) then (bnd (QdX N a0 a2 a3 true) λ y1=>j1 y1.1 y1.2.1 y1.2.2) else bnd (QdX N a0 a2 a3 (a1==9)) λ y2=>j1 y2.1 y2.2.1 y2.2.2
def QeU (N:Nat) (a0:UX) (a1:Int) (a2:Int) (a3:Int):Option (UX×Int×Int):=jn (λ (x1:Bool)=>bif x1 then (bnd (Qcm N a0 a2) λ y2=>bif (y2.2 != 0) then (bnd (Qae N y2.2) λ y3=>some (y3.1,y3.2.1,y3.2.2)) else bnd (Qc3 N a0.Heap y2.1) λ y4=>bif (a1==4) then some (a0,(wU y4.1.Length),0) else some (a0,(wU y4.1.Kind),0)) else bif (a1==10) then (bnd (QaU N a0 a2) λ y5=>bif (y5.2 != 0) then (bnd (Qae N y5.2) λ y6=>some (y6.1,y6.2.1,y6.2.2)) else bnd (QaU N a0 a3) λ y7=>bif (y7.2 != 0) then (bnd (Qae N y7.2) λ y8=>some (y8.1,y8.2.1,y8.2.2)) else bif (y5.1==y7.1) then some (a0,1,0) else some (a0,0,0)) else bnd (QaU N a0 a2) λ y9=>bif (y9.2 != 0) then (bnd (Qae N y9.2) λ y10=>some (y10.1,y10.2.1,y10.2.2)) else bnd (Qcl N a0 y9.1) λ y11=>some (y11.1,y11.2.1,y11.2.2)) λ j1=>bif (a1==4) then j1 true else j1 (a1==5)
def Qdw (N:Nat) (a0:UX) (a1:Int) (a2:Int):Option (UX×Int×Int):=bnd (Qcm N a0 a2) λ y1=>bif (y1.2 != 0) then (bnd (Qae N y1.2) λ y2=>some (y2.1,y2.2.1,y2.2.2)) else jn (λ (x3:Int) (x4:List WP)=>bnd (QbZ N (WC.mk x4) y1.1) λ y5=>bif (y5.2.2.2 != 0) then (bnd (Qae N y5.2.2.2) λ y6=>some (y6.1,y6.2.1,y6.2.2)) else jn (λ (x7:List WP) (x8:List WP)=>bnd (QaP N (UI.mk x3 y5.2.1 y5.2.2.1)) λ y9=>some ((UX.mk a0.Heap a0.Locals (WC.mk x7) (WC.mk x8) a0.Pins a0.Roots),y9.1,0)) λ j2=>bif (a1==15) then j2 a0.Globals.Entries y5.1.Entries else j2 y5.1.Entries a0.Weaks.Entries) λ j1=>bif (a1==15) then j1 3 a0.Weaks.Entries else j1 2 a0.Globals.Entries
def Qer (N:Nat) (a0:UX) (a1:Int) (a2:Int):Option (UX×Int×Int):=bif (a2==0) then (bnd (Qae N 5) λ y1=>some (y1.1,y1.2.1,y1.2.2)) else bnd (QaU N a0 a2) λ y2=>bif (y2.2 != 0) then (bnd (Qae N y2.2) λ y3=>some (y3.1,y3.2.1,y3.2.2)) else bnd (QbA N a2) λ y4=>jn (λ (_:Unit)=>bif (a1==12) then (bnd (Qc2 N a0.Locals y4.1.Index y4.1.Stamp) λ y6=>some ((UX.mk a0.Heap y6.1 a0.Globals a0.Weaks a0.Pins a0.Roots),0,0)) else bif (a1==14) then (bnd (Qb1 N a0.Globals y4.1.Index y4.1.Stamp) λ y7=>some ((UX.mk a0.Heap a0.Locals y7.1 a0.Weaks a0.Pins a0.Roots),0,0)) else bnd (Qb1 N a0.Weaks y4.1.Index y4.1.Stamp) λ y8=>some ((UX.mk a0.Heap a0.Locals a0.Globals y8.1 a0.Pins a0.Roots),0,0)) λ j2=>jn (λ (_:Unit)=>bnd (Qae N 4) λ y5=>some (y5.1,y5.2.1,y5.2.2)) λ j1=>bif (a1==12) then (bif (y4.1.Tag != 1) then j1 () else bif (a1==14) then (bif (y4.1.Tag != 2) then j1 () else bif (a1==16) then (bif (y4.1.Tag != 3) then j1 () else j2 ()) else j2 ()) else bif (a1==16) then (bif (y4.1.Tag != 3) then j1 () else j2 ()) else j2 ()) else bif (a1==14) then (bif (y4.1.Tag != 2) then j1 () else bif (a1==16) then (bif (y4.1.Tag != 3) then j1 () else j2 ()) else j2 ()) else bif (a1==16) then (bif (y4.1.Tag != 3) then j1 () else j2 ()) else j2 ()
def Qes (N:Nat) (a0:UX) (a1:Int) (a2:Int):Option (UX×Int×Int):=bif (a1==17) then (bif (decide (a2>64)) then (bnd (Qae N 1) λ y1=>some (y1.1,y1.2.1,y1.2.2)) else bnd (QdL N a0.Locals (wI a2)) λ y2=>bif (y2.2 != 0) then (bnd (Qae N y2.2) λ y3=>some (y3.1,y3.2.1,y3.2.2)) else some ((UX.mk a0.Heap y2.1 a0.Globals a0.Weaks a0.Pins a0.Roots),0,0)) else bnd (QaU N a0 a2) λ y4=>bif (y4.2 != 0) then (bnd (Qae N y4.2) λ y5=>some (y5.1,y5.2.1,y5.2.2)) else bnd (QeD N a0.Locals) λ y6=>bif (y6.2 != 0) then (bnd (Qae N y6.2) λ y7=>some (y7.1,y7.2.1,y7.2.2)) else bnd (Qcl N (UX.mk a0.Heap y6.1 a0.Globals a0.Weaks a0.Pins a0.Roots) y4.1) λ y8=>some (y8.1,y8.2.1,y8.2.2)
def Qcn (N:Nat) (a0:Wz) (a1:Int) (a2:Int):Option Wz:=grd (a0.Pages.length*32<=140737488355328) <| bnd (Qfh N a0 a1) λ y1=>bnd (Xb a0.Pages y1) λ p2=>bnd (Xb a0.Pages y1) λ p3=>some (Wz.mk a0.Conf a0.Words (a0.Pages.set y1.toNat (W4.mk p3.Kind p3.Space p3.Used (wI (p2.Pins+a2)))) a0.Space a0.Bump)
def Qdx (N:Nat) (a0:Wz) (a1:List II) (a2:Int):Option (Wz×List II×Int):=bnd (QeM N a0 a1) λ y1=>bif (!y1) then some (zHp,[],19) else bif (a2==0) then some (zHp,[],5) else bnd (Qgq N a1 a2) λ y2=>bif (decide (y2<0)) then some (zHp,[],12) else grd (a1.length*16<=140737488355328) <| bnd (Xb a1 y2) λ p3=>bnd (Xb a1 y2) λ p4=>bnd (Xb (a1.set y2.toNat (II.mk p4.Ref (wI (p3.Count-1)))) y2) λ p5=>bif (p5.Count==0) then (grd (0<=0/\0<=y2/\y2<=((a1.length:Nat):Int)) <| grd (0<=(wI (y2+1))/\(wI (y2+1))<=((a1.length:Nat):Int)/\((a1.length:Nat):Int)<=((a1.length:Nat):Int)) <| grd (y2.toNat≠a1.length/\(y2.toNat+(a1.length-(wI (y2+1)).toNat))<=a1.length) <| bnd (Qcn N a0 a2 (-1)) λ y7=>some (y7,(((((a1.set y2.toNat (II.mk p4.Ref (wI (p3.Count-1)))).take y2.toNat)++(((a1.set y2.toNat (II.mk p4.Ref (wI (p3.Count-1)))).drop (wI (y2+1)).toNat).take (a1.length-(wI (y2+1)).toNat)))++((a1.set y2.toNat (II.mk p4.Ref (wI (p3.Count-1)))).drop (y2.toNat+(a1.length-(wI (y2+1)).toNat)))).take (y2.toNat+(a1.length-(wI (y2+1)).toNat))),0)) else bnd (Qcn N a0 a2 (-1)) λ y8=>some (y8,(a1.set y2.toNat (II.mk p4.Ref (wI (p3.Count-1)))),0)
def Qd7 (N:Nat) (a0:Wz) (a1:Int):Option Bool:=bnd (Qbk N a0) λ y1=>bnd (Qcd N y1.1 a1) λ y2=>some y2
def QbC (N:Nat) (a0:Wz) (a1:Int):Nat->Int->Int->Option Int
 | 0,_,_=>none
 | n+1,v3,v4 =>
  bif (decide (v4<((a0.Pages.length:Nat):Int))) then (bnd (Xb a0.Pages v4) λ p5 =>
   bif (p5.Kind==1) then (bnd (Xb a0.Pages v4) λ p6 =>
    bif (decide (p6.Pins>0)) then QbC N a0 a1 n (wI (v3+1)) (wI (v4+1))
    else QbC N a0 a1 n v3 (wI (v4+1)))
   else QbC N a0 a1 n v3 (wI (v4+1)))
  else some v3
def QcE (N:Nat) (a0:Wz) (a1:Int):Option Bool:=bnd (QeF N a0) λ y1=>bif (!y1) then some false else bnd (Qd7 N a0 a1) λ y2=>bif (!y2) then some false else bnd (QbC N a0 a1 N 0 0) λ y7=>bnd (Qfh N a0 a1) λ y8=>bnd (Xb a0.Pages y8) λ p9=>bif (p9.Kind==1) then (bif (p9.Pins==0) then some (decide (y7>=(wI (a0.Conf.Pages.tdiv 4)))) else some false) else some false
def QfY (N:Nat) (a0:Wz) (a1:List II) (a2:Int):Option (Wz×List II×Int×Int):=bnd (QeM N a0 a1) λ y1=>bif (!y1) then some (zHp,[],0,19) else bif (a2==0) then some (zHp,[],0,5) else bnd (Qd7 N a0 a2) λ y2=>bif (!y2) then some (zHp,[],0,1) else bnd (Qgq N a1 a2) λ y3=>jn (λ (_:Unit)=>grd (a1.length*16<=140737488355328) <| jn (λ (x11:List II)=>bnd (Qcn N a0 a2 1) λ y12=>some (y12,x11,(wU (a2+1)),0)) λ j2=>bif (decide (y3>=0)) then (bnd (Xb a1 y3) λ p9=>bnd (Xb a1 y3) λ p10=>j2 (a1.set y3.toNat (II.mk p10.Ref (wI (p9.Count+1))))) else grd ((a1.length+1)*16<=140737488355328) <| j2 (a1++[(II.mk a2 1)])) λ j1=>bif (decide (y3>=0)) then (bnd (Xb a1 y3) λ p4=>bif (p4.Count==1000) then some (zHp,[],0,18) else bif (decide (y3<0)) then (bif (((a1.length:Nat):Int)==64) then some (zHp,[],0,18) else bnd (QcE N a0 a2) λ y5=>bif y5 then some (zHp,[],0,18) else j1 ()) else bnd (QcE N a0 a2) λ y6=>bif y6 then some (zHp,[],0,18) else j1 ()) else bif (decide (y3<0)) then (bif (((a1.length:Nat):Int)==64) then some (zHp,[],0,18) else bnd (QcE N a0 a2) λ y7=>bif y7 then some (zHp,[],0,18) else j1 ()) else bnd (QcE N a0 a2) λ y8=>bif y8 then some (zHp,[],0,18) else j1 ()
def Qfo (N:Nat) (a0:UX) (a1:Int) (a2:Int):Option (UX×Int×Int):=bnd (Qcm N a0 a2) λ y1=>bif (y1.2 != 0) then (bnd (Qae N y1.2) λ y2=>some (y2.1,y2.2.1,y2.2.2)) else bif (a1==20) then (bnd (Qdx N a0.Heap a0.Pins y1.1) λ y3=>bif (y3.2.2 != 0) then (bnd (Qae N y3.2.2) λ y4=>some (y4.1,y4.2.1,y4.2.2)) else some ((UX.mk y3.1 a0.Locals a0.Globals a0.Weaks y3.2.1 a0.Roots),0,0)) else bnd (QfY N a0.Heap a0.Pins y1.1) λ y5=>bif (y5.2.2.2 != 0) then (bnd (Qae N y5.2.2.2) λ y6=>some (y6.1,y6.2.1,y6.2.2)) else some ((UX.mk y5.1 a0.Locals a0.Globals a0.Weaks y5.2.1 a0.Roots),y5.2.2.1,0)
def Qfp (N:Nat) (a0:UX) (a1:Int) (a2:Int) (a3:Int) (a4:Int):Option (UX×Int×Int):=bnd (QdT N a0) λ y1=>bif (!y1) then (bnd (Qae N 19) λ y2=>some (y2.1,y2.2.1,y2.2.2)) else jn (λ (x4:Bool)=>bif x4 then (bnd (Qeq N a0 a1 a2 a3) λ y5=>some (y5.1,y5.2.1,y5.2.2)) else jn (λ (x8:Bool)=>bif x8 then (bnd (QeT N a0 a1 a2 a3 a4) λ y9=>some (y9.1,y9.2.1,y9.2.2)) else jn (λ (x12:Bool)=>bif x12 then (bnd (QeU N a0 a1 a2 a3) λ y13=>some (y13.1,y13.2.1,y13.2.2)) else jn (λ (x14:Bool)=>bif x14 then (bnd (Qdw N a0 a1 a2) λ y15=>some (y15.1,y15.2.1,y15.2.2)) else jn (λ (x17:Bool)=>bif x17 then (bnd (Qer N a0 a1 a2) λ y18=>some (y18.1,y18.2.1,y18.2.2)) else jn (λ (x19:Bool)=>bif x19 then (bnd (Qes N a0 a1 a2) λ y20=>some (y20.1,y20.2.1,y20.2.2)) else jn (λ (x21:Bool)=>bif x21 then (bnd (Qfo N a0 a1 a2) λ y22=>some (y22.1,y22.2.1,y22.2.2)) else bnd (Qae N 1) λ y23=>some (y23.1,y23.2.1,y23.2.2)) λ j13=>bif (a1==19) then j13 true else j13 (a1==20)) λ j12=>bif (a1==17) then j12 true else j12 (a1==18)) λ j11=>bif (a1==12) then j11 true else jn (λ (x16:Bool)=>j11 x16) λ j10=>bif (a1==14) then j10 true else j10 (a1==16)) λ j9=>bif (a1==13) then j9 true else j9 (a1==15)) λ j8=>bif (a1==4) then j8 true else jn (λ (x11:Bool)=>j8 x11) λ j7=>bif (a1==5) then j7 true else jn (λ (x10:Bool)=>j7 x10) λ j6=>bif (a1==10) then j6 true else j6 (a1==11)) λ j5=>bif (a1==6) then j5 true else jn (λ (x7:Bool)=>j5 x7) λ j4=>bif (a1==7) then j4 true else jn (λ (x6:Bool)=>j4 x6) λ j3=>bif (a1==8) then j3 true else j3 (a1==9)) λ j2=>bif (a1==1) then j2 true else jn (λ (x3:Bool)=>j2 x3) λ j1=>bif (a1==2) then j1 true else j1 (a1==3)
def Qcv (N:Nat) (a0:IL) (a1:I4):Option (IL×Int×Int):=bif (a1.Op==0) then (bnd (QcD N a0.Env) λ y1=>jn (λ (x3:Int) (x4:Int) (x5:List Int) (x6:List W4) (x7:Int) (x8:Int) (x9:List UR) (x10:List UV) (x11:List Int) (x12:List WP) (x13:List WP) (x14:List II) (x15:List Int) (x16:Int) (x17:Int) (x18:List W5) (x19:List UR) (x20:List UV) (x21:List Int) (x22:List WP) (x23:List WP) (x24:List Uz) (x25:List Int)=>some ((IL.mk (UX.mk (Wz.mk (Ut.mk x3 x4) x5 x6 x7 x8) (Ws.mk x9 x10 x11) (WC.mk x12) (WC.mk x13) x14 x15) (Wm.mk (Ut.mk x16 x17) x18 (Ws.mk x19 x20 x21) (WC.mk x22) (WC.mk x23) x24 x25) a0.Words),0,0)) λ j1=>bif (y1.2.2==0) then (bnd (QbI N a0.World) λ y2=>j1 y1.1.Heap.Conf.PageWords y1.1.Heap.Conf.Pages y1.1.Heap.Words y1.1.Heap.Pages y1.1.Heap.Space y1.1.Heap.Bump y1.1.Locals.Slots y1.1.Locals.Scopes y1.1.Locals.Issued y1.1.Globals.Entries y1.1.Weaks.Entries y1.1.Pins y1.1.Roots y2.1.Conf.PageWords y2.1.Conf.Pages y2.1.Things y2.1.Locals.Slots y2.1.Locals.Scopes y2.1.Locals.Issued y2.1.Globals.Entries y2.1.Weaks.Entries y2.1.Marks y2.1.Roots) else j1 a0.Env.Heap.Conf.PageWords a0.Env.Heap.Conf.Pages a0.Env.Heap.Words a0.Env.Heap.Pages a0.Env.Heap.Space a0.Env.Heap.Bump a0.Env.Locals.Slots a0.Env.Locals.Scopes a0.Env.Locals.Issued a0.Env.Globals.Entries a0.Env.Weaks.Entries a0.Env.Pins a0.Env.Roots a0.World.Conf.PageWords a0.World.Conf.Pages a0.World.Things a0.World.Locals.Slots a0.World.Locals.Scopes a0.World.Locals.Issued a0.World.Globals.Entries a0.World.Weaks.Entries a0.World.Marks a0.World.Roots) else bnd (Qfp N a0.Env a1.Op a1.A a1.B a1.C) λ y26=>bnd (Qdr N a0.Env y26.1 a1.Op y26.2.1 y26.2.2) λ y27=>bnd (Qaa N a0.World a1.Op a1.A a1.B a1.C y27) λ y28=>jn (λ (x29:Int) (x30:Int) (x31:List W5) (x32:List UR) (x33:List UV) (x34:List Int) (x35:List WP) (x36:List WP) (x37:List Uz) (x38:List Int)=>bif (y26.2.2==0) then (bif (y26.2.1 != 0) then (grd (a0.Words.length*8<=140737488355328) <| grd ((a0.Words.length+1)*8<=140737488355328) <| some ((IL.mk y26.1 (Wm.mk (Ut.mk x29 x30) x31 (Ws.mk x32 x33 x34) (WC.mk x35) (WC.mk x36) x37 x38) (a0.Words++[y26.2.1])),y26.2.1,y26.2.2)) else some ((IL.mk y26.1 (Wm.mk (Ut.mk x29 x30) x31 (Ws.mk x32 x33 x34) (WC.mk x35) (WC.mk x36) x37 x38) a0.Words),y26.2.1,y26.2.2)) else some ((IL.mk a0.Env (Wm.mk (Ut.mk x29 x30) x31 (Ws.mk x32 x33 x34) (WC.mk x35) (WC.mk x36) x37 x38) a0.Words),y26.2.1,y26.2.2)) λ j2=>bif (y28.2.2==0) then j2 y28.1.Conf.PageWords y28.1.Conf.Pages y28.1.Things y28.1.Locals.Slots y28.1.Locals.Scopes y28.1.Locals.Issued y28.1.Globals.Entries y28.1.Weaks.Entries y28.1.Marks y28.1.Roots else j2 a0.World.Conf.PageWords a0.World.Conf.Pages a0.World.Things a0.World.Locals.Slots a0.World.Locals.Scopes a0.World.Locals.Issued a0.World.Globals.Entries a0.World.Weaks.Entries a0.World.Marks a0.World.Roots
def Qe2 (N:Nat) (a1:Int):Nat->Int->(List Int)->Int->Int->Int->(List Int)->(List W4)->Int->Int->(List UR)->(List UV)->(List Int)->(List WP)->(List WP)->(List II)->(List Int)->Int->Int->(List W5)->(List UR)->(List UV)->(List Int)->(List WP)->(List WP)->(List Uz)->(List Int)->(List Int)->Option (Int×Int×List Int×List W4×Int×Int×List UR×List UV×List Int×List WP×List WP×List II×List Int×Int×Int×List W5×List UR×List UV×List Int×List WP×List WP×List Uz×List Int×List Int)
 | 0,_,_,_,_,_,_,_,_,_,_,_,_,_,_,_,_,_,_,_,_,_,_,_,_,_,_,_=>none
 | n+1,v2,v3,v4,v5,v6,v7,v8,v9,v10,v11,v12,v13,v14,v15,v16,v17,v18,v19,v20,v21,v22,v23,v24,v25,v26,v27,v28 =>
  bif (decide (v2<a1)) then (bnd (Qf6 N (Ir.mk v3 v4)) λ y29 =>
   bif (!y29) then (bnd (QbN N (IL.mk (UX.mk (Wz.mk (Ut.mk v5 v6) v7 v8 v9 v10) (Ws.mk v11 v12 v13) (WC.mk v14) (WC.mk v15) v16 v17) (Wm.mk (Ut.mk v18 v19) v20 (Ws.mk v21 v22 v23) (WC.mk v24) (WC.mk v25) v26 v27) v28) (Ir.mk v3 v4)) λ y30 =>
    bnd (Qcv N (IL.mk (UX.mk (Wz.mk (Ut.mk v5 v6) v7 v8 v9 v10) (Ws.mk v11 v12 v13) (WC.mk v14) (WC.mk v15) v16 v17) (Wm.mk (Ut.mk v18 v19) v20 (Ws.mk v21 v22 v23) (WC.mk v24) (WC.mk v25) v26 v27) v28) y30.1) λ y31 =>
    Qe2 N a1 n (wI (v2+1)) y30.2.L y30.2.at_ y31.1.Env.Heap.Conf.PageWords y31.1.Env.Heap.Conf.Pages y31.1.Env.Heap.Words y31.1.Env.Heap.Pages y31.1.Env.Heap.Space y31.1.Env.Heap.Bump y31.1.Env.Locals.Slots y31.1.Env.Locals.Scopes y31.1.Env.Locals.Issued y31.1.Env.Globals.Entries y31.1.Env.Weaks.Entries y31.1.Env.Pins y31.1.Env.Roots y31.1.World.Conf.PageWords y31.1.World.Conf.Pages y31.1.World.Things y31.1.World.Locals.Slots y31.1.World.Locals.Scopes y31.1.World.Locals.Issued y31.1.World.Globals.Entries y31.1.World.Weaks.Entries y31.1.World.Marks y31.1.World.Roots y31.1.Words)
   else some (v5,v6,v7,v8,v9,v10,v11,v12,v13,v14,v15,v16,v17,v18,v19,v20,v21,v22,v23,v24,v25,v26,v27,v28))
  else some (v5,v6,v7,v8,v9,v10,v11,v12,v13,v14,v15,v16,v17,v18,v19,v20,v21,v22,v23,v24,v25,v26,v27,v28)
def QfZ (N:Nat) (a0:List Int) (a1:Int):Option IL:=bnd (QbX N (Ir.mk a0 0)) λ y1=>bnd (Qe2 N a1 N 0 y1.2.L y1.2.at_ y1.1.Env.Heap.Conf.PageWords y1.1.Env.Heap.Conf.Pages y1.1.Env.Heap.Words y1.1.Env.Heap.Pages y1.1.Env.Heap.Space y1.1.Env.Heap.Bump y1.1.Env.Locals.Slots y1.1.Env.Locals.Scopes y1.1.Env.Locals.Issued y1.1.Env.Globals.Entries y1.1.Env.Weaks.Entries y1.1.Env.Pins y1.1.Env.Roots y1.1.World.Conf.PageWords y1.1.World.Conf.Pages y1.1.World.Things y1.1.World.Locals.Slots y1.1.World.Locals.Scopes y1.1.World.Locals.Issued y1.1.World.Globals.Entries y1.1.World.Weaks.Entries y1.1.World.Marks y1.1.World.Roots y1.1.Words) λ y32=>some (IL.mk (UX.mk (Wz.mk (Ut.mk y32.1 y32.2.1) y32.2.2.1 y32.2.2.2.1 y32.2.2.2.2.1 y32.2.2.2.2.2.1) (Ws.mk y32.2.2.2.2.2.2.1 y32.2.2.2.2.2.2.2.1 y32.2.2.2.2.2.2.2.2.1) (WC.mk y32.2.2.2.2.2.2.2.2.2.1) (WC.mk y32.2.2.2.2.2.2.2.2.2.2.1) y32.2.2.2.2.2.2.2.2.2.2.2.1 y32.2.2.2.2.2.2.2.2.2.2.2.2.1) (Wm.mk (Ut.mk y32.2.2.2.2.2.2.2.2.2.2.2.2.2.1 y32.2.2.2.2.2.2.2.2.2.2.2.2.2.2.1) y32.2.2.2.2.2.2.2.2.2.2.2.2.2.2.2.1 (Ws.mk y32.2.2.2.2.2.2.2.2.2.2.2.2.2.2.2.2.1 y32.2.2.2.2.2.2.2.2.2.2.2.2.2.2.2.2.2.1 y32.2.2.2.2.2.2.2.2.2.2.2.2.2.2.2.2.2.2.1) (WC.mk y32.2.2.2.2.2.2.2.2.2.2.2.2.2.2.2.2.2.2.2.1) (WC.mk y32.2.2.2.2.2.2.2.2.2.2.2.2.2.2.2.2.2.2.2.2.1) y32.2.2.2.2.2.2.2.2.2.2.2.2.2.2.2.2.2.2.2.2.2.1 y32.2.2.2.2.2.2.2.2.2.2.2.2.2.2.2.2.2.2.2.2.2.2.1) y32.2.2.2.2.2.2.2.2.2.2.2.2.2.2.2.2.2.2.2.2.2.2.2)
def Qfq (N:Nat) (a0:Wm) (a1:Ir):Option (Wm×Ir):=bnd (Qab N a1 6) λ y1=>bif (y1.1==0) then (grd (a0.Roots.length*8<=140737488355328) <| bnd (Qab N y1.2 9) λ y2=>grd ((a0.Roots.length+1)*8<=140737488355328) <| some ((Wm.mk a0.Conf a0.Things a0.Locals a0.Globals a0.Weaks a0.Marks (a0.Roots++[(wU y2.1)])),y2.2)) else bif (y1.1==1) then (bif (decide (((a0.Things.length:Nat):Int)>0)) then (grd (a0.Things.length*48<=140737488355328) <| bnd (Qab N y1.2 ((a0.Things.length:Nat):Int)) λ y3=>bnd (Qab N y3.2 5) λ y4=>bnd (Xb a0.Things y3.1) λ p5=>some ((Wm.mk a0.Conf (a0.Things.set y3.1.toNat (W5.mk (WE.mk y4.1 p5.Header.Length p5.Header.Map) p5.Fields)) a0.Locals a0.Globals a0.Weaks a0.Marks a0.Roots),y4.2)) else some (a0,y1.2)) else bif (y1.1==2) then (grd (a0.Marks.length*24<=140737488355328) <| bnd (Qab N y1.2 6) λ y6=>bnd (Qab N y6.2 3) λ y7=>bnd (Qab N y7.2 3) λ y8=>grd ((a0.Marks.length+1)*24<=140737488355328) <| some ((Wm.mk a0.Conf a0.Things a0.Locals a0.Globals a0.Weaks (a0.Marks++[(Uz.mk (wU y6.1) y7.1 (wU ((wU y8.1)*9223372036854775807)))]) a0.Roots),y8.2)) else bif (y1.1==3) then (grd (a0.Weaks.Entries.length*24<=140737488355328) <| bnd (Qab N y1.2 9) λ y9=>grd ((a0.Weaks.Entries.length+1)*24<=140737488355328) <| some ((Wm.mk a0.Conf a0.Things a0.Locals a0.Globals (WC.mk (a0.Weaks.Entries++[(WP.mk 1 (wU y9.1) true)])) a0.Marks a0.Roots),y9.2)) else bif (y1.1==4) then (bnd (Qab N y1.2 80) λ y10=>some ((Wm.mk (Ut.mk a0.Conf.PageWords y10.1) a0.Things a0.Locals a0.Globals a0.Weaks a0.Marks a0.Roots),y10.2)) else bif (decide (((a0.Things.length:Nat):Int)>0)) then (grd (0<=0/\0<=(wI (((a0.Things.length:Nat):Int)-1))/\(wI (((a0.Things.length:Nat):Int)-1))<=((a0.Things.length:Nat):Int)) <| some ((Wm.mk a0.Conf (a0.Things.take (wI (((a0.Things.length:Nat):Int)-1)).toNat) a0.Locals a0.Globals a0.Weaks a0.Marks a0.Roots),y1.2)) else some (a0,y1.2)
def Qch (N:Nat) (a0:Wm):Nat->Int->Option (Ex Bool Unit)
 | 0,_=>none
 | n+1,v1 =>
  bif (decide (v1<((a0.Things.length:Nat):Int))) then (bnd (Xb a0.Things v1) λ p2 =>
   bif (decide (((p2.Fields.length:Nat):Int)>300)) then some (.ret false)
   else Qch N a0 n (wI (v1+1)))
  else some (.nxt ())
def QeH (N:Nat) (a0:Wm):Option Bool:=bnd (Qch N a0 N 0) λ e=>exK e (λ r=>some r) λ y3=>bif (decide (((a0.Things.length:Nat):Int)<=100)) then (bif (decide (((a0.Locals.Slots.length:Nat):Int)<=200)) then (bif (decide (((a0.Locals.Scopes.length:Nat):Int)<=100)) then (bif (decide (((a0.Locals.Issued.length:Nat):Int)<=5000)) then (bif (decide (((a0.Globals.Entries.length:Nat):Int)<=200)) then (bif (decide (((a0.Weaks.Entries.length:Nat):Int)<=200)) then (bif (decide (((a0.Marks.length:Nat):Int)<=100)) then some (decide (((a0.Roots.length:Nat):Int)<=100)) else some false) else some false) else some false) else some false) else some false) else some false) else some false
def Qf0 (N:Nat) (a0:Wm) (a1:List Int) (a2:List Int):Option (List Wm):=bnd (QfZ N a1 60) λ y1=>bnd (Qfq N y1.World (Ir.mk a2 0)) λ y2=>bnd (QeH N a0) λ y3=>bif y3 then some [y1.World,y2.1,a0] else some [y1.World,y2.1]
def QbP (N:Nat) (a0:Ut):Option Bool:=bif (decide (a0.PageWords>=16)) then (bif (decide (a0.PageWords<=64)) then (bif ((a0.PageWords.tmod 4)==0) then (bif (decide (a0.Pages>=8)) then some (decide (a0.Pages<=64)) else some false) else some false) else some false) else some false
def Qa2 (N:Nat) (a1:Int):Option (List Int):=bif (decide (a1<0)) then none else bif (decide ((wI (a1-(wI 0)))>0)) then (grd (0=0/\0=0) <| grd (0<=(wI (a1-(wI 0)))/\(wI (a1-(wI 0))).toNat*8<=140737488355328) <| grd ((wI (a1-(wI 0))).toNat*8<=140737488355328) <| grd (0<=0/\0<=0/\0<=(((wI (a1-(wI 0))).toNat:Nat):Int)) <| some ((List.replicate (wI (a1-(wI 0))).toNat 0).take 0)) else some []
def QaG (N:Nat) (a0:List (List Int)):Nat->Int->Int->Option Int
 | 0,_,_=>none
 | n+1,v1,v2 =>
  bif (decide (v2<((a0.length:Nat):Int))) then (bnd (Xb a0 v2) λ p3 =>
   bif (decide ((wI (v1+((p3.length:Nat):Int)))<0)) then none
   else QaG N a0 n (wI (v1+((p3.length:Nat):Int))) (wI (v2+1)))
  else some v1
def QaH (N:Nat) (a0:List (List Int)):Nat->Int->(List Int)->Option (List Int)
 | 0,_,_=>none
 | n+1,v6,v7 =>
  bif (decide (v6<((a0.length:Nat):Int))) then (bnd (Xb a0 v6) λ p8 =>
   grd ((v7.length+p8.length)*8<=140737488355328) <|
   QaH N a0 n (wI (v6+1)) (v7++p8))
  else some v7
def QaD (N:Nat) (a0:List (List Int)):Option (List Int):=bnd (QaG N a0 N 0 0) λ y4=>bnd (Qa2 N y4) λ y5=>bnd (QaH N a0 N 0 y5) λ y9=>some y9
def QaC (N:Nat) (a0:IP):Nat->Int->Int->Option (Ex Bool Unit)
 | 0,_,_=>none
 | n+1,v1,v2 =>
  bif (decide (v2<((a0.Locals.Scopes.length:Nat):Int))) then (bnd (Xb a0.Locals.Scopes v2) λ p3 =>
   bif (v2==0) then (bif (p3.From != 0) then some (.ret false)
    else bif (!p3.Base) then some (.ret false)
    else bif (decide (p3.From<v1)) then some (.ret false)
    else bif (decide (p3.From>((a0.Locals.Slots.length:Nat):Int))) then some (.ret false)
    else bif (decide (p3.Cap<0)) then some (.ret false)
    else bif (decide (p3.Cap>64)) then some (.ret false)
    else QaC N a0 n p3.From (wI (v2+1)))
   else bif (decide (p3.From<v1)) then some (.ret false)
   else bif (decide (p3.From>((a0.Locals.Slots.length:Nat):Int))) then some (.ret false)
   else bif (decide (p3.Cap<0)) then some (.ret false)
   else bif (decide (p3.Cap>64)) then some (.ret false)
   else QaC N a0 n p3.From (wI (v2+1)))
  else some (.nxt ())
def QcJ (N:Nat) (a0:IP):Option Bool:=jn (λ (_:Unit)=>bnd (QaC N a0 N 0 0) λ e=>exK e (λ r=>some r) λ y4=>some true) λ j1=>bif (decide (((a0.Locals.Scopes.length:Nat):Int)>64)) then some false else bif (((a0.Locals.Scopes.length:Nat):Int)==0) then (bif (decide (((a0.Locals.Slots.length:Nat):Int)>0)) then some false else j1 ()) else j1 ()
def QaK (N:Nat) (a0:IP):Nat->Int->Int->Option (Ex Bool Unit)
 | 0,_,_=>none
 | n+1,v1,v2 =>
  bif (decide (v2<((a0.Locals.Slots.length:Nat):Int))) then (bnd (Xb a0.Locals.Slots v2) λ p3 =>
   bif (decide (p3.Stamp<=v1)) then some (.ret false)
   else bif (decide (p3.Stamp>((a0.Locals.Issued.length:Nat):Int))) then some (.ret false)
   else bnd (Xb a0.Locals.Issued (wI (p3.Stamp-1))) λ p4 =>
   bif (p4 != v2) then some (.ret false)
   else bif (p3.Live==(p3.Ref==0)) then some (.ret false)
   else QaK N a0 n p3.Stamp (wI (v2+1)))
  else some (.nxt ())
def Qcw (N:Nat) (a0:IP):Option Bool:=bnd (QaK N a0 N 0 0) λ e=>exK e (λ r=>some r) λ y5=>some true
def Qc5 (N:Nat) (a0:IP) (a1:Int):Option (List UR):=bif (decide ((wI (a1+1))<((a0.Locals.Scopes.length:Nat):Int))) then (bnd (Xb a0.Locals.Scopes a1) λ p1=>bnd (Xb a0.Locals.Scopes (wI (a1+1))) λ p2=>grd (0<=p1.From/\p1.From<=p2.From/\p2.From<=((a0.Locals.Slots.length:Nat):Int)) <| some ((a0.Locals.Slots.drop p1.From.toNat).take (p2.From.toNat-p1.From.toNat))) else bnd (Xb a0.Locals.Scopes a1) λ p3=>grd (0<=p3.From/\p3.From<=((a0.Locals.Slots.length:Nat):Int)/\((a0.Locals.Slots.length:Nat):Int)<=((a0.Locals.Slots.length:Nat):Int)) <| some (a0.Locals.Slots.drop p3.From.toNat)
def Qbg (N:Nat) (y1:List UR):Nat->Int->Int->Option Int
 | 0,_,_=>none
 | n+1,v2,v3 =>
  bif (decide (v3<((y1.length:Nat):Int))) then (bnd (Xb y1 v3) λ p4 =>
   bif p4.Live then Qbg N y1 n (wI (v2+1)) (wI (v3+1))
   else Qbg N y1 n v2 (wI (v3+1)))
  else some v2
def Qcz (N:Nat) (a0:IP) (a1:Int):Option Int:=bnd (Qc5 N a0 a1) λ y1=>bnd (Qbg N y1 N 0 0) λ y5=>some y5
def Qfv (N:Nat) (a0:Int):Option Bool:=bif (decide (a0<0)) then some true else some (decide (a0>=4096))
def Qax (N:Nat) (a0:List Int):Nat->Int->Option (Ex Int Unit)
 | 0,_=>none
 | n+1,v1 =>
  bif (decide (v1<((a0.length:Nat):Int))) then (bnd (Xb a0 v1) λ p2 =>
   bnd (Qfv N p2) λ y3 =>
   bif y3 then some (.ret v1)
   else Qax N a0 n (wI (v1+1)))
  else some (.nxt ())
def Qbo (N:Nat) (a0:List Int):Option Int:=bnd (Qax N a0 N 0) λ e=>exK e (λ r=>some r) λ y4=>some (-1)
def Qa5 (N:Nat) (a0:List Int):Option Bool:=bnd (Qbo N a0) λ y1=>some (decide (y1>=0))
def QcS (N:Nat) (a0:Ws):Nat->Int->Option (Ex Bool Unit)
 | 0,_=>none
 | n+1,v4 =>
  bif (decide (v4<((a0.Scopes.length:Nat):Int))) then (bnd (Xb a0.Scopes v4) λ p5 =>
   bnd (Qcz N (IP.mk a0) v4) λ y6 =>
   bif (decide (y6>p5.Cap)) then some (.ret false)
   else QcS N a0 n (wI (v4+1)))
  else some (.nxt ())
def Qco (N:Nat) (a0:Ws):Option Bool:=bif (decide (((a0.Issued.length:Nat):Int)>4096)) then some false else bnd (Qa5 N a0.Issued) λ y1=>bif y1 then some false else bnd (QcJ N (IP.mk a0)) λ y2=>bif (!y2) then some false else bnd (Qcw N (IP.mk a0)) λ y3=>bif (!y3) then some false else bnd (QcS N a0 N 0) λ e=>exK e (λ r=>some r) λ y7=>some true
def Qdy (N:Nat) (a0:Ws):Nat->Int->(List Int)->Option (List Int)
 | 0,_,_=>none
 | n+1,v2,v3 =>
  bif (decide (v2<((a0.Slots.length:Nat):Int))) then (bnd (Xb a0.Slots v2) λ p4 =>
   bif p4.Live then (grd ((v3.length+1)*8<=140737488355328) <|
    Qdy N a0 n (wI (v2+1)) (v3++[p4.Ref]))
   else Qdy N a0 n (wI (v2+1)) v3)
  else some v3
def Qgb (N:Nat) (a0:Ws):Option (List Int):=bnd (Qco N a0) λ y1=>bif (!y1) then some [] else bnd (Qdy N a0 N 0 []) λ y5=>some y5
def Qfw (N:Nat) (a0:WP):Option Bool:=bif (decide (a0.Gen<1)) then some true else bif (decide (a0.Gen>4294967295)) then some true else bif (!a0.Live) then some (a0.Ref != 0) else some false
def Qal (N:Nat) (a0:List WP):Nat->Int->Option (Ex Int Unit)
 | 0,_=>none
 | n+1,v1 =>
  bif (decide (v1<((a0.length:Nat):Int))) then (bnd (Xb a0 v1) λ p2 =>
   bnd (Qfw N p2) λ y3 =>
   bif y3 then some (.ret v1)
   else Qal N a0 n (wI (v1+1)))
  else some (.nxt ())
def QaF (N:Nat) (a0:List WP):Option Int:=bnd (Qal N a0 N 0) λ e=>exK e (λ r=>some r) λ y4=>some (-1)
def Qaz (N:Nat) (a0:List WP):Option Bool:=bnd (QaF N a0) λ y1=>some (decide (y1>=0))
def QcZ (N:Nat) (a0:WC):Option Bool:=bif (decide (((a0.Entries.length:Nat):Int)<=64)) then (bnd (Qaz N a0.Entries) λ y1=>some (!y1)) else some false
def Qdz (N:Nat) (a0:WC):Nat->Int->(List Int)->Option (List Int)
 | 0,_,_=>none
 | n+1,v2,v3 =>
  bif (decide (v2<((a0.Entries.length:Nat):Int))) then (bnd (Xb a0.Entries v2) λ p4 =>
   bif p4.Live then (grd ((v3.length+1)*8<=140737488355328) <|
    Qdz N a0 n (wI (v2+1)) (v3++[p4.Ref]))
   else Qdz N a0 n (wI (v2+1)) v3)
  else some v3
def QeI (N:Nat) (a0:WC):Option (List Int):=bnd (QcZ N a0) λ y1=>bif (!y1) then some [] else bnd (Qdz N a0 N 0 []) λ y5=>some y5
def QaN (N:Nat) (a0:List Int) (a1:Int):Nat->Int->Option (Ex Int Unit)
 | 0,_=>none
 | n+1,v1 =>
  bif (decide (v1<((a0.length:Nat):Int))) then (bnd (Xb a0 v1) λ p2 =>
   bif (a1==p2) then some (.ret v1)
   else QaN N a0 a1 n (wI (v1+1)))
  else some (.nxt ())
def Qb9 (N:Nat) (a0:List Int) (a1:Int):Option Int:=bnd (QaN N a0 a1 N 0) λ e=>exK e (λ r=>some r) λ y3=>some (-1)
def Qa3 (N:Nat) (a0:List Int) (a1:Int):Option Bool:=bnd (Qb9 N a0 a1) λ y1=>some (decide (y1>=0))
def Qe3 (N:Nat) (a0:Int):Nat->Int->Int->Option Int
 | 0,_,_=>none
 | n+1,v1,v2 =>
  bif (decide (v2<(if 64<(if a0<0 then 0 else a0) then 64 else (if a0<0 then 0 else a0)))) then Qe3 N a0 n (bOr .u64 (Ka .u64 v1 1) 1) (wI (v2+1))
  else some v1
def Qbv (N:Nat) (a0:Int):Option Int:=bnd (Qe3 N a0 N 0 0) λ y3=>some y3
def Qc6 (N:Nat) (a0:WE):Option Bool:=bif (decide (a0.Kind<0)) then some false else bif (decide (a0.Kind>3)) then some false else bif (decide (a0.Length<0)) then some false else bif (decide (a0.Length>255)) then some false else bif (a0.Kind==1) then (jn (λ (x2:Bool)=>some x2) λ j1=>bif (decide (a0.Length<=32)) then (bnd (Qbv N a0.Length) λ y1=>j1 (decide ((wU a0.Map)<=y1))) else j1 false) else some ((a0.Kind==a0.Kind)&&((a0.Length==a0.Length)&&(a0.Map==0)))
def QfJ (N:Nat) (a0:WE):Option Int:=bnd (Qc6 N a0) λ y1=>bif (!y1) then some 0 else some (wI (a0.Length+1))
def QcT (N:Nat) (a0:WE) (a1:Int):Option Bool:=bnd (Qc6 N a0) λ y1=>bif (!y1) then some false else bif (decide (a1<0)) then some false else bif (decide (a1>=a0.Length)) then some false else bif (a0.Kind==2) then some true else bif (a0.Kind==1) then (grd (0<=a1) <| some ((Y0 .u32 (YD .u32 a0.Map a1) 1)==1)) else some false
def QbD (N:Nat) (a0:WE) (y1:Int):Nat->Int->(List Int)->Option (List Int)
 | 0,_,_=>none
 | n+1,v2,v3 =>
  bif (decide (v2<y1)) then (bnd (QcT N a0 v2) λ y4 =>
   bif y4 then (grd ((v3.length+1)*8<=140737488355328) <|
    QbD N a0 y1 n (wI (v2+1)) (v3++[v2]))
   else QbD N a0 y1 n (wI (v2+1)) v3)
  else some v3
def Qbz (N:Nat) (a0:WE):Option (List Int):=bnd (QfJ N a0) λ y1=>bnd (QbD N a0 y1 N 0 []) λ y5=>some y5
def Qdc (N:Nat) (a0:Int) (a1:Wm):Option Bool:=some (decide (a0>(wU ((a1.Things.length:Nat):Int))))
def Qap (N:Nat) (a0:List Int) (c0:Wm):Nat->Int->Option (Ex Int Unit)
 | 0,_=>none
 | n+1,v1 =>
  bif (decide (v1<((a0.length:Nat):Int))) then (bnd (Xb a0 v1) λ p2 =>
   bnd (Qdc N p2 c0) λ y3 =>
   bif y3 then some (.ret v1)
   else Qap N a0 c0 n (wI (v1+1)))
  else some (.nxt ())
def QaR (N:Nat) (a0:List Int) (c0:Wm):Option Int:=bnd (Qap N a0 c0 N 0) λ e=>exK e (λ r=>some r) λ y4=>some (-1)
def QaO (N:Nat) (a0:List Int) (c0:Wm):Option Bool:=bnd (QaR N a0 c0) λ y1=>some (decide (y1>=0))
def QbV (N:Nat) (a0:Wm) (a1:List Int):Option Bool:=bnd (QaO N a1 a0) λ y1=>some (!y1)
def Qc0 (N:Nat) (a0:Int) (a1:Wm) (a2:W5):Option Bool:=bnd (Xb a2.Fields a0) λ p1=>bnd (QbV N a1 [p1]) λ y2=>some (!y2)
def Qau (N:Nat) (a0:List Int) (c0:Wm) (c1:W5):Nat->Int->Option (Ex Int Unit)
 | 0,_=>none
 | n+1,v1 =>
  bif (decide (v1<((a0.length:Nat):Int))) then (bnd (Xb a0 v1) λ p2 =>
   bnd (Qc0 N p2 c0 c1) λ y3 =>
   bif y3 then some (.ret v1)
   else Qau N a0 c0 c1 n (wI (v1+1)))
  else some (.nxt ())
def Qbh (N:Nat) (a0:List Int) (c0:Wm) (c1:W5):Option Int:=bnd (Qau N a0 c0 c1 N 0) λ e=>exK e (λ r=>some r) λ y4=>some (-1)
def Qa1 (N:Nat) (a0:List Int) (c0:Wm) (c1:W5):Option Bool:=bnd (Qbh N a0 c0 c1) λ y1=>some (decide (y1>=0))
def Qc7 (N:Nat) (a0:Wm) (a1:W5):Option Bool:=bnd (Qc6 N a1.Header) λ y1=>bif (!y1) then some false else bif (a1.Header.Kind==0) then some false else bif (((a1.Fields.length:Nat):Int) != a1.Header.Length) then some false else bnd (Qbz N a1.Header) λ y2=>bnd (Qa1 N y2 a0 a1) λ y3=>some (!y3)
def QdN (N:Nat) (a0:Uz) (a1:Int):Option Bool:=some (a0.Id==a1)
def Qaj (N:Nat) (a0:List Uz) (c0:Int):Nat->Int->Option (Ex Int Unit)
 | 0,_=>none
 | n+1,v1 =>
  bif (decide (v1<((a0.length:Nat):Int))) then (bnd (Xb a0 v1) λ p2 =>
   bnd (QdN N p2 c0) λ y3 =>
   bif y3 then some (.ret v1)
   else Qaj N a0 c0 n (wI (v1+1)))
  else some (.nxt ())
def QaA (N:Nat) (a0:List Uz) (c0:Int):Option Int:=bnd (Qaj N a0 c0 N 0) λ e=>exK e (λ r=>some r) λ y4=>some (-1)
def Qbi (N:Nat) (a0:Wm) (a1:Int):Option Int:=bnd (QaA N a0.Marks a1) λ y1=>some y1
def Qbb (N:Nat) (a0:Wm):Nat->Int->Option (Ex Bool Unit)
 | 0,_=>none
 | n+1,v1 =>
  bif (decide (v1<((a0.Marks.length:Nat):Int))) then (bnd (Xb a0.Marks v1) λ p2 =>
   bif (p2.Id==0) then some (.ret false)
   else bnd (QbV N a0 [p2.Id]) λ y3 =>
   bif (!y3) then some (.ret false)
   else bif (decide (p2.Count<1)) then some (.ret false)
   else bif (decide (p2.Count>1000)) then some (.ret false)
   else bnd (Qbi N a0 p2.Id) λ y4 =>
   bif (y4 != v1) then some (.ret false)
   else Qbb N a0 n (wI (v1+1)))
  else some (.nxt ())
def Qc8 (N:Nat) (a0:Wm):Option Bool:=bnd (Qbb N a0 N 0) λ e=>exK e (λ r=>some r) λ y5=>some (decide (((a0.Marks.length:Nat):Int)<=64))
def QcU (N:Nat) (a0:Wm):Nat->Int->Option (Ex Bool Unit)
 | 0,_=>none
 | n+1,v7 =>
  bif (decide (v7<((a0.Things.length:Nat):Int))) then (bnd (Xb a0.Things v7) λ p8 =>
   bnd (Qc7 N a0 p8) λ y9 =>
   bif (!y9) then some (.ret false)
   else QcU N a0 n (wI (v7+1)))
  else some (.nxt ())
def QdZ (N:Nat) (a0:Wm):Option Bool:=bnd (QbP N a0.Conf) λ y1=>bif (!y1) then some false else bnd (Qco N a0.Locals) λ y2=>bif (!y2) then some false else bnd (QcZ N a0.Globals) λ y3=>bif (!y3) then some false else bnd (QcZ N a0.Weaks) λ y4=>bif (!y4) then some false else bnd (QeI N a0.Globals) λ y5=>bnd (Qa3 N y5 0) λ y6=>bif y6 then some false else bnd (QcU N a0 N 0) λ e=>exK e (λ r=>some r) λ y10=>bnd (Qgb N a0.Locals) λ y11=>bnd (QeI N a0.Globals) λ y12=>bnd (QeI N a0.Weaks) λ y13=>bnd (QaD N [a0.Roots,y11,y12,y13]) λ y14=>bnd (QbV N a0 y14) λ y15=>bif y15 then (bnd (Qc8 N a0) λ y16=>some y16) else some false
def QbQ (N:Nat) (a0:Int) (a1:List Int):Nat->Int->Int->Option (Ex (List Int×Int) Unit)
 | 0,_,_=>none
 | n+1,v1,v2 =>
  bif (decide (v2<((a1.length:Nat):Int))) then (bnd (Xb a1 v2) λ p3 =>
   bif (decide (p3<1)) then some (.ret ([],1))
   else bif (decide (p3>v1)) then some (.ret ([],1))
   else QbQ N a0 a1 n (wI (v1-p3)) (wI (v2+1)))
  else some (.nxt ())
def QbR (N:Nat) (a1:List Int):Nat->Int->Int->(List Int)->Option (Int×List Int)
 | 0,_,_,_=>none
 | n+1,v5,v6,v7 =>
  bif (decide (v6<((a1.length:Nat):Int))) then (bnd (Xb a1 v6) λ p8 =>
   bnd (Qbv N p8) λ y9 =>
   grd ((v7.length+1)*8<=140737488355328) <|
   grd (0<=p8) <|
   QbR N a1 n (YD .u64 v5 p8) (wI (v6+1)) (v7++[(Y0 .u64 v5 y9)]))
  else some (v5,v7)
def Qgo (N:Nat) (a0:Int) (a1:List Int):Option (List Int×Int):=bnd (QbQ N a0 a1 N 64 0) λ e=>exK e (λ r=>some r) λ y4=>bnd (QbR N a1 N a0 0 []) λ y10=>bif (y10.1 != 0) then some ([],2) else some (y10.2,0)
def Qet (N:Nat) (a0:UI):Option Bool:=bif (decide (a0.Tag<1)) then some false else bif (decide (a0.Tag>3)) then some false else bif (decide (a0.Index<0)) then some false else bif (decide (a0.Stamp<1)) then some false else bnd (Qbv N 16) λ y1=>bif (decide ((wU a0.Index)<=y1)) then (bnd (Qbv N 32) λ y2=>some (decide ((wU a0.Stamp)<=y2))) else some false
def Qbm (N:Nat) (a0:Int):Option (UI×Int):=bif (a0==0) then some ((UI.mk 0 0 0),5) else bnd (Qgo N a0 [2,16,32]) λ y1=>bif (y1.2 != 0) then some ((UI.mk 0 0 0),6) else bnd (Xb y1.1 0) λ p2=>bnd (Xb y1.1 1) λ p3=>bnd (Xb y1.1 2) λ p4=>bnd (Qet N (UI.mk (wI p2) (wI p3) (wI p4))) λ y5=>bif (!y5) then some ((UI.mk 0 0 0),6) else some ((UI.mk (wI p2) (wI p3) (wI p4)),0)
def Qgw (N:Nat) (a0:Ws) (a1:Int) (a2:Int):Option (Int×Int):=bnd (Qco N a0) λ y1=>bif (!y1) then some (0,1) else bif (decide (a2<1)) then some (0,6) else bif (decide (a2>((a0.Issued.length:Nat):Int))) then some (0,6) else bnd (Xb a0.Issued (wI (a2-1))) λ p2=>bif (p2 != a1) then some (0,6) else bif (decide (a1>=((a0.Slots.length:Nat):Int))) then some (0,7) else bnd (Xb a0.Slots a1) λ p3=>bif (p3.Stamp != a2) then some (0,7) else bnd (Xb a0.Slots a1) λ p4=>bif (!p4.Live) then some (0,8) else bnd (Xb a0.Slots a1) λ p5=>some (p5.Ref,0)
def QeV (N:Nat) (a0:WC) (a1:Int) (a2:Int):Option Int:=bnd (QcZ N a0) λ y1=>bif (!y1) then some 1 else bif (decide (a1<0)) then some 6 else bif (decide (a1>=((a0.Entries.length:Nat):Int))) then some 6 else bif (decide (a2<1)) then some 6 else bnd (Xb a0.Entries a1) λ p2=>bif (decide (a2>p2.Gen)) then some 6 else bnd (Xb a0.Entries a1) λ p3=>bif (decide (a2<p3.Gen)) then some 8 else bnd (Xb a0.Entries a1) λ p4=>bif (!p4.Live) then some 8 else some 0
def Qf1 (N:Nat) (a0:WC) (a1:Int) (a2:Int):Option (Int×Int):=bnd (QeV N a0 a1 a2) λ y1=>bif (y1 != 0) then some (0,y1) else bnd (Xb a0.Entries a1) λ p2=>some (p2.Ref,0)
def Qac (N:Nat) (a0:Wm) (a1:Int):Option (Int×Int):=bnd (Qbm N a1) λ y1=>bif (y1.2==5) then some (0,0) else bif (y1.2 != 0) then some (0,y1.2) else bif (y1.1.Tag==1) then (bnd (Qgw N a0.Locals y1.1.Index y1.1.Stamp) λ y2=>some (y2.1,y2.2)) else bif (y1.1.Tag==2) then (bnd (Qf1 N a0.Globals y1.1.Index y1.1.Stamp) λ y3=>some (y3.1,y3.2)) else bnd (Qf1 N a0.Weaks y1.1.Index y1.1.Stamp) λ y4=>some (y4.1,y4.2)
def QaW (N:Nat) (a0:UQ):Option (Int×WE×Int):=bnd (Qac N a0.World a0.a) λ y1=>bif (y1.2 != 0) then some (0,(WE.mk 0 0 0),y1.2) else bif (y1.1==0) then some (0,(WE.mk 0 0 0),5) else bnd (Xb a0.World.Things (wU (y1.1-1))) λ p2=>some (y1.1,p2.Header,0)
def Qbw (N:Nat) (a0:UQ) (a1:Bool):Option (W5×Int):=bnd (QaW N a0) λ y1=>bif (y1.2.2 != 0) then some ((W5.mk (WE.mk 0 0 0) []),y1.2.2) else bif (decide (a0.b>=(wU y1.2.1.Length))) then some ((W5.mk (WE.mk 0 0 0) []),2) else bnd (QcT N y1.2.1 (wI a0.b)) λ y2=>bif (!(y2==a1)) then some ((W5.mk (WE.mk 0 0 0) []),4) else bnd (Xb a0.World.Things (wU (y1.1-1))) λ p3=>some (p3,0)
def QcF (N:Nat) (a0:UQ):Option Int:=bnd (Qbw N a0 false) λ y1=>some y1.2
def QcG (N:Nat) (a0:UQ):Option Int:=bnd (QaW N a0) λ y1=>some y1.2.2
def QaI (N:Nat) (a0:List UR):Option (List UR):=some a0
def QaB (N:Nat) (a0:List UV):Option (List UV):=some a0
def QbS (N:Nat) (a0:List Int):Option (List Int):=some a0
def Qd0 (N:Nat) (a0:Ws):Option Ws:=bnd (QaI N a0.Slots) λ y1=>bnd (QaB N a0.Scopes) λ y2=>bnd (QbS N a0.Issued) λ y3=>some (Ws.mk y1 y2 y3)
def Qbx (N:Nat) (a0:Ws) (a1:Int):Option (Ws×Int×Int×Int):=bnd (Qco N a0) λ y1=>bif (!y1) then some ((Ws.mk [] [] []),0,0,1) else bif (a1==0) then some ((Ws.mk [] [] []),0,0,1) else bif (decide ((wI (((a0.Scopes.length:Nat):Int)-1))<0)) then some ((Ws.mk [] [] []),0,0,9) else bnd (Qcz N (IP.mk a0) (wI (((a0.Scopes.length:Nat):Int)-1))) λ y2=>bnd (Xb a0.Scopes (wI (((a0.Scopes.length:Nat):Int)-1))) λ p3=>bif (decide (y2>=p3.Cap)) then some ((Ws.mk [] [] []),0,0,10) else bif (decide (((a0.Issued.length:Nat):Int)>=4096)) then some ((Ws.mk [] [] []),0,0,18) else bnd (Qd0 N a0) λ y4=>grd (y4.Slots.length<=140737488355328) <| grd (y4.Issued.length<=140737488355328) <| grd ((y4.Slots.length+1)*24<=140737488355328) <| grd ((y4.Issued.length+1)*8<=140737488355328) <| some ((Ws.mk (y4.Slots++[(UR.mk (wI (((y4.Issued.length:Nat):Int)+1)) a1 true)]) y4.Scopes (y4.Issued++[((y4.Slots.length:Nat):Int)])),((y4.Slots.length:Nat):Int),(wI (((y4.Issued.length:Nat):Int)+1)),0)
def QbM (N:Nat) (a0:Ws) (a1:Int):Option Int:=bif (a1==0) then some 0 else bnd (Qbx N a0 a1) λ y1=>some y1.2.2.2
def QfN (N:Nat) (a0:Ut):Option Int:=bnd (QbP N a0) λ y1=>bif (!y1) then some 0 else some (wI (a0.PageWords.tdiv 4))
def QgS (N:Nat) (a0:Ut) (a1:Int):Option Int:=bnd (QbP N a0) λ y1=>bif (!y1) then some (-1) else bif (decide (a1<1)) then some (-1) else bif (decide (a1>(wI (4*a0.PageWords)))) then some (-1) else bnd (QfN N a0) λ y2=>bif (decide (a1<=y2)) then some 0 else grd (a0.PageWords≠0) <| some (wI ((wI ((wI (a1+a0.PageWords))-1)).tdiv a0.PageWords))
def Qgc (N:Nat) (a0:Ut) (a1:WE):Option Bool:=bnd (Qc6 N a1) λ y1=>bif y1 then (bif (a1.Kind != 0) then (bnd (QfJ N a1) λ y2=>bnd (QgS N a0 y2) λ y3=>some (decide (y3>=0))) else some false) else some false
def QbW (N:Nat) (a0:UQ) (a1:Int):Option Int:=jn (λ (x2:Bool) (x3:Int)=>bnd (QbM N a0.World.Locals 1) λ y4=>bif (decide (((a0.World.Marks.length:Nat):Int)>0)) then some 15 else bif (!x2) then some 1 else bnd (Qgc N a0.World.Conf (WE.mk a1 (wI (if 2147483647<a0.a then 2147483647 else a0.a)) x3)) λ y5=>bif (!y5) then some 1 else bif (y4 != 0) then some y4 else bif a0.failed then some 3 else some 0) λ j2=>bif (a1==1) then (jn (λ (x1:Bool)=>j2 x1 (wW (if 4294967295<a0.b then 4294967295 else a0.b))) λ j1=>bif (decide (a0.a<=2147483647)) then j1 (decide (a0.b<=4294967295)) else j1 false) else j2 (decide (a0.a<=2147483647)) 0
def Qfx (N:Nat) (a0:UQ):Option Int:=bnd (QbW N a0 1) λ y1=>some y1
def Qfy (N:Nat) (a0:UQ):Option Int:=bnd (QbW N a0 2) λ y1=>some y1
def Qfz (N:Nat) (a0:UQ):Option Int:=bnd (QbW N a0 3) λ y1=>some y1
def Qc9 (N:Nat) (a0:UQ):Option Int:=bnd (Qbw N a0 true) λ y1=>bif (y1.2 != 0) then some y1.2 else bnd (Xb y1.1.Fields a0.b) λ p2=>bnd (QbM N a0.World.Locals p2) λ y3=>some y3
def QfA (N:Nat) (a0:UQ):Option Int:=bnd (Qbw N a0 true) λ y1=>bif (y1.2==0) then (bnd (Qac N a0.World a0.c) λ y2=>some y2.2) else some y1.2
def QfB (N:Nat) (a0:UQ):Option Int:=bnd (Qac N a0.World a0.a) λ y1=>bif (y1.2==0) then (bnd (Qac N a0.World a0.b) λ y2=>some y2.2) else some y1.2
def QfC (N:Nat) (a0:UQ):Option Int:=bnd (Qac N a0.World a0.a) λ y1=>bif (y1.2==0) then (bnd (QbM N a0.World.Locals y1.1) λ y2=>some y2) else some y1.2
def QgC (N:Nat) (a0:WC):Option (Int×Bool):=some ((((a0.Entries.findIdx? λ e=>!(e.Live||(e.Gen==4294967295))).getD a0.Entries.length:Nat):Int),((a0.Entries.findIdx? λ e=>!(e.Live||(e.Gen==4294967295))).isSome))
def Qat (N:Nat) (a0:List WP):Option (List WP):=some a0
def QfK (N:Nat) (a0:WC):Option WC:=bnd (Qat N a0.Entries) λ y1=>some (WC.mk y1)
def Qfd (N:Nat) (a0:WC) (a1:Int):Option (WC×Int×Int×Int):=bnd (QcZ N a0) λ y1=>bif (!y1) then some ((WC.mk []),0,0,1) else bnd (QgC N a0) λ y2=>jn (λ (_:Unit)=>bnd (QfK N a0) λ y3=>jn (λ (x4:List WP)=>bnd (Xb x4 y2.1) λ p5=>some ((WC.mk (((x4.set y2.1.toNat (WP.mk (wI (p5.Gen+1)) p5.Ref p5.Live)).set y2.1.toNat (WP.mk (wI (p5.Gen+1)) a1 p5.Live)).set y2.1.toNat (WP.mk (wI (p5.Gen+1)) a1 true))),y2.1,(wI (p5.Gen+1)),0)) λ j2=>bif (!y2.2) then (grd ((y3.Entries.length+1)*24<=140737488355328) <| j2 (y3.Entries++[(WP.mk 0 0 false)])) else j2 y3.Entries) λ j1=>bif (!y2.2) then (bif (decide (((a0.Entries.length:Nat):Int)>=64)) then some ((WC.mk []),0,0,18) else j1 ()) else j1 ()
def Qbf (N:Nat) (a0:UQ) (a1:WC):Option Int:=bnd (QaW N a0) λ y1=>bif (y1.2.2==0) then (bnd (Qfd N a1 y1.1) λ y2=>some y2.2.2.2) else some y1.2.2
def QfD (N:Nat) (a0:UQ):Option Int:=bnd (Qbf N a0 a0.World.Globals) λ y1=>some y1
def Qe4 (N:Nat) (a0:UQ):Option Int:=bnd (Qbf N a0 a0.World.Weaks) λ y1=>some y1
def Qby (N:Nat) (a0:UQ) (a1:Int):Option Int:=bif (a0.a==0) then some 5 else bnd (Qac N a0.World a0.a) λ y1=>bif (y1.2 != 0) then some y1.2 else bnd (Qbm N a0.a) λ y2=>bif (y2.1.Tag != a1) then some 4 else some 0
def Qe5 (N:Nat) (a0:UQ):Option Int:=bnd (Qby N a0 1) λ y1=>some y1
def Qe6 (N:Nat) (a0:UQ):Option Int:=bnd (Qby N a0 2) λ y1=>some y1
def Qe7 (N:Nat) (a0:UQ):Option Int:=bnd (Qby N a0 3) λ y1=>some y1
def Qg4 (N:Nat) (a0:Ws) (a1:Int) (a2:Bool):Option (Ws×Int):=bnd (Qco N a0) λ y1=>bif (!y1) then some ((Ws.mk [] [] []),1) else bif (decide (a1<0)) then some ((Ws.mk [] [] []),1) else bif (decide (a1>64)) then some ((Ws.mk [] [] []),1) else jn (λ (_:Unit)=>bif (decide (((a0.Scopes.length:Nat):Int)>=64)) then some ((Ws.mk [] [] []),17) else bnd (Qd0 N a0) λ y2=>grd (y2.Slots.length<=140737488355328) <| grd ((y2.Scopes.length+1)*24<=140737488355328) <| some ((Ws.mk y2.Slots (y2.Scopes++[(UV.mk ((y2.Slots.length:Nat):Int) a1 a2)]) y2.Issued),0)) λ j1=>bif (!a2) then (bif (((a0.Scopes.length:Nat):Int)==0) then some ((Ws.mk [] [] []),9) else j1 ()) else j1 ()
def Qfr (N:Nat) (a0:Ws) (a1:Int):Option (Ws×Int):=bnd (Qg4 N a0 a1 false) λ y1=>some (y1.1,y1.2)
def Qeu (N:Nat) (a0:UQ):Option Int:=bif (decide (a0.a>64)) then some 1 else bnd (Qfr N a0.World.Locals (wI a0.a)) λ y1=>some y1.2
def QgD (N:Nat) (a0:Ws) (a1:Int):Option Ws:=bnd (Qd0 N a0) λ y1=>bnd (Xb y1.Scopes a1) λ p2=>grd (0<=0/\0<=p2.From/\p2.From<=((y1.Slots.length:Nat):Int)) <| grd (0<=0/\0<=a1/\a1<=((y1.Scopes.length:Nat):Int)) <| some (Ws.mk (y1.Slots.take p2.From.toNat) (y1.Scopes.take a1.toNat) y1.Issued)
def Qf2 (N:Nat) (a0:Ws):Option (Ws×Int):=bnd (Qco N a0) λ y1=>bif (!y1) then some ((Ws.mk [] [] []),1) else bif (decide ((wI (((a0.Scopes.length:Nat):Int)-1))<0)) then some ((Ws.mk [] [] []),9) else bnd (Xb a0.Scopes (wI (((a0.Scopes.length:Nat):Int)-1))) λ p2=>bif p2.Base then some ((Ws.mk [] [] []),9) else bnd (QgD N a0 (wI (((a0.Scopes.length:Nat):Int)-1))) λ y3=>some (y3,0)
def QeJ (N:Nat) (a0:UQ):Option Int:=bnd (Qac N a0.World a0.a) λ y1=>bif (y1.2 != 0) then some y1.2 else bnd (Qf2 N a0.World.Locals) λ y2=>bif (y2.2 != 0) then some y2.2 else bnd (QbM N y2.1 y1.1) λ y3=>some y3
def Qdd (N:Nat) (a0:UQ):Option Int:=bnd (QaW N a0) λ y1=>bif (y1.2.2 != 0) then some y1.2.2 else bnd (Qbi N a0.World y1.1) λ y2=>bif (y2==(-1)) then (bif (decide (((a0.World.Marks.length:Nat):Int)>=64)) then some 18 else bif (y2 != (-1)) then (bnd (Xb a0.World.Marks y2) λ p3=>bif (decide (p3.Count>=1000)) then some 18 else bif a0.failed then some 18 else some 0) else bif a0.failed then some 18 else some 0) else bif (y2 != (-1)) then (bnd (Xb a0.World.Marks y2) λ p4=>bif (decide (p4.Count>=1000)) then some 18 else bif a0.failed then some 18 else some 0) else bif a0.failed then some 18 else some 0
def Qd8 (N:Nat) (a0:UQ):Option Int:=bnd (QaW N a0) λ y1=>bif (y1.2.2==0) then (bnd (Qbi N a0.World y1.1) λ y2=>bif (y2==(-1)) then some 12 else some y1.2.2) else some y1.2.2
def Qai (N:Nat) (a0:Wm) (a1:Int) (a2:Int) (a3:Int) (a4:Int) (a5:Bool):Option Int:=bnd (QdZ N a0) λ y1=>bif (!y1) then some 19 else bif (a1==1) then Qfx N ⟨a0,a2,a3,a4,a5⟩ else bif (a1==2) then Qfy N ⟨a0,a2,a3,a4,a5⟩ else bif (a1==3) then Qfz N ⟨a0,a2,a3,a4,a5⟩ else bif (a1==4) then QcG N ⟨a0,a2,a3,a4,a5⟩ else bif (a1==5) then QcG N ⟨a0,a2,a3,a4,a5⟩ else bif (a1==6) then QcF N ⟨a0,a2,a3,a4,a5⟩ else bif (a1==7) then QcF N ⟨a0,a2,a3,a4,a5⟩ else bif (a1==8) then Qc9 N ⟨a0,a2,a3,a4,a5⟩ else bif (a1==9) then QfA N ⟨a0,a2,a3,a4,a5⟩ else bif (a1==10) then QfB N ⟨a0,a2,a3,a4,a5⟩ else bif (a1==11) then QfC N ⟨a0,a2,a3,a4,a5⟩ else bif (a1==13) then QfD N ⟨a0,a2,a3,a4,a5⟩ else bif (a1==15) then Qe4 N ⟨a0,a2,a3,a4,a5⟩ else bif (a1==12) then Qe5 N ⟨a0,a2,a3,a4,a5⟩ else bif (a1==14) then Qe6 N ⟨a0,a2,a3,a4,a5⟩ else bif (a1==16) then Qe7 N ⟨a0,a2,a3,a4,a5⟩ else bif (a1==17) then Qeu N ⟨a0,a2,a3,a4,a5⟩ else bif (a1==18) then QeJ N ⟨a0,a2,a3,a4,a5⟩ else bif (a1==19) then Qdd N ⟨a0,a2,a3,a4,a5⟩ else bif (a1==20) then Qd8 N ⟨a0,a2,a3,a4,a5⟩ else some 1
def Qe8 (N:Nat) (a0:Wm) (a1:Int) (a2:Int) (a3:Int) (a4:Int) (a5:UH):Option (Wm×Int×Int):=bnd (Qai N a0 a1 a2 a3 a4 a5.Failed) λ y1=>bif (y1 != 0) then some (zWd,0,y1) else none
def Xcy (N:Nat) (a0:Wm) (l:List Int):Bool :=
 (decide (l.length<=140737488355328)&&l.all λ x=>decide (0<=x/\x<=a0.Things.length))&&a0.Things.all λ t=>match Qbz N t.Header,QcX N t with
  | some ps,some ks=>(decide (ps.length<=140737488355328)&&ps.all λ i=>decide (0<=i)&&decide (i<t.Fields.length)&&decide (0<=t.Fields.getD i.toNat 0)&&decide (t.Fields.getD i.toNat 0<=a0.Things.length))&&(ks==ps.map λ i=>t.Fields.getD i.toNat 0)
  | _,_=>false
def Qe9 (N:Nat) (a0:Wm):Option (List Bool):=bnd (QdZ N a0) λ y1=>bif (!y1) then some [] else bnd (Qgb N a0.Locals) λ y2=>bnd (QeI N a0.Globals) λ y3=>bnd (QaD N [a0.Roots,y2,y3]) λ y4=>grd (Xcy N a0 (y4++a0.Marks.map (·.Id))=true) <| bnd (Qar N a0 N 0 (List.replicate a0.Things.length false) (y4++a0.Marks.map (·.Id))) λ r=>some r
def QaE (N:Nat) (a0:List W5):Option (List W5):=some a0
def QaJ (N:Nat) (a0:List Int):Option (List Int):=some a0
def QeA (N:Nat) (a0:Ws):Option Ws:=bnd (QaI N a0.Slots) λ y1=>bnd (QaB N a0.Scopes) λ y2=>bnd (QbS N a0.Issued) λ y3=>some (Ws.mk y1 y2 y3)
def Qda (N:Nat) (a0:WC):Option WC:=bnd (Qat N a0.Entries) λ y1=>some (WC.mk y1)
def QaM (N:Nat) (a0:List Uz):Option (List Uz):=some a0
def Qd9 (N:Nat) (a0:Wm) (y1:List W5):Nat->Int->(List W5)->Option (List W5)
 | 0,_,_=>none
 | n+1,v2,v3 =>
  bif (decide (v2<((y1.length:Nat):Int))) then (bnd (Xb v3 v2) λ p4 =>
   bnd (QaJ N p4.Fields) λ y5 =>
   bnd (Xb v3 v2) λ p6 =>
   Qd9 N a0 y1 n (wI (v2+1)) (v3.set v2.toNat (W5.mk p6.Header y5)))
  else some v3
def Qaq (N:Nat) (a0:Wm):Option Wm:=bnd (QaE N a0.Things) λ y1=>grd (y1.length<=140737488355328) <| bnd (Qd9 N a0 y1 N 0 y1) λ y7=>bnd (QeA N a0.Locals) λ y8=>bnd (Qda N a0.Globals) λ y9=>bnd (Qda N a0.Weaks) λ y10=>bnd (QaM N a0.Marks) λ y11=>bnd (QaJ N a0.Roots) λ y12=>some (Wm.mk a0.Conf y7 y8 y9 y10 y11 y12)
def Qa6 (N:Nat) (y2:List Bool) (y3:Wm):Nat->Int->(List WP)->Option (List WP)
 | 0,_,_=>none
 | n+1,v4,v5 =>
  bif (decide (v4<((y3.Weaks.Entries.length:Nat):Int))) then (bnd (Xb v5 v4) λ p6 =>
   bif p6.Live then (bif (p6.Ref != 0) then (bnd (Xb y2 (wU (p6.Ref-1))) λ p7 =>
       bif (!p7) then (bnd (Xb v5 v4) λ p8 =>
        Qa6 N y2 y3 n (wI (v4+1)) (v5.set v4.toNat (WP.mk p8.Gen 0 p8.Live)))
       else Qa6 N y2 y3 n (wI (v4+1)) v5)
    else Qa6 N y2 y3 n (wI (v4+1)) v5)
   else Qa6 N y2 y3 n (wI (v4+1)) v5)
  else some v5
def QcV (N:Nat) (a0:Wm):Option (Wm×Int):=bnd (QdZ N a0) λ y1=>bif (!y1) then some (zWd,19) else bnd (Qe9 N a0) λ y2=>bnd (Qaq N a0) λ y3=>grd (y3.Weaks.Entries.length<=140737488355328) <| bnd (Qa6 N y2 y3 N 0 y3.Weaks.Entries) λ y9=>some ((Wm.mk y3.Conf y3.Things y3.Locals y3.Globals (WC.mk y9) y3.Marks y3.Roots),0)
def Qaf (N:Nat) (a0:Wm) (a1:Int):Option (Int×Int):=bnd (QdZ N a0) λ y1=>bif (!y1) then some (0,19) else bnd (Qac N a0 a1) λ y2=>some (y2.1,y2.2)
def Qfe (N:Nat) (a0:Int) (a1:Int):Option Bool:=bnd (Qbv N a1) λ y1=>some ((XaV .u64 a0 y1)==0)
def Qf3 (N:Nat) (a0:List IB):Nat->Int->Int->Option (Ex (Int×Int) Unit)
 | 0,_,_=>none
 | n+1,v1,v2 =>
  bif (decide (v2<((a0.length:Nat):Int))) then (bnd (Xb a0 v2) λ p3 =>
   bif (decide (p3.Width<1)) then some (.ret (0,1))
   else bif (decide (p3.Width>v1)) then some (.ret (0,1))
   else Qf3 N a0 n (wI (v1-p3.Width)) (wI (v2+1)))
  else some (.nxt ())
def Qcx (N:Nat) (a0:List IB):Nat->Int->Int->Int->Option (Ex (Int×Int) Int)
 | 0,_,_,_=>none
 | n+1,v5,v6,v7 =>
  bif (decide (v7<((a0.length:Nat):Int))) then (bnd (Xb a0 v7) λ p8 =>
   bnd (Qfe N p8.Value p8.Width) λ y9 =>
   bif (!y9) then some (.ret (0,2))
   else grd (0<=v6) <|
   Qcx N a0 n (bOr .u64 v5 (Ka .u64 p8.Value v6)) (wI (v6+p8.Width)) (wI (v7+1)))
  else some (.nxt v5)
def Qht (N:Nat) (a0:List IB):Option (Int×Int):=bnd (Qf3 N a0 N 64 0) λ e=>exK e (λ r=>some r) λ y4=>bnd (Qcx N a0 N 0 0 0) λ e=>exK e (λ r=>some r) λ y10=>some (y10,0)
def Qas (N:Nat) (a0:UI):Option (Int×Int):=bnd (Qet N a0) λ y1=>bif (!y1) then some (0,1) else bnd (Qht N [(IB.mk 2 (wU a0.Tag)),(IB.mk 16 (wU a0.Index)),(IB.mk 32 (wU a0.Stamp))]) λ y2=>some (y2.1,y2.2)
def Qea (N:Nat) (a0:Wm) (a2:Int) (a3:Int) (a4:Int) (a5:UH):Option (Wm×Int×Int):=bnd (Qai N a0 1 a2 a3 a4 a5.Failed) λ y1=>bif (y1 != 0) then some (zWd,0,y1) else bnd (Qaf N a0 a2) λ y2=>bnd (Qaq N a0) λ y3=>jn (λ (_:Unit)=>bif a5.Collected then (bnd (QcV N y3) λ y5=>bif (y5.2 != 0) then (bif (y5.2 != 0) then some (zWd,0,y5.2) else some (y3,0,0)) else grd (0<=(wI a2)/\(wI a2).toNat*8<=140737488355328) <| grd ((y5.1.Things.length+1)*48<=140737488355328) <| grd ((y5.1.Things.length+1)<=140737488355328) <| jn (λ (x19:Int) (x20:Int) (x21:List UR) (x22:List UV) (x23:List Int)=>bif (x20 != 0) then some (zWd,0,x20) else some ((Wm.mk y5.1.Conf (y5.1.Things++[(W5.mk (WE.mk 1 (wI a2) (wW a3)) (List.replicate (wI a2).toNat 0))]) (Ws.mk x21 x22 x23) y5.1.Globals y5.1.Weaks y5.1.Marks y5.1.Roots),x19,0)) λ j2=>bif ((wU (((y5.1.Things.length+1):Nat):Int))==0) then j2 0 0 y5.1.Locals.Slots y5.1.Locals.Scopes y5.1.Locals.Issued else bnd (Qbx N y5.1.Locals (wU (((y5.1.Things.length+1):Nat):Int))) λ y17=>bif (y17.2.2.2 != 0) then j2 0 y17.2.2.2 y5.1.Locals.Slots y5.1.Locals.Scopes y5.1.Locals.Issued else bnd (Qas N (UI.mk 1 y17.2.1 y17.2.2.1)) λ y18=>j2 y18.1 y18.2 y17.1.Slots y17.1.Scopes y17.1.Issued) else grd (0<=(wI a2)/\(wI a2).toNat*8<=140737488355328) <| grd ((y3.Things.length+1)*48<=140737488355328) <| grd ((y3.Things.length+1)<=140737488355328) <| jn (λ (x26:Int) (x27:Int) (x28:List UR) (x29:List UV) (x30:List Int)=>bif (x27 != 0) then some (zWd,0,x27) else some ((Wm.mk y3.Conf (y3.Things++[(W5.mk (WE.mk 1 (wI a2) (wW a3)) (List.replicate (wI a2).toNat 0))]) (Ws.mk x28 x29 x30) y3.Globals y3.Weaks y3.Marks y3.Roots),x26,0)) λ j3=>bif ((wU (((y3.Things.length+1):Nat):Int))==0) then j3 0 0 y3.Locals.Slots y3.Locals.Scopes y3.Locals.Issued else bnd (Qbx N y3.Locals (wU (((y3.Things.length+1):Nat):Int))) λ y24=>bif (y24.2.2.2 != 0) then j3 0 y24.2.2.2 y3.Locals.Slots y3.Locals.Scopes y3.Locals.Issued else bnd (Qas N (UI.mk 1 y24.2.1 y24.2.2.1)) λ y25=>j3 y25.1 y25.2 y24.1.Slots y24.1.Scopes y24.1.Issued) λ j1=>bif (y2.1 != 0) then (bnd (Xb y3.Things (wU (y2.1-1))) λ p4=>j1 ()) else j1 ()
def Qeb (N:Nat) (a0:Wm) (a2:Int) (a3:Int) (a4:Int) (a5:UH):Option (Wm×Int×Int):=bnd (Qai N a0 2 a2 a3 a4 a5.Failed) λ y1=>bif (y1 != 0) then some (zWd,0,y1) else bnd (Qaf N a0 a2) λ y2=>bnd (Qaq N a0) λ y3=>jn (λ (_:Unit)=>bif a5.Collected then (bnd (QcV N y3) λ y5=>bif (y5.2 != 0) then (bif (y5.2 != 0) then some (zWd,0,y5.2) else some (y3,0,0)) else grd (0<=(wI a2)/\(wI a2).toNat*8<=140737488355328) <| grd ((y5.1.Things.length+1)*48<=140737488355328) <| grd ((y5.1.Things.length+1)<=140737488355328) <| jn (λ (x19:Int) (x20:Int) (x21:List UR) (x22:List UV) (x23:List Int)=>bif (x20 != 0) then some (zWd,0,x20) else some ((Wm.mk y5.1.Conf (y5.1.Things++[(W5.mk (WE.mk 2 (wI a2) 0) (List.replicate (wI a2).toNat 0))]) (Ws.mk x21 x22 x23) y5.1.Globals y5.1.Weaks y5.1.Marks y5.1.Roots),x19,0)) λ j2=>bif ((wU (((y5.1.Things.length+1):Nat):Int))==0) then j2 0 0 y5.1.Locals.Slots y5.1.Locals.Scopes y5.1.Locals.Issued else bnd (Qbx N y5.1.Locals (wU (((y5.1.Things.length+1):Nat):Int))) λ y17=>bif (y17.2.2.2 != 0) then j2 0 y17.2.2.2 y5.1.Locals.Slots y5.1.Locals.Scopes y5.1.Locals.Issued else bnd (Qas N (UI.mk 1 y17.2.1 y17.2.2.1)) λ y18=>j2 y18.1 y18.2 y17.1.Slots y17.1.Scopes y17.1.Issued) else grd (0<=(wI a2)/\(wI a2).toNat*8<=140737488355328) <| grd ((y3.Things.length+1)*48<=140737488355328) <| grd ((y3.Things.length+1)<=140737488355328) <| jn (λ (x26:Int) (x27:Int) (x28:List UR) (x29:List UV) (x30:List Int)=>bif (x27 != 0) then some (zWd,0,x27) else some ((Wm.mk y3.Conf (y3.Things++[(W5.mk (WE.mk 2 (wI a2) 0) (List.replicate (wI a2).toNat 0))]) (Ws.mk x28 x29 x30) y3.Globals y3.Weaks y3.Marks y3.Roots),x26,0)) λ j3=>bif ((wU (((y3.Things.length+1):Nat):Int))==0) then j3 0 0 y3.Locals.Slots y3.Locals.Scopes y3.Locals.Issued else bnd (Qbx N y3.Locals (wU (((y3.Things.length+1):Nat):Int))) λ y24=>bif (y24.2.2.2 != 0) then j3 0 y24.2.2.2 y3.Locals.Slots y3.Locals.Scopes y3.Locals.Issued else bnd (Qas N (UI.mk 1 y24.2.1 y24.2.2.1)) λ y25=>j3 y25.1 y25.2 y24.1.Slots y24.1.Scopes y24.1.Issued) λ j1=>bif (y2.1 != 0) then (bnd (Xb y3.Things (wU (y2.1-1))) λ p4=>j1 ()) else j1 ()
def Qec (N:Nat) (a0:Wm) (a2:Int) (a3:Int) (a4:Int) (a5:UH):Option (Wm×Int×Int):=bnd (Qai N a0 3 a2 a3 a4 a5.Failed) λ y1=>bif (y1 != 0) then some (zWd,0,y1) else bnd (Qaf N a0 a2) λ y2=>bnd (Qaq N a0) λ y3=>jn (λ (_:Unit)=>bif a5.Collected then (bnd (QcV N y3) λ y5=>bif (y5.2 != 0) then (bif (y5.2 != 0) then some (zWd,0,y5.2) else some (y3,0,0)) else grd (0<=(wI a2)/\(wI a2).toNat*8<=140737488355328) <| grd ((y5.1.Things.length+1)*48<=140737488355328) <| grd ((y5.1.Things.length+1)<=140737488355328) <| jn (λ (x19:Int) (x20:Int) (x21:List UR) (x22:List UV) (x23:List Int)=>bif (x20 != 0) then some (zWd,0,x20) else some ((Wm.mk y5.1.Conf (y5.1.Things++[(W5.mk (WE.mk 3 (wI a2) 0) (List.replicate (wI a2).toNat 0))]) (Ws.mk x21 x22 x23) y5.1.Globals y5.1.Weaks y5.1.Marks y5.1.Roots),x19,0)) λ j2=>bif ((wU (((y5.1.Things.length+1):Nat):Int))==0) then j2 0 0 y5.1.Locals.Slots y5.1.Locals.Scopes y5.1.Locals.Issued else bnd (Qbx N y5.1.Locals (wU (((y5.1.Things.length+1):Nat):Int))) λ y17=>bif (y17.2.2.2 != 0) then j2 0 y17.2.2.2 y5.1.Locals.Slots y5.1.Locals.Scopes y5.1.Locals.Issued else bnd (Qas N (UI.mk 1 y17.2.1 y17.2.2.1)) λ y18=>j2 y18.1 y18.2 y17.1.Slots y17.1.Scopes y17.1.Issued) else grd (0<=(wI a2)/\(wI a2).toNat*8<=140737488355328) <| grd ((y3.Things.length+1)*48<=140737488355328) <| grd ((y3.Things.length+1)<=140737488355328) <| jn (λ (x26:Int) (x27:Int) (x28:List UR) (x29:List UV) (x30:List Int)=>bif (x27 != 0) then some (zWd,0,x27) else some ((Wm.mk y3.Conf (y3.Things++[(W5.mk (WE.mk 3 (wI a2) 0) (List.replicate (wI a2).toNat 0))]) (Ws.mk x28 x29 x30) y3.Globals y3.Weaks y3.Marks y3.Roots),x26,0)) λ j3=>bif ((wU (((y3.Things.length+1):Nat):Int))==0) then j3 0 0 y3.Locals.Slots y3.Locals.Scopes y3.Locals.Issued else bnd (Qbx N y3.Locals (wU (((y3.Things.length+1):Nat):Int))) λ y24=>bif (y24.2.2.2 != 0) then j3 0 y24.2.2.2 y3.Locals.Slots y3.Locals.Scopes y3.Locals.Issued else bnd (Qas N (UI.mk 1 y24.2.1 y24.2.2.1)) λ y25=>j3 y25.1 y25.2 y24.1.Slots y24.1.Scopes y24.1.Issued) λ j1=>bif (y2.1 != 0) then (bnd (Xb y3.Things (wU (y2.1-1))) λ p4=>j1 ()) else j1 ()
def Qed (N:Nat) (a0:Wm) (a2:Int) (a3:Int) (a4:Int) (a5:UH):Option (Wm×Int×Int):=bnd (Qai N a0 4 a2 a3 a4 a5.Failed) λ y1=>bif (y1 != 0) then some (zWd,0,y1) else bnd (Qaf N a0 a2) λ y2=>bnd (Qaq N a0) λ y3=>bif (y2.1 != 0) then (bnd (Xb y3.Things (wU (y2.1-1))) λ p4=>some (y3,(wU p4.Header.Length),0)) else none
def Qee (N:Nat) (a0:Wm) (a2:Int) (a3:Int) (a4:Int) (a5:UH):Option (Wm×Int×Int):=bnd (Qai N a0 5 a2 a3 a4 a5.Failed) λ y1=>bif (y1 != 0) then some (zWd,0,y1) else bnd (Qaf N a0 a2) λ y2=>bnd (Qaq N a0) λ y3=>bif (y2.1 != 0) then (bnd (Xb y3.Things (wU (y2.1-1))) λ p4=>some (y3,(wU p4.Header.Kind),0)) else none
def Qef (N:Nat) (a0:Wm) (a2:Int) (a3:Int) (a4:Int) (a5:UH):Option (Wm×Int×Int):=bnd (Qai N a0 6 a2 a3 a4 a5.Failed) λ y1=>bif (y1 != 0) then some (zWd,0,y1) else bnd (Qaf N a0 a2) λ y2=>bnd (Qaq N a0) λ y3=>bif (y2.1 != 0) then (bnd (Xb y3.Things (wU (y2.1-1))) λ p4=>bnd (Xb p4.Fields a3) λ p5=>some (y3,p5,0)) else none
def Qeg (N:Nat) (a0:Wm) (a2:Int) (a3:Int) (a4:Int) (a5:UH):Option (Wm×Int×Int):=bnd (Qai N a0 7 a2 a3 a4 a5.Failed) λ y1=>bif (y1 != 0) then some (zWd,0,y1) else bnd (Qaf N a0 a2) λ y2=>bif (y2.1 != 0) then bnd (Xb a0.Things (wU (y2.1-1))) λ p4=>bnd (Xb p4.Fields a3) λ p5=>some ((Wm.mk a0.Conf (a0.Things.set (wU (y2.1-1)).toNat (W5.mk p4.Header (p4.Fields.set a3.toNat a4))) a0.Locals a0.Globals a0.Weaks a0.Marks a0.Roots),0,0) else none
def Qeh (N:Nat) (a0:Wm) (a2:Int) (a3:Int) (a4:Int) (a5:UH):Option (Wm×Int×Int):=bnd (Qai N a0 8 a2 a3 a4 a5.Failed) λ y1=>bif (y1 != 0) then some (zWd,0,y1) else bnd (Qaf N a0 a2) λ y2=>bnd (Qaq N a0) λ y3=>bif (y2.1 != 0) then (bnd (Xb y3.Things (wU (y2.1-1))) λ p4=>bnd (Xb p4.Fields a3) λ p5=>jn (λ (x8:Int) (x9:Int) (x10:List UR) (x11:List UV) (x12:List Int)=>bif (x9 != 0) then some (zWd,0,x9) else some ((Wm.mk y3.Conf y3.Things (Ws.mk x10 x11 x12) y3.Globals y3.Weaks y3.Marks y3.Roots),x8,0)) λ j1=>bif (p5==0) then j1 0 0 y3.Locals.Slots y3.Locals.Scopes y3.Locals.Issued else bnd (Qbx N y3.Locals p5) λ y6=>bif (y6.2.2.2 != 0) then j1 0 y6.2.2.2 y3.Locals.Slots y3.Locals.Scopes y3.Locals.Issued else bnd (Qas N (UI.mk 1 y6.2.1 y6.2.2.1)) λ y7=>j1 y7.1 y7.2 y6.1.Slots y6.1.Scopes y6.1.Issued) else none
def Qei (N:Nat) (a0:Wm) (a2:Int) (a3:Int) (a4:Int) (a5:UH):Option (Wm×Int×Int):=bnd (Qai N a0 9 a2 a3 a4 a5.Failed) λ y1=>bif (y1 != 0) then some (zWd,0,y1) else bnd (Qaf N a0 a2) λ y2=>bif (y2.1 != 0) then bnd (Xb a0.Things (wU (y2.1-1))) λ p4=>bnd (Xb p4.Fields a3) λ p5=>bnd (Qaf N a0 a4) λ y6=>bif (y6.2 != 0) then some (zWd,0,y6.2) else some ((Wm.mk a0.Conf (a0.Things.set (wU (y2.1-1)).toNat (W5.mk p4.Header (p4.Fields.set a3.toNat y6.1))) a0.Locals a0.Globals a0.Weaks a0.Marks a0.Roots),0,0) else none
def Qde (N:Nat) (a0:Wm) (a2:Int) (a3:Int) (a4:Int) (a5:UH):Option (Wm×Int×Int):=bnd (Qai N a0 10 a2 a3 a4 a5.Failed) λ y1=>bif (y1 != 0) then some (zWd,0,y1) else bnd (Qaf N a0 a2) λ y2=>bnd (Qaq N a0) λ y3=>jn (λ (_:Unit)=>bnd (Qaf N y3 a3) λ y5=>jn (λ (x6:Int)=>some (y3,x6,0)) λ j2=>bif (y5.1==y2.1) then j2 1 else j2 0) λ j1=>bif (y2.1 != 0) then (bnd (Xb y3.Things (wU (y2.1-1))) λ p4=>j1 ()) else j1 ()
def Qdf (N:Nat) (a0:Wm) (a2:Int) (a3:Int) (a4:Int) (a5:UH):Option (Wm×Int×Int):=bnd (Qai N a0 11 a2 a3 a4 a5.Failed) λ y1=>bif (y1 != 0) then some (zWd,0,y1) else bnd (Qaf N a0 a2) λ y2=>bnd (Qaq N a0) λ y3=>jn (λ (_:Unit)=>jn (λ (x7:Int) (x8:Int) (x9:List UR) (x10:List UV) (x11:List Int)=>bif (x8 != 0) then some (zWd,0,x8) else some ((Wm.mk y3.Conf y3.Things (Ws.mk x9 x10 x11) y3.Globals y3.Weaks y3.Marks y3.Roots),x7,0)) λ j2=>bif (y2.1==0) then j2 0 0 y3.Locals.Slots y3.Locals.Scopes y3.Locals.Issued else bnd (Qbx N y3.Locals y2.1) λ y5=>bif (y5.2.2.2 != 0) then j2 0 y5.2.2.2 y3.Locals.Slots y3.Locals.Scopes y3.Locals.Issued else bnd (Qas N (UI.mk 1 y5.2.1 y5.2.2.1)) λ y6=>j2 y6.1 y6.2 y5.1.Slots y5.1.Scopes y5.1.Issued) λ j1=>bif (y2.1 != 0) then (bnd (Xb y3.Things (wU (y2.1-1))) λ p4=>j1 ()) else j1 ()
def Qdb (N:Nat) (a0:Ws) (a1:Int) (a2:Int):Option (Ws×Int):=bnd (Qgw N a0 a1 a2) λ y1=>bif (y1.2 != 0) then some ((Ws.mk [] [] []),y1.2) else bnd (Qd0 N a0) λ y2=>bnd (Xb y2.Slots a1) λ p3=>bnd (Xb (y2.Slots.set a1.toNat (UR.mk p3.Stamp 0 p3.Live)) a1) λ p4=>some ((Ws.mk ((y2.Slots.set a1.toNat (UR.mk p3.Stamp 0 p3.Live)).set a1.toNat (UR.mk p4.Stamp p4.Ref false)) y2.Scopes y2.Issued),0)
def Qbn (N:Nat) (a0:WC) (a1:Int) (a2:Int):Option (WC×Int):=bnd (QeV N a0 a1 a2) λ y1=>bif (y1 != 0) then some ((WC.mk []),y1) else bnd (QfK N a0) λ y2=>bnd (Xb y2.Entries a1) λ p3=>bnd (Xb (y2.Entries.set a1.toNat (WP.mk p3.Gen 0 p3.Live)) a1) λ p4=>some ((WC.mk ((y2.Entries.set a1.toNat (WP.mk p3.Gen 0 p3.Live)).set a1.toNat (WP.mk p4.Gen p4.Ref false))),0)
def Qdg (N:Nat) (a0:Wm) (a2:Int) (a3:Int) (a4:Int) (a5:UH):Option (Wm×Int×Int):=bnd (Qai N a0 12 a2 a3 a4 a5.Failed) λ y1=>bif (y1 != 0) then some (zWd,0,y1) else bnd (Qaf N a0 a2) λ y2=>bnd (Qaq N a0) λ y3=>jn (λ (_:Unit)=>bnd (Qbm N a2) λ y5=>bif (y5.2 != 0) then (bif (y5.2 != 0) then some (zWd,0,y5.2) else some (y3,0,0)) else bif (y5.1.Tag==1) then (bnd (Qdb N y3.Locals y5.1.Index y5.1.Stamp) λ y6=>bif (y6.2 != 0) then some (zWd,0,y6.2) else some ((Wm.mk y3.Conf y3.Things y6.1 y3.Globals y3.Weaks y3.Marks y3.Roots),0,0)) else bif (y5.1.Tag==2) then (bnd (Qbn N y3.Globals y5.1.Index y5.1.Stamp) λ y7=>bif (y7.2 != 0) then some (zWd,0,y7.2) else some ((Wm.mk y3.Conf y3.Things y3.Locals y7.1 y3.Weaks y3.Marks y3.Roots),0,0)) else bnd (Qbn N y3.Weaks y5.1.Index y5.1.Stamp) λ y8=>bif (y8.2 != 0) then some (zWd,0,y8.2) else some ((Wm.mk y3.Conf y3.Things y3.Locals y3.Globals y8.1 y3.Marks y3.Roots),0,0)) λ j1=>bif (y2.1 != 0) then (bnd (Xb y3.Things (wU (y2.1-1))) λ p4=>j1 ()) else j1 ()
def Qdh (N:Nat) (a0:Wm) (a2:Int) (a3:Int) (a4:Int) (a5:UH):Option (Wm×Int×Int):=bnd (Qai N a0 13 a2 a3 a4 a5.Failed) λ y1=>bif (y1 != 0) then some (zWd,0,y1) else bnd (Qaf N a0 a2) λ y2=>bnd (Qaq N a0) λ y3=>jn (λ (_:Unit)=>jn (λ (x7:Int) (x8:Int) (x9:List WP)=>bif (x8 != 0) then some (zWd,0,x8) else some ((Wm.mk y3.Conf y3.Things y3.Locals (WC.mk x9) y3.Weaks y3.Marks y3.Roots),x7,0)) λ j2=>bnd (Qfd N y3.Globals y2.1) λ y5=>bif (y5.2.2.2 != 0) then j2 0 y5.2.2.2 y3.Globals.Entries else bnd (Qas N (UI.mk 2 y5.2.1 y5.2.2.1)) λ y6=>j2 y6.1 y6.2 y5.1.Entries) λ j1=>bif (y2.1 != 0) then (bnd (Xb y3.Things (wU (y2.1-1))) λ p4=>j1 ()) else j1 ()
def Qdi (N:Nat) (a0:Wm) (a2:Int) (a3:Int) (a4:Int) (a5:UH):Option (Wm×Int×Int):=bnd (Qai N a0 14 a2 a3 a4 a5.Failed) λ y1=>bif (y1 != 0) then some (zWd,0,y1) else bnd (Qaf N a0 a2) λ y2=>bnd (Qaq N a0) λ y3=>jn (λ (_:Unit)=>bnd (Qbm N a2) λ y5=>bif (y5.2 != 0) then (bif (y5.2 != 0) then some (zWd,0,y5.2) else some (y3,0,0)) else bif (y5.1.Tag==1) then (bnd (Qdb N y3.Locals y5.1.Index y5.1.Stamp) λ y6=>bif (y6.2 != 0) then some (zWd,0,y6.2) else some ((Wm.mk y3.Conf y3.Things y6.1 y3.Globals y3.Weaks y3.Marks y3.Roots),0,0)) else bif (y5.1.Tag==2) then (bnd (Qbn N y3.Globals y5.1.Index y5.1.Stamp) λ y7=>bif (y7.2 != 0) then some (zWd,0,y7.2) else some ((Wm.mk y3.Conf y3.Things y3.Locals y7.1 y3.Weaks y3.Marks y3.Roots),0,0)) else bnd (Qbn N y3.Weaks y5.1.Index y5.1.Stamp) λ y8=>bif (y8.2 != 0) then some (zWd,0,y8.2) else some ((Wm.mk y3.Conf y3.Things y3.Locals y3.Globals y8.1 y3.Marks y3.Roots),0,0)) λ j1=>bif (y2.1 != 0) then (bnd (Xb y3.Things (wU (y2.1-1))) λ p4=>j1 ()) else j1 ()
def Qdj (N:Nat) (a0:Wm) (a2:Int) (a3:Int) (a4:Int) (a5:UH):Option (Wm×Int×Int):=bnd (Qai N a0 15 a2 a3 a4 a5.Failed) λ y1=>bif (y1 != 0) then some (zWd,0,y1) else bnd (Qaf N a0 a2) λ y2=>bnd (Qaq N a0) λ y3=>jn (λ (_:Unit)=>bnd (Qfd N y3.Weaks y2.1) λ y5=>bif (y5.2.2.2 != 0) then (bif (y5.2.2.2 != 0) then some (zWd,0,y5.2.2.2) else some (y3,0,0)) else bnd (Qas N (UI.mk 3 y5.2.1 y5.2.2.1)) λ y6=>bif (y6.2 != 0) then some (zWd,0,y6.2) else some ((Wm.mk y3.Conf y3.Things y3.Locals y3.Globals y5.1 y3.Marks y3.Roots),y6.1,0)) λ j1=>bif (y2.1 != 0) then (bnd (Xb y3.Things (wU (y2.1-1))) λ p4=>j1 ()) else j1 ()
def Qdk (N:Nat) (a0:Wm) (a2:Int) (a3:Int) (a4:Int) (a5:UH):Option (Wm×Int×Int):=bnd (Qai N a0 16 a2 a3 a4 a5.Failed) λ y1=>bif (y1 != 0) then some (zWd,0,y1) else bnd (Qaf N a0 a2) λ y2=>bnd (Qaq N a0) λ y3=>jn (λ (_:Unit)=>bnd (Qbm N a2) λ y5=>bif (y5.2 != 0) then (bif (y5.2 != 0) then some (zWd,0,y5.2) else some (y3,0,0)) else bif (y5.1.Tag==1) then (bnd (Qdb N y3.Locals y5.1.Index y5.1.Stamp) λ y6=>bif (y6.2 != 0) then some (zWd,0,y6.2) else some ((Wm.mk y3.Conf y3.Things y6.1 y3.Globals y3.Weaks y3.Marks y3.Roots),0,0)) else bif (y5.1.Tag==2) then (bnd (Qbn N y3.Globals y5.1.Index y5.1.Stamp) λ y7=>bif (y7.2 != 0) then some (zWd,0,y7.2) else some ((Wm.mk y3.Conf y3.Things y3.Locals y7.1 y3.Weaks y3.Marks y3.Roots),0,0)) else bnd (Qbn N y3.Weaks y5.1.Index y5.1.Stamp) λ y8=>bif (y8.2 != 0) then some (zWd,0,y8.2) else some ((Wm.mk y3.Conf y3.Things y3.Locals y3.Globals y8.1 y3.Marks y3.Roots),0,0)) λ j1=>bif (y2.1 != 0) then (bnd (Xb y3.Things (wU (y2.1-1))) λ p4=>j1 ()) else j1 ()
def Qdl (N:Nat) (a0:Wm) (a2:Int) (a3:Int) (a4:Int) (a5:UH):Option (Wm×Int×Int):=bnd (Qai N a0 17 a2 a3 a4 a5.Failed) λ y1=>bif (y1 != 0) then some (zWd,0,y1) else bnd (Qaf N a0 a2) λ y2=>bnd (Qaq N a0) λ y3=>jn (λ (_:Unit)=>bnd (Qfr N y3.Locals (wI a2)) λ y5=>bif (y5.2 != 0) then some (zWd,0,y5.2) else some ((Wm.mk y3.Conf y3.Things y5.1 y3.Globals y3.Weaks y3.Marks y3.Roots),0,0)) λ j1=>bif (y2.1 != 0) then (bnd (Xb y3.Things (wU (y2.1-1))) λ p4=>j1 ()) else j1 ()
def Qdm (N:Nat) (a0:Wm) (a2:Int) (a3:Int) (a4:Int) (a5:UH):Option (Wm×Int×Int):=bnd (Qai N a0 18 a2 a3 a4 a5.Failed) λ y1=>bif (y1 != 0) then some (zWd,0,y1) else bnd (Qaf N a0 a2) λ y2=>bnd (Qaq N a0) λ y3=>jn (λ (x13:Int) (x14:Int) (x15:List UR) (x16:List UV) (x17:List Int)=>bif (x14 != 0) then some (zWd,0,x14) else some ((Wm.mk y3.Conf y3.Things (Ws.mk x15 x16 x17) y3.Globals y3.Weaks y3.Marks y3.Roots),x13,0)) λ j3=>jn (λ (_:Unit)=>bnd (Qf2 N y3.Locals) λ y5=>bif (y5.2==0) then (jn (λ (x8:Int) (x9:Int) (x10:List UR) (x11:List UV) (x12:List Int)=>j3 x8 x9 x10 x11 x12) λ j2=>bif (y2.1==0) then j2 0 0 y5.1.Slots y5.1.Scopes y5.1.Issued else bnd (Qbx N y5.1 y2.1) λ y6=>bif (y6.2.2.2 != 0) then j2 0 y6.2.2.2 y5.1.Slots y5.1.Scopes y5.1.Issued else bnd (Qas N (UI.mk 1 y6.2.1 y6.2.2.1)) λ y7=>j2 y7.1 y7.2 y6.1.Slots y6.1.Scopes y6.1.Issued) else j3 0 y5.2 y5.1.Slots y5.1.Scopes y5.1.Issued) λ j1=>bif (y2.1 != 0) then (bnd (Xb y3.Things (wU (y2.1-1))) λ p4=>j1 ()) else j1 ()
def QfO (N:Nat) (a0:Uz) (a1:Int):Option Bool:=some (a0.Id==a1)
def Qah (N:Nat) (a0:List Uz) (c0:Int):Nat->Int->Option (Ex Int Unit)
 | 0,_=>none
 | n+1,v1 =>
  bif (decide (v1<((a0.length:Nat):Int))) then (bnd (Xb a0 v1) λ p2 =>
   bnd (QfO N p2 c0) λ y3 =>
   bif y3 then some (.ret v1)
   else Qah N a0 c0 n (wI (v1+1)))
  else some (.nxt ())
def Qan (N:Nat) (a0:List Uz) (c0:Int):Option Int:=bnd (Qah N a0 c0 N 0) λ e=>exK e (λ r=>some r) λ y4=>some (-1)
def Qdn (N:Nat) (a0:Wm) (a2:Int) (a3:Int) (a4:Int) (a5:UH):Option (Wm×Int×Int):=bnd (Qai N a0 19 a2 a3 a4 a5.Failed) λ y1=>bif (y1 != 0) then some (zWd,0,y1) else bnd (Qaf N a0 a2) λ y2=>bnd (Qaq N a0) λ y3=>bif (y2.1 != 0) then (bnd (Xb y3.Things (wU (y2.1-1))) λ p4=>bnd (Qan N y3.Marks y2.1) λ y5=>jn (λ (x6:Int) (x7:List Uz)=>bnd (Xb x7 x6) λ p8=>some ((Wm.mk y3.Conf y3.Things y3.Locals y3.Globals y3.Weaks (x7.set x6.toNat (Uz.mk p8.Id (wI (p8.Count+1)) p8.Base)) y3.Roots),p8.Base,0)) λ j1=>bif (decide (y5<0)) then (grd (y3.Marks.length<=140737488355328) <| grd ((y3.Marks.length+1)*24<=140737488355328) <| j1 ((y3.Marks.length:Nat):Int) (y3.Marks++[(Uz.mk y2.1 0 a5.Base)])) else j1 y5 y3.Marks) else none
def QcW (N:Nat) (a0:Uz):Option Bool:=some (a0.Count==0)
def Qad (N:Nat) (a0:List Uz):Nat->Int->Option (Ex Int Unit)
 | 0,_=>none
 | n+1,v1 =>
  bif (decide (v1<((a0.length:Nat):Int))) then (bnd (Xb a0 v1) λ p2 =>
   bnd (QcW N p2) λ y3 =>
   bif y3 then some (.ret v1)
   else Qad N a0 n (wI (v1+1)))
  else some (.nxt ())
def Qao (N:Nat) (a0:List Uz):Option Int:=bnd (Qad N a0 N 0) λ e=>exK e (λ r=>some r) λ y4=>some (-1)
def QbE (N:Nat) (y3:Wm):Nat->Int->Int->(List Uz)->Option (Int×List Uz)
 | 0,_,_,_=>none
 | n+1,v10,v11,v12 =>
  grd (v12.length<=140737488355328) <|
  bif (decide (v11<((v12.length:Nat):Int))) then (bnd (Xb v12 v11) λ p13 =>
   bnd (QcW N p13) λ y14 =>
   bif (!y14) then (bnd (Xb v12 v10) λ p15 =>
    QbE N y3 n (wI (v10+1)) (wI (v11+1)) (v12.set v10.toNat p13))
   else QbE N y3 n v10 (wI (v11+1)) v12)
  else some (v10,v12)
def Qdo (N:Nat) (a0:Wm) (a2:Int) (a3:Int) (a4:Int) (a5:UH):Option (Wm×Int×Int):=bnd (Qai N a0 20 a2 a3 a4 a5.Failed) λ y1=>bif (y1 != 0) then some (zWd,0,y1) else bnd (Qaf N a0 a2) λ y2=>bnd (Qaq N a0) λ y3=>bif (y2.1 != 0) then (bnd (Xb y3.Things (wU (y2.1-1))) λ p4=>bnd (Qan N y3.Marks y2.1) λ y5=>jn (λ (x6:Int) (x7:List Uz)=>bnd (Xb x7 x6) λ p8=>bnd (Qao N (x7.set x6.toNat (Uz.mk p8.Id (wI (p8.Count-1)) p8.Base))) λ y9=>bif (y9==(-1)) then some ((Wm.mk y3.Conf y3.Things y3.Locals y3.Globals y3.Weaks (x7.set x6.toNat (Uz.mk p8.Id (wI (p8.Count-1)) p8.Base)) y3.Roots),0,0) else bnd (QbE N y3 N y9 (wI (y9+1)) (x7.set x6.toNat (Uz.mk p8.Id (wI (p8.Count-1)) p8.Base))) λ y16=>grd (0<=y16.1/\y16.1<=((y16.2.length:Nat):Int)/\((y16.2.length:Nat):Int)<=((y16.2.length:Nat):Int)) <| grd (0<=y16.1/\y16.1<=(((((min y16.1.toNat y16.2.length)+(y16.2.length-y16.1.toNat))+(y16.2.length-(y16.1.toNat+(y16.2.length-y16.1.toNat)))):Nat):Int)) <| some ((Wm.mk y3.Conf y3.Things y3.Locals y3.Globals y3.Weaks ((((y16.2.take y16.1.toNat)++(List.replicate (y16.2.length-y16.1.toNat) (Uz.mk 0 0 0)))++(y16.2.drop (y16.1.toNat+(y16.2.length-y16.1.toNat)))).take y16.1.toNat) y3.Roots),0,0)) λ j1=>bif (decide (y5<0)) then (grd (y3.Marks.length<=140737488355328) <| grd ((y3.Marks.length+1)*24<=140737488355328) <| j1 ((y3.Marks.length:Nat):Int) (y3.Marks++[(Uz.mk y2.1 0 0)])) else j1 y5 y3.Marks) else none
def QfL (N:Nat) (a0:Wm) (a1:Int) (a2:Int) (a3:Int) (a4:Int) (a5:UH):Option (Wm×Int×Int):=bif (a1==1) then Qea N a0 a2 a3 a4 a5 else bif (a1==2) then Qeb N a0 a2 a3 a4 a5 else bif (a1==3) then Qec N a0 a2 a3 a4 a5 else bif (a1==4) then Qed N a0 a2 a3 a4 a5 else bif (a1==5) then Qee N a0 a2 a3 a4 a5 else bif (a1==6) then Qef N a0 a2 a3 a4 a5 else bif (a1==7) then Qeg N a0 a2 a3 a4 a5 else bif (a1==8) then Qeh N a0 a2 a3 a4 a5 else bif (a1==9) then Qei N a0 a2 a3 a4 a5 else bif (a1==10) then Qde N a0 a2 a3 a4 a5 else bif (a1==11) then Qdf N a0 a2 a3 a4 a5 else bif (a1==12) then Qdg N a0 a2 a3 a4 a5 else bif (a1==13) then Qdh N a0 a2 a3 a4 a5 else bif (a1==14) then Qdi N a0 a2 a3 a4 a5 else bif (a1==15) then Qdj N a0 a2 a3 a4 a5 else bif (a1==16) then Qdk N a0 a2 a3 a4 a5 else bif (a1==17) then Qdl N a0 a2 a3 a4 a5 else bif (a1==18) then Qdm N a0 a2 a3 a4 a5 else bif (a1==19) then Qdn N a0 a2 a3 a4 a5 else bif (a1==20) then Qdo N a0 a2 a3 a4 a5 else Qe8 N a0 a1 a2 a3 a4 a5
def Qej (N:Nat) (a0:Wm):Nat->Int->(List W5)->Option (List W5)
 | 0,_,_=>none
 | n+1,v1,v2 =>
  bif (decide (v1<((a0.Things.length:Nat):Int))) then (bnd (Xb a0.Things v1) λ p3 =>
   bnd (Xb a0.Things v1) λ p4 =>
   grd ((v2.length+1)*48<=140737488355328) <|
   Qej N a0 n (wI (v1+1)) (v2++[(W5.mk p3.Header p4.Fields)]))
  else some v2
def Qek (N:Nat) (a0:Wm) (y5:List W5):Nat->Int->(List Uz)->Option (List Uz)
 | 0,_,_=>none
 | n+1,v6,v7 =>
  bif (decide (v6<((a0.Marks.length:Nat):Int))) then (bnd (Xb a0.Marks v6) λ p8 =>
   bnd (Xb a0.Marks v6) λ p9 =>
   bnd (Xb a0.Marks v6) λ p10 =>
   grd ((v7.length+1)*24<=140737488355328) <|
   Qek N a0 y5 n (wI (v6+1)) (v7++[(Uz.mk p8.Id p9.Count p10.Base)]))
  else some v7
def QfM (N:Nat) (a0:Wm):Option Wm:=bnd (Qej N a0 N 0 []) λ y5=>bnd (Qek N a0 y5 N 0 []) λ y11=>some (Wm.mk a0.Conf y5 a0.Locals a0.Globals a0.Weaks y11 a0.Roots)
def QdA (N:Nat) (a0:List Int) (a1:List Int):Nat->Int->Option (Ex Bool Unit)
 | 0,_=>none
 | n+1,v1 =>
  bif (decide (v1<((a0.length:Nat):Int))) then (bnd (Xb a0 v1) λ p2 =>
   bnd (Xb a1 v1) λ p3 =>
   bif (p2 != p3) then some (.ret false)
   else QdA N a0 a1 n (wI (v1+1)))
  else some (.nxt ())
def Qgd (N:Nat) (a0:List Int) (a1:List Int):Option Bool:=bif (((a0.length:Nat):Int) != ((a1.length:Nat):Int)) then some false else bnd (QdA N a0 a1 N 0) λ e=>exK e (λ r=>some r) λ y4=>some true
def QdB (N:Nat) (a0:Ws) (a1:Ws):Nat->Int->Option (Ex Bool Unit)
 | 0,_=>none
 | n+1,v1 =>
  bif (decide (v1<((a0.Slots.length:Nat):Int))) then (bnd (Xb a0.Slots v1) λ p2 =>
   bnd (Xb a1.Slots v1) λ p3 =>
   bif (!((p2.Stamp==p3.Stamp)&&((p2.Ref==p3.Ref)&&(p2.Live==p3.Live)))) then some (.ret false)
   else QdB N a0 a1 n (wI (v1+1)))
  else some (.nxt ())
def QdC (N:Nat) (a0:Ws) (a1:Ws):Nat->Int->Option (Ex Bool Unit)
 | 0,_=>none
 | n+1,v5 =>
  bif (decide (v5<((a0.Scopes.length:Nat):Int))) then (bnd (Xb a0.Scopes v5) λ p6 =>
   bnd (Xb a1.Scopes v5) λ p7 =>
   bif (!((p6.From==p7.From)&&((p6.Cap==p7.Cap)&&(p6.Base==p7.Base)))) then some (.ret false)
   else QdC N a0 a1 n (wI (v5+1)))
  else some (.nxt ())
def QdD (N:Nat) (a0:Ws) (a1:Ws):Nat->Int->Option (Ex Bool Unit)
 | 0,_=>none
 | n+1,v9 =>
  bif (decide (v9<((a0.Issued.length:Nat):Int))) then (bnd (Xb a0.Issued v9) λ p10 =>
   bnd (Xb a1.Issued v9) λ p11 =>
   bif (p10 != p11) then some (.ret false)
   else QdD N a0 a1 n (wI (v9+1)))
  else some (.nxt ())
def QgE (N:Nat) (a0:Ws) (a1:Ws):Option Bool:=bif (((a0.Slots.length:Nat):Int) != ((a1.Slots.length:Nat):Int)) then some false else bif (((a0.Scopes.length:Nat):Int) != ((a1.Scopes.length:Nat):Int)) then some false else bif (((a0.Issued.length:Nat):Int) != ((a1.Issued.length:Nat):Int)) then some false else bnd (QdB N a0 a1 N 0) λ e=>exK e (λ r=>some r) λ y4=>bnd (QdC N a0 a1 N 0) λ e=>exK e (λ r=>some r) λ y8=>bnd (QdD N a0 a1 N 0) λ e=>exK e (λ r=>some r) λ y12=>some true
def QdE (N:Nat) (a0:WC) (a1:WC):Nat->Int->Option (Ex Bool Unit)
 | 0,_=>none
 | n+1,v1 =>
  bif (decide (v1<((a0.Entries.length:Nat):Int))) then (bnd (Xb a0.Entries v1) λ p2 =>
   bnd (Xb a1.Entries v1) λ p3 =>
   bif (!((p2.Gen==p3.Gen)&&((p2.Ref==p3.Ref)&&(p2.Live==p3.Live)))) then some (.ret false)
   else QdE N a0 a1 n (wI (v1+1)))
  else some (.nxt ())
def Qge (N:Nat) (a0:WC) (a1:WC):Option Bool:=bif (((a0.Entries.length:Nat):Int) != ((a1.Entries.length:Nat):Int)) then some false else bnd (QdE N a0 a1 N 0) λ e=>exK e (λ r=>some r) λ y4=>some true
def QdF (N:Nat) (a0:Wm) (a1:Wm):Nat->Int->Option (Ex Bool Unit)
 | 0,_=>none
 | n+1,v5 =>
  bif (decide (v5<((a0.Things.length:Nat):Int))) then (bnd (Xb a0.Things v5) λ p6 =>
   bnd (Xb a1.Things v5) λ p7 =>
   bif (!((p6.Header.Kind==p7.Header.Kind)&&((p6.Header.Length==p7.Header.Length)&&(p6.Header.Map==p7.Header.Map)))) then some (.ret false)
   else bnd (Xb a0.Things v5) λ p8 =>
   bnd (Xb a1.Things v5) λ p9 =>
   bnd (Qgd N p8.Fields p9.Fields) λ y10 =>
   bif (!y10) then some (.ret false)
   else QdF N a0 a1 n (wI (v5+1)))
  else some (.nxt ())
def QdG (N:Nat) (a0:Wm) (a1:Wm):Nat->Int->Option (Ex Bool Unit)
 | 0,_=>none
 | n+1,v12 =>
  bif (decide (v12<((a0.Marks.length:Nat):Int))) then (bnd (Xb a0.Marks v12) λ p13 =>
   bnd (Xb a1.Marks v12) λ p14 =>
   bif (!((p13.Id==p14.Id)&&((p13.Count==p14.Count)&&(p13.Base==p14.Base)))) then some (.ret false)
   else QdG N a0 a1 n (wI (v12+1)))
  else some (.nxt ())
def QgF (N:Nat) (a0:Wm) (a1:Wm):Option Bool:=bif (!((a0.Conf.PageWords==a1.Conf.PageWords)&&(a0.Conf.Pages==a1.Conf.Pages))) then some false else bif (((a0.Things.length:Nat):Int) != ((a1.Things.length:Nat):Int)) then some false else bif (((a0.Marks.length:Nat):Int) != ((a1.Marks.length:Nat):Int)) then some false else bnd (QgE N a0.Locals a1.Locals) λ y1=>bif (!y1) then some false else bnd (Qge N a0.Globals a1.Globals) λ y2=>bif (!y2) then some false else bnd (Qge N a0.Weaks a1.Weaks) λ y3=>bif (!y3) then some false else bnd (Qgd N a0.Roots a1.Roots) λ y4=>bif (!y4) then some false else bnd (QdF N a0 a1 N 0) λ e=>exK e (λ r=>some r) λ y11=>bnd (QdG N a0 a1 N 0) λ e=>exK e (λ r=>some r) λ y15=>some true
def QcH (N:Nat) (a0:Wm):Nat->Int->(List W5)->Option (List W5)
 | 0,_,_=>none
 | n+1,v1,v2 =>
  bif (decide (v1<((a0.Things.length:Nat):Int))) then (bnd (Xb a0.Things v1) λ p3 =>
   bnd (Xb a0.Things v1) λ p4 =>
   grd ((v2.length+1)*48<=140737488355328) <|
   QcH N a0 n (wI (v1+1)) (v2++[(W5.mk p3.Header p4.Fields)]))
  else some v2
def QcI (N:Nat) (a0:Wm) (y5:List W5):Nat->Int->(List Uz)->Option (List Uz)
 | 0,_,_=>none
 | n+1,v6,v7 =>
  bif (decide (v6<((a0.Marks.length:Nat):Int))) then (bnd (Xb a0.Marks v6) λ p8 =>
   bnd (Xb a0.Marks v6) λ p9 =>
   bnd (Xb a0.Marks v6) λ p10 =>
   grd ((v7.length+1)*24<=140737488355328) <|
   QcI N a0 y5 n (wI (v6+1)) (v7++[(Uz.mk p8.Id p9.Count p10.Base)]))
  else some v7
def QeK (N:Nat) (a0:Wm):Option Wm:=bnd (QcH N a0 N 0 []) λ y5=>bnd (QcI N a0 y5 N 0 []) λ y11=>some (Wm.mk a0.Conf y5 a0.Locals a0.Globals a0.Weaks y11 a0.Roots)
def QgR (N:Nat):Option Bool:=bnd (QfZ N [] 0) λ y1=>bnd (QfM N y1.World) λ y2=>bnd (QfL N y2 3 3 0 0 (UH.mk false false 0)) λ y3=>bif (y3.2.2==0) then (bif (y3.2.1==262145) then (bif (((y3.1.Things.length:Nat):Int)==1) then (bnd (Xb y3.1.Things 0) λ p4=>some (((p4.Fields.length:Nat):Int)==3)) else some false) else some false) else some false
def QbT (N:Nat) (a0:Wm) (a1:List Int) (a2:List Int) (a7:UH) (y1:IL):Nat->Int->(List Int)->Int->(List I4)->Option (List I4)
 | 0,_,_,_,_=>none
 | n+1,v2,v3,v4,v5 =>
  bif (decide (v2<5)) then (bnd (QbN N y1 (Ir.mk v3 v4)) λ y6 =>
   grd ((v5.length+1)*32<=140737488355328) <|
   QbT N a0 a1 a2 a7 y1 n (wI (v2+1)) y6.2.L y6.2.at_ (v5++[y6.1]))
  else some v5
def QaX (N:Nat) (a7:UH) (y7:List I4) (y8:List Wm) (p10:Wm) (v9:Int):Nat->Int->Option (Ex Bool Unit)
 | 0,_=>none
 | n+1,v11 =>
  bif (decide (v11<((y7.length:Nat):Int))) then (bnd (Xb y7 v11) λ p12 =>
   bnd (QfM N p10) λ y13 =>
   bnd (QfL N y13 p12.Op p12.A p12.B p12.C a7) λ y14 =>
   bnd (Qaa N p10 p12.Op p12.A p12.B p12.C a7) λ y15 =>
   bif (y14.2.2 != y15.2.2) then some (.ret false)
   else bif (y14.2.1 != y15.2.1) then some (.ret false)
   else bnd (QeK N y14.1) λ y16 =>
   bnd (QgF N y16 y15.1) λ y17 =>
   bif (!y17) then some (.ret false)
   else QaX N a7 y7 y8 p10 v9 n (wI (v11+1)))
  else some (.nxt ())
def QaY (N:Nat) (a7:UH) (y7:List I4) (y8:List Wm):Nat->Int->Option (Ex Bool Unit)
 | 0,_=>none
 | n+1,v9 =>
  bif (decide (v9<((y8.length:Nat):Int))) then (bnd (Xb y8 v9) λ p10 =>
   grd (y7.length<=140737488355328) <|
   bnd (QaX N a7 y7 y8 p10 v9 N 0) λ e=>exK e (λ r=>some (.ret r)) λ y18 =>
   QaY N a7 y7 y8 n (wI (v9+1)))
  else some (.nxt ())
def QdI (N:Nat) (a0:Wm) (a1:List Int) (a2:List Int) (a3:Int) (a4:Int) (a5:Int) (a6:Int) (a7:UH):Option Bool:=bnd (QfZ N a1 60) λ y1=>bnd (QbT N a0 a1 a2 a7 y1 N 0 a2 0 [(I4.mk a3 a4 a5 a6),(I4.mk (wI ((a3.tmod 21)+1)) (a4.tmod 1048576) (a5.tmod 4) a6)]) λ y7=>bnd (Qf0 N a0 a1 a2) λ y8=>bnd (QaY N a7 y7 y8 N 0) λ e=>exK e (λ r=>some r) λ y19=>bnd (QgR N ) λ y20=>some y20
end Go.Sx
