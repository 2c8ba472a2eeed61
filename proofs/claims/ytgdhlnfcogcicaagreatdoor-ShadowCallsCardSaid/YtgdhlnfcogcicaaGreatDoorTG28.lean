import Derived.Test.YtgdhlnfcogcicaaGreatDoorTF
import Derived.Test.YtgdhlnfcogcicaaGreatDoorTG24
import Derived.Test.YtgdhlnfcogcicaaGreatDoorTG25
import Derived.Test.YtgdhlnfcogcicaaGreatDoorTG26
set_option linter.all false
namespace Go.Sx
open Go.Proofs
set_option maxRecDepth 10000
set_option maxHeartbeats 100000000
instance Qnx:∀ N (a0:Wm) (a1:Int) (a2:Int) (a3:Int) (a4:Int) (a5:UH),OK (QfL N a0 a1 a2 a3 a4 a5) 11 [.agg (e61 a0),.v (.int .i64 a1),.v (.int .u64 a2),.v (.int .u64 a3),.v (.int .u64 a4),.agg (e66 a5)] [] (λ r=>.tup [.agg (e61 r.1),.v (.int .u64 r.2.1),.v (.int .i64 r.2.2)]) λ r=>[]:=by
 refine λ N a0 a1 a2 a3 a4 a5=>⟨λ G hw r hr=>?_⟩
 rw[QfL] at hr
 by_cases h1:a1=1
 ·subst h1
  exact (OK.h (o:=Qea N a0 a2 a3 a4 a5)) G hw r hr
 by_cases h2:a1=2
 ·subst h2
  exact (OK.h (o:=Qeb N a0 a2 a3 a4 a5)) G hw r hr
 by_cases h3:a1=3
 ·subst h3
  exact (OK.h (o:=Qec N a0 a2 a3 a4 a5)) G hw r hr
 by_cases h4:a1=4
 ·subst h4
  exact (OK.h (o:=Qed N a0 a2 a3 a4 a5)) G hw r hr
 by_cases h5:a1=5
 ·subst h5
  exact (OK.h (o:=Qee N a0 a2 a3 a4 a5)) G hw r hr
 by_cases h6:a1=6
 ·subst h6
  exact (OK.h (o:=Qef N a0 a2 a3 a4 a5)) G hw r hr
 by_cases h7:a1=7
 ·subst h7
  exact (OK.h (o:=Qeg N a0 a2 a3 a4 a5)) G hw r hr
 by_cases h8:a1=8
 ·subst h8
  exact (OK.h (o:=Qeh N a0 a2 a3 a4 a5)) G hw r hr
 by_cases h9:a1=9
 ·subst h9
  exact (OK.h (o:=Qei N a0 a2 a3 a4 a5)) G hw r hr
 by_cases h10:a1=10
 ·subst h10
  exact (OK.h (o:=Qde N a0 a2 a3 a4 a5)) G hw r hr
 by_cases h11:a1=11
 ·subst h11
  exact (OK.h (o:=Qdf N a0 a2 a3 a4 a5)) G hw r hr
 by_cases h12:a1=12
 ·subst h12
  exact (OK.h (o:=Qdg N a0 a2 a3 a4 a5)) G hw r hr
 by_cases h13:a1=13
 ·subst h13
  exact (OK.h (o:=Qdh N a0 a2 a3 a4 a5)) G hw r hr
 by_cases h14:a1=14
 ·subst h14
  exact (OK.h (o:=Qdi N a0 a2 a3 a4 a5)) G hw r hr
 by_cases h15:a1=15
 ·subst h15
  exact (OK.h (o:=Qdj N a0 a2 a3 a4 a5)) G hw r hr
 by_cases h16:a1=16
 ·subst h16
  exact (OK.h (o:=Qdk N a0 a2 a3 a4 a5)) G hw r hr
 by_cases h17:a1=17
 ·subst h17
  exact (OK.h (o:=Qdl N a0 a2 a3 a4 a5)) G hw r hr
 by_cases h18:a1=18
 ·subst h18
  exact (OK.h (o:=Qdm N a0 a2 a3 a4 a5)) G hw r hr
 by_cases h19:a1=19
 ·subst h19
  exact (OK.h (o:=Qdn N a0 a2 a3 a4 a5)) G hw r hr
 by_cases h20:a1=20
 ·subst h20
  exact (OK.h (o:=Qdo N a0 a2 a3 a4 a5)) G hw r hr
 rw[WY.2 h1,Wa] at hr
 rw[WY.2 h2,Wa] at hr
 rw[WY.2 h3,Wa] at hr
 rw[WY.2 h4,Wa] at hr
 rw[WY.2 h5,Wa] at hr
 rw[WY.2 h6,Wa] at hr
 rw[WY.2 h7,Wa] at hr
 rw[WY.2 h8,Wa] at hr
 rw[WY.2 h9,Wa] at hr
 rw[WY.2 h10,Wa] at hr
 rw[WY.2 h11,Wa] at hr
 rw[WY.2 h12,Wa] at hr
 rw[WY.2 h13,Wa] at hr
 rw[WY.2 h14,Wa] at hr
 rw[WY.2 h15,Wa] at hr
 rw[WY.2 h16,Wa] at hr
 rw[WY.2 h17,Wa] at hr
 rw[WY.2 h18,Wa] at hr
 rw[WY.2 h19,Wa] at hr
 rw[WY.2 h20,Wa] at hr
 exact OK.h G hw r hr
end Go.Sx
