import Derived.Test.YtgdhlnfcogcicaaGreatDoorSF
import Derived.Test.YtgdhlnfcogcicaaGreatDoorSG3
import Derived.Test.YtgdhlnfcogcicaaGreatDoorSG7
import Derived.Test.YtgdhlnfcogcicaaGreatDoorSG9
import Derived.Test.YtgdhlnfcogcicaaGreatDoorSG11
import Derived.Test.YtgdhlnfcogcicaaGreatDoorSG12
import Derived.Test.YtgdhlnfcogcicaaGreatDoorSG13
import Derived.Test.YtgdhlnfcogcicaaGreatDoorSG14
import Derived.Test.YtgdhlnfcogcicaaGreatDoorSG16
set_option linter.all false
namespace Go.Sx
open Go.Proofs
set_option maxRecDepth 10000
set_option maxHeartbeats 100000000
instance Qmw:∀ N (a0:TWorld) (a1:Int) (a2:Int) (a3:Int) (a4:Int) (a5:TFact),OK (Qed N a0 a1 a2 a3 a4 a5) 13 [.agg (e36 a0),.v (.int .i64 a1),.v (.int .u64 a2),.v (.int .u64 a3),.v (.int .u64 a4),.agg (e39 a5)] [] (fun r=>.tup [.agg (e36 r.1),.v (.int .u64 r.2.1),.v (.int .i64 r.2.2)]) fun r=>[]:=by
 refine fun N _ _ _ _ _ _=>rn Tryz.f13 [.cell 12 36,.tmp 13,.tmp 14] [] 234 (by kernel_rfl) ?_<;>(rintro _ hw r hr C _ rfl hwf hf;simp only[Tryz.f13,Option.get!];(rw[Qed] at hr);repeat' first
 |(refine El.el hr ?_;intro hr)
 |(with_reducible intro h;refine bc_e hr h ?_;intro hr)
 |with_reducible intro _
 |simp only[go_sem,simprocAttr,hl37,hl115]
 |(with_reducible first|apply guard_of_f|apply guard_of_t|apply cond_of|apply doT_of_t|apply doT_of_f)
 |((first|with_reducible refine idx_s hr (by assumption) ?_ ?_|(with_reducible refine idx_e hr ?_ ?_;rotate_left;intro p;rotate_right));(·simp only[go_sem,simprocAttr]);intro hp hn hd hr;(try have hl37:=hd _ e37);(try simp only[go_sem,simprocAttr] at hl37);(try have hl115:=hd _ e115);(try simp only[go_sem,simprocAttr] at hl115))
 |(refine and_of' ?_ ?_;·first|assumption|omega)
 |with_reducible refine CallX.c ?_ _
 |with_reducible refine OK.c hr hw ?_ (fun y hr=>?_) _
 |with_reducible refine OK.d hr hw ?_ (fun y hr=>?_) _
 |refine db 13 16 hf [([],[4864],[77,78,80,81,82,83,84,85],[5312,5440]),([],[],[76,80,81,82,83,84,85],[4864,5312,5440]),([1],[],[76,80,81,82,83,84,85],[4864,5312,5440]),([0,1,2],[4864],[80,81,82,83,84,85],[5312,5440]),([],[],[76,77,78,79,81,82,83],[4864,5312]),([],[],[76,77,78,79,80],[4864]),([5],[],[76,77,78,79,80],[4864]),([5,6],[5312],[76,77,78,79,80],[4864]),([4,5,6,7],[],[76,77,78,79],[4864]),([4,5,6,7,8],[5312,5440],[76,77,78,79],[4864]),([0,1,2,3,4,5,6,7,8,9],[4864],[],[]),([0,1,2,3,4,5,6,7,8,9,10],[],[],[]),([0,1,2,3,4,5,6,7,8,9,10,11],[384],[],[])] rfl rfl (by kernel_rfl) ?_ _
 |refine db 13 27 hf [([],[],[143,144,145,146,147,148,149,150,151,152],[]),([],[],[142,145,146,150],[]),([1],[],[142,145,146,150],[]),([],[],[142,143,144,150],[]),([3],[],[142,143,144,150],[]),([1,2,3,4],[],[142,150],[]),([1,2,3,4,5],[],[142,150],[]),([1,2,3,4,5,6],[],[142,150],[]),([],[],[142,143,144,145,146,147,148,149],[]),([1,2,3,4,5,6,7,8],[],[142],[]),([1,2,3,4,5,6,7,8,9],[],[142],[]),([0,1,2,3,4,5,6,7,8,9,10],[],[],[]),([0,1,2,3,4,5,6,7,8,9,10,11],[],[],[]),([0,1,2,3,4,5,6,7,8,9,10,11,12],[],[155],[]),([0,1,2,3,4,5,6,7,8,9,10,11,12],[],[154],[384]),([0,1,2,3,4,5,6,7,8,9,10,11,12,13],[384],[155],[]),([0,1,2,3,4,5,6,7,8,9,10,11,12,13,14,15],[],[],[])] rfl rfl (by kernel_rfl) ?_ _
 |(refine some_e hr ?_;rintro rfl;with_reducible refine ret_k ?_)
 |exact no_e hr
 |fail)
end Go.Sx
