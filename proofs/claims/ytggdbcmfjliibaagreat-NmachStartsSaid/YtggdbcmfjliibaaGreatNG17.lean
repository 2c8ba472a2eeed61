import Derived.Test.YtggdbcmfjliibaaGreatNF
import Derived.Test.YtggdbcmfjliibaaGreatNG1
import Derived.Test.YtggdbcmfjliibaaGreatNG2
import Derived.Test.YtggdbcmfjliibaaGreatNG4
import Derived.Test.YtggdbcmfjliibaaGreatNG6
import Derived.Test.YtggdbcmfjliibaaGreatNG16
set_option linter.all false
namespace Go.Sx
open Go.Proofs
set_option maxRecDepth 10000
set_option maxHeartbeats 100000000
instance nmach_Step_i:∀ N (a0:TEnv) (a1:TCode) (a2:TFrame),OK (nmach_Step N a0 a1 a2) 16 [.agg (e70 a0),.agg (e34 a1),.agg (e29 a2)] [] (fun r=>.tup [.agg (e70 r.1),.agg (e29 r.2.1),.agg (e72 r.2.2.1),.agg (e74 r.2.2.2.1),.v (.int .i64 r.2.2.2.2)]) fun r=>[]:=by
 refine fun N _ _ _=>rn Tryz.f16 [.cell 6 70,.cell 7 29,.cell 8 72,.cell 9 74,.tmp 10] [] 61 (by kernel_rfl) ?_<;>(rintro _ hw r hr C _ rfl hwf hf;simp only[Tryz.f16,Option.get!];(rw[nmach_Step] at hr);repeat' first
 |(refine El.el hr ?_;intro hr)
 |(with_reducible intro h;refine bc_e hr h ?_;intro hr)
 |with_reducible intro _
 |simp only[go_sem,simprocAttr,hl38,List.length_take,List.length_drop,Nat.min_self]
 |(with_reducible first|apply guard_of_f|apply guard_of_t|apply cond_of|apply doT_of_t|apply doT_of_f)
 |((first|with_reducible refine idx_s hr (by assumption) ?_ ?_|(with_reducible refine idx_e hr ?_ ?_;rotate_left;intro p;rotate_right));(·simp only[go_sem,simprocAttr,List.length_take,List.length_drop,Nat.min_self]);intro hp hn hd hr;(try have hl38:=hd _ e38);(try simp only[go_sem,simprocAttr] at hl38))
 |(refine and_of' ?_ ?_;·first|assumption|omega)
 |(refine CallX.inl (f:=24) 800 (fn:=Tryz.f24) (rs:=[.cell 6 29,.cell 7 72,.tmp 8]) (nt:=43) 1000 (by kernel_rfl) (fun x=>?_) _;simp only[Tryz.f24,Option.get!])
 |(refine CallX.inl (f:=45) 400 (fn:=Tryz.f45) (rs:=[.cell 6 72]) (nt:=204) 1000 (by kernel_rfl) (fun x=>?_) _;simp only[Tryz.f45,Option.get!])
 |(with_reducible first|refine CallX.c ?_ _|refine OK.c hr hw ?_ (fun y hr=>?_) _|refine OK.d hr hw ?_ (fun y hr=>?_) _)
 |refine db 16 9 hf 51 [(0,1008,[]),(1,1008,[]),(3,1008,[]),(7,1008,[]),(0,1007,[[],[384]]),(0,991,[[],[384,448]]),(0,63,[[],[384,448,512]]),(64,63,[[],[384,448,512]]),(192,63,[[],[384,448,512]]),(448,63,[[],[384,448,512]]),(15,1008,[[384],[]]),(1055,992,[[448],[]]),(3135,960,[[512],[]]),(8191,0,[[576],[]]),(16383,0,[])] rfl rfl (by kernel_rfl) ?_ _
 |refine db 24 9 ⟨⟩ 41 [(0,2,[]),(0,1,[[],[51584]]),(1,2,[[51584],[]]),(7,0,[[51648],[]]),(15,0,[])] rfl rfl (by kernel_rfl) ?_ _
 |refine db 45 7 ⟨⟩ 47 [(0,254,[]),(0,249,[]),(2,249,[]),(0,55,[]),(0,15,[]),(16,15,[]),(56,7,[]),(120,7,[]),(255,0,[]),(511,0,[])] rfl rfl (by kernel_rfl) ?_ _
 |refine db 45 14 ⟨⟩ 8 [(0,585573443875836006498304,[]),(0,4354021897205812887027712,[]),(0,4259574567548419982753792,[]),(4,4259574567548419982753792,[]),(14,4240685101616941401899008,[]),(30,4240685101616941401899008,[]),(1,585573443875836006498304,[]),(65,585573443875836006498304,[]),(193,585573443875836006498304,[]),(511,0,[]),(1023,0,[]),(2047,19342813113834066795298816,[]),(2047,9671406556917033397649409,[]),(4095,19342813113834066795298816,[]),(16383,0,[])] rfl rfl (by kernel_rfl) ?_ _
 |refine db 45 19 ⟨⟩ 106 [(0,2046,[]),(0,16333,[]),(0,16323,[]),(4,16323,[]),(14,16321,[]),(30,16321,[]),(0,14783,[]),(0,14463,[]),(128,14463,[]),(448,14399,[]),(960,14399,[]),(1,2046,[]),(2049,2046,[]),(6145,2046,[]),(16383,0,[]),(32767,0,[])] rfl rfl (by kernel_rfl) ?_ _
 |refine db 45 24 ⟨⟩ 129 [(0,240,[]),(1,240,[]),(3,240,[]),(7,240,[]),(0,111,[]),(0,31,[]),(32,31,[]),(112,15,[]),(255,0,[])] rfl rfl (by kernel_rfl) ?_ _
 |refine db 45 36 ⟨⟩ 177 [(0,510,[]),(0,505,[]),(2,505,[]),(0,1015,[]),(0,15,[]),(16,15,[]),(48,15,[]),(112,15,[]),(240,15,[]),(503,8,[]),(1015,8,[]),(2047,0,[]),(4095,0,[]),(8191,0,[])] rfl rfl (by kernel_rfl) ?_ _
 |refine db 45 3 ⟨⟩ 20 [(0,65534,[]),(0,65529,[]),(2,65529,[]),(0,32743,[]),(8,32743,[]),(0,31967,[]),(0,31807,[]),(64,31807,[]),(224,31775,[]),(480,31775,[]),(0,7167,[]),(0,2047,[]),(2048,2047,[]),(7168,1023,[]),(15360,1023,[]),(32760,7,[]),(65535,0,[]),(131071,0,[])] rfl rfl (by kernel_rfl) ?_ _
 |(refine some_e hr ?_;rintro rfl;with_reducible refine ret_k ?_)
 |exact no_e hr
 |fail)
end Go.Sx
