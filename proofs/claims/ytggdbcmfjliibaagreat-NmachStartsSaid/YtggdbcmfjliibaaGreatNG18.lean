import Derived.Test.YtggdbcmfjliibaaGreatNF
import Derived.Test.YtggdbcmfjliibaaGreatNG6
import Derived.Test.YtggdbcmfjliibaaGreatNG17
set_option linter.all false
namespace Go.Sx
open Go.Proofs
set_option maxRecDepth 10000
set_option maxHeartbeats 100000000
instance law23_awake_i:∀ N ,OK (law23_awake N) 10 [] [] (fun r=>.v (.bool r)) fun r=>[]:=by
 refine fun N=>rn Tryz.f10 [.tmp 0] [] 57 (by kernel_rfl) ?_<;>(rintro _ hw r hr C _ rfl hwf hf;simp only[Tryz.f10,Option.get!];(rw[law23_awake] at hr);repeat' first
 |(refine El.el hr ?_;intro hr)
 |(with_reducible intro h;refine bc_e hr h ?_;intro hr)
 |with_reducible intro _
 |simp only[go_sem,simprocAttr,hl38]
 |(with_reducible first|apply guard_of_f|apply guard_of_t|apply cond_of|apply doT_of_t|apply doT_of_f)
 |((first|with_reducible refine idx_s hr (by assumption) ?_ ?_|(with_reducible refine idx_e hr ?_ ?_;rotate_left;intro p;rotate_right));(·simp only[go_sem,simprocAttr]);intro hp hn hd hr;(try have hl38:=hd _ e38);(try simp only[go_sem,simprocAttr] at hl38))
 |(refine and_of' ?_ ?_;·first|assumption|omega)
 |(with_reducible refine idl_e hr ?_ ?_;(·simp only[go_sem]);intro p hp hn hd hr;(try have hl38:=hd _ e38);(try simp only[go_sem,simprocAttr] at hl38))
 |(with_reducible first|refine CallX.c ?_ _|refine OK.c hr hw ?_ (fun y hr=>?_) _|refine OK.d hr hw ?_ (fun y hr=>?_) _)
 |refine db 10 3 hf 4 [(0,196623,[[],[256,320,384,448]]),(1,196623,[[],[256,320,384,448]]),(0,180239,[[],[256,320,384,448]]),(0,114703,[[],[256,320,384,448]]),(15,15,[[640],[256,320,384,448]]),(31,15,[[],[256,320,384,448]]),(63,15728655,[[],[256,320,384,448]]),(63,15204367,[[],[256,320,384,448]]),(63,14155791,[[],[256,320,384,448]]),(63,12058639,[[],[256,320,384,448]]),(63,7864335,[[],[256,320,384,448]]),(0,16769038,[[256],[320,384,448,640]]),(0,16769037,[[320],[256,384,448,640]]),(0,16769035,[[384],[256,320,448,640]]),(0,16769031,[[448],[256,320,384,640]]),(30847,15728640,[[256],[]]),(63743,14680064,[[320],[]]),(129535,12582912,[[384],[]]),(261119,8388608,[[448],[]]),(524287,0,[])] rfl rfl (by kernel_rfl) ?_ _
 |(refine some_e hr ?_;rintro rfl;with_reducible refine ret_k ?_)
 |exact no_e hr
 |fail)
end Go.Sx
