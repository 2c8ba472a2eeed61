import Derived.Test.YtjmgebidnekjdaaGreatProg
import Derived.Test.YtjmgebidnekjdaaGreatLR
import Derived.Test.YtjmgebidnekjdaaGreatLI
set_option linter.all false
namespace Go.Sx
open Go.Proofs
theorem ty3:Xm Tryz.prog 3=some ⟨1,8,(.int .i64 0),.int .i64⟩:=by kernel_rfl
theorem Xmh:Tryz.prog.bytesOf 3=8:=by kernel_rfl
theorem ty4:Xm Tryz.prog 4=some ⟨1,1,(.bool false),.bool⟩:=by kernel_rfl
theorem Xqd:Tryz.prog.bytesOf 4=1:=by kernel_rfl
theorem ty9:Xm Tryz.prog 9=some ⟨1,16,(.string (ByteArray.mk #[])),.str⟩:=by kernel_rfl
theorem Xro:Xm Tryz.prog 23=some ⟨2,16,(.agg #[(.int .i64 0),(.int .i64 0)]),.struct [(0,1,3),(1,1,3)]⟩:=by kernel_rfl
theorem Xow:Tryz.prog.bytesOf 23=16:=by kernel_rfl
theorem Xqe:Yc Tryz.prog 23=some [some .i64,some .i64]:=by kernel_rfl
theorem Xrp:Xm Tryz.prog 24=some ⟨1,24,(.slice none 0 0),.slice 76 1⟩:=by kernel_rfl
theorem Xox:Tryz.prog.bytesOf 24=24:=by kernel_rfl
theorem Xrq:Xm Tryz.prog 25=some ⟨1,24,(.slice none 0 0),.slice 136 4⟩:=by kernel_rfl
theorem Xrr:Xm Tryz.prog 27=some ⟨6,80,(.agg #[(.int .i64 0),(.int .i64 0),(.slice none 0 0),(.slice none 0 0),(.int .i64 0),(.int .i64 0)]),.struct [(0,2,23),(2,1,24),(3,1,25),(4,1,3),(5,1,3)]⟩:=by kernel_rfl
theorem Xoy:Tryz.prog.bytesOf 27=80:=by kernel_rfl
theorem Xrs:Xm Tryz.prog 28=some ⟨1,24,(.slice none 0 0),.slice 88 3⟩:=by kernel_rfl
theorem Xrt:Xm Tryz.prog 29=some ⟨1,24,(.slice none 0 0),.slice 94 3⟩:=by kernel_rfl
theorem Xru:Xm Tryz.prog 30=some ⟨1,24,(.slice none 0 0),.slice 3 1⟩:=by kernel_rfl
theorem Xrv:Xm Tryz.prog 32=some ⟨3,72,(.agg #[(.slice none 0 0),(.slice none 0 0),(.slice none 0 0)]),.struct [(0,1,28),(1,1,29),(2,1,30)]⟩:=by kernel_rfl
theorem Xoz:Tryz.prog.bytesOf 32=72:=by kernel_rfl
theorem Xrw:Xm Tryz.prog 33=some ⟨1,24,(.slice none 0 0),.slice 90 3⟩:=by kernel_rfl
theorem Xrx:Xm Tryz.prog 35=some ⟨1,24,(.agg #[(.slice none 0 0)]),.struct [(0,1,33)]⟩:=by kernel_rfl
theorem XoA:Tryz.prog.bytesOf 35=24:=by kernel_rfl
theorem Xry:Xm Tryz.prog 36=some ⟨1,24,(.slice none 0 0),.slice 92 2⟩:=by kernel_rfl
theorem Xrz:Xm Tryz.prog 38=some ⟨13,248,(.agg #[(.int .i64 0),(.int .i64 0),(.slice none 0 0),(.slice none 0 0),(.int .i64 0),(.int .i64 0),(.slice none 0 0),(.slice none 0 0),(.slice none 0 0),(.slice none 0 0),(.slice none 0 0),(.slice none 0 0),(.slice none 0 0)]),.struct [(0,6,27),(6,3,32),(9,1,35),(10,1,35),(11,1,36),(12,1,24)]⟩:=by kernel_rfl
theorem XoB:Tryz.prog.bytesOf 38=248:=by kernel_rfl
theorem XrA:Xm Tryz.prog 39=some ⟨1,24,(.slice none 0 0),.slice 74 4⟩:=by kernel_rfl
theorem XrB:Xm Tryz.prog 40=some ⟨1,24,(.slice none 0 0),.slice 96 3⟩:=by kernel_rfl
theorem XrC:Xm Tryz.prog 42=some ⟨10,208,(.agg #[(.int .i64 0),(.int .i64 0),(.slice none 0 0),(.slice none 0 0),(.slice none 0 0),(.slice none 0 0),(.slice none 0 0),(.slice none 0 0),(.slice none 0 0),(.slice none 0 0)]),.struct [(0,2,23),(2,1,39),(3,3,32),(6,1,35),(7,1,35),(8,1,40),(9,1,24)]⟩:=by kernel_rfl
theorem XoC:Tryz.prog.bytesOf 42=208:=by kernel_rfl
theorem Xs2:Xm Tryz.prog 46=some ⟨24,480,(.agg #[(.int .i64 0),(.int .i64 0),(.slice none 0 0),(.slice none 0 0),(.int .i64 0),(.int .i64 0),(.slice none 0 0),(.slice none 0 0),(.slice none 0 0),(.slice none 0 0),(.slice none 0 0),(.slice none 0 0),(.slice none 0 0),(.int .i64 0),(.int .i64 0),(.slice none 0 0),(.slice none 0 0),(.slice none 0 0),(.slice none 0 0),(.slice none 0 0),(.slice none 0 0),(.slice none 0 0),(.slice none 0 0),(.slice none 0 0)]),.struct [(0,13,38),(13,10,42),(23,1,24)]⟩:=by kernel_rfl
theorem XoD:Tryz.prog.bytesOf 46=480:=by kernel_rfl
theorem Xs3:Xm Tryz.prog 50=some ⟨2,32,(.agg #[(.slice none 0 0),(.int .i64 0)]),.struct [(0,1,30),(1,1,3)]⟩:=by kernel_rfl
theorem XoE:Tryz.prog.bytesOf 50=32:=by kernel_rfl
theorem Xs4:Xm Tryz.prog 52=some ⟨1,24,(.slice none 0 0),.slice 38 13⟩:=by kernel_rfl
theorem Xs5:Xm Tryz.prog 54=some ⟨1,24,(.slice none 0 0),.slice 42 10⟩:=by kernel_rfl
theorem Xs6:Xm Tryz.prog 55=some ⟨1,24,(.slice none 0 0),.slice 106 2⟩:=by kernel_rfl
theorem Xs7:Xm Tryz.prog 58=some ⟨1,24,(.slice none 0 0),.slice 107 4⟩:=by kernel_rfl
theorem Xs8:Xm Tryz.prog 59=some ⟨1,24,(.slice none 0 0),.slice 108 3⟩:=by kernel_rfl
theorem Xs9:Xm Tryz.prog 61=some ⟨10,208,(.agg #[(.int .i64 0),(.int .i64 0),(.slice none 0 0),(.slice none 0 0),(.slice none 0 0),(.slice none 0 0),(.slice none 0 0),(.slice none 0 0),(.slice none 0 0),(.slice none 0 0)]),.struct [(0,2,23),(2,1,58),(3,3,32),(6,1,35),(7,1,35),(8,1,59),(9,1,24)]⟩:=by kernel_rfl
theorem XoF:Tryz.prog.bytesOf 61=208:=by kernel_rfl
theorem Xta:Xm Tryz.prog 63=some ⟨1,24,(.slice none 0 0),.slice 115 2⟩:=by kernel_rfl
theorem XrD:Xm Tryz.prog 70=some ⟨1,4,(.int .u32 0),.int .u32⟩:=by kernel_rfl
theorem XrE:Xm Tryz.prog 72=some ⟨3,24,(.agg #[(.int .i64 0),(.int .i64 0),(.int .u32 0)]),.struct [(0,1,3),(1,1,3),(2,1,70)]⟩:=by kernel_rfl
theorem XoG:Tryz.prog.bytesOf 72=24:=by kernel_rfl
theorem Xqf:Yc Tryz.prog 72=some [some .i64,some .i64,some .u32]:=by kernel_rfl
theorem XrF:Xm Tryz.prog 74=some ⟨4,48,(.agg #[(.int .i64 0),(.int .i64 0),(.int .u32 0),(.slice none 0 0)]),.struct [(0,3,72),(3,1,24)]⟩:=by kernel_rfl
theorem Xig:Tryz.prog.bytesOf 74=48:=by kernel_rfl
theorem Xhf:Xm Tryz.prog 76=some ⟨1,8,(.int .u64 0),.int .u64⟩:=by kernel_rfl
theorem XeF:Tryz.prog.bytesOf 76=8:=by kernel_rfl
theorem Xtb:Xm Tryz.prog 77=some ⟨1,8,(.int .i64 0),.int .i64⟩:=by kernel_rfl
theorem Xtc:Xm Tryz.prog 81=some ⟨4,32,(.agg #[(.int .i64 0),(.int .u64 0),(.int .u64 0),(.int .u64 0)]),.struct [(0,1,3),(1,1,76),(2,1,76),(3,1,76)]⟩:=by kernel_rfl
theorem XoH:Tryz.prog.bytesOf 81=32:=by kernel_rfl
theorem Xtd:Xm Tryz.prog 85=some ⟨8,128,(.agg #[(.int .i64 0),(.int .i64 0),(.slice none 0 0),(.slice none 0 0),(.int .i64 0),(.int .i64 0),(.slice none 0 0),(.slice none 0 0)]),.struct [(0,6,27),(6,1,24),(7,1,24)]⟩:=by kernel_rfl
theorem XoI:Tryz.prog.bytesOf 85=128:=by kernel_rfl
theorem XrG:Xm Tryz.prog 88=some ⟨3,24,(.agg #[(.int .i64 0),(.int .u64 0),(.bool false)]),.struct [(0,1,3),(1,1,76),(2,1,4)]⟩:=by kernel_rfl
theorem Xih:Tryz.prog.bytesOf 88=24:=by kernel_rfl
theorem Xqg:Yc Tryz.prog 88=some [some .i64,some .u64,none]:=by kernel_rfl
theorem XrH:Xm Tryz.prog 90=some ⟨3,24,(.agg #[(.int .i64 0),(.int .u64 0),(.bool false)]),.struct [(0,1,3),(1,1,76),(2,1,4)]⟩:=by kernel_rfl
theorem Xii:Tryz.prog.bytesOf 90=24:=by kernel_rfl
theorem Xqh:Yc Tryz.prog 90=some [some .i64,some .u64,none]:=by kernel_rfl
theorem XrI:Xm Tryz.prog 92=some ⟨2,16,(.agg #[(.int .u64 0),(.int .i64 0)]),.struct [(0,1,76),(1,1,3)]⟩:=by kernel_rfl
theorem Xij:Tryz.prog.bytesOf 92=16:=by kernel_rfl
theorem XrJ:Xm Tryz.prog 94=some ⟨3,24,(.agg #[(.int .i64 0),(.int .i64 0),(.bool false)]),.struct [(0,1,3),(1,1,3),(2,1,4)]⟩:=by kernel_rfl
theorem Xik:Tryz.prog.bytesOf 94=24:=by kernel_rfl
theorem Xqi:Yc Tryz.prog 94=some [some .i64,some .i64,none]:=by kernel_rfl
theorem XrK:Xm Tryz.prog 96=some ⟨3,24,(.agg #[(.int .u64 0),(.int .i64 0),(.int .u64 0)]),.struct [(0,1,76),(1,1,3),(2,1,76)]⟩:=by kernel_rfl
theorem Xil:Tryz.prog.bytesOf 96=24:=by kernel_rfl
theorem Xte:Xm Tryz.prog 99=some ⟨1,8,(.map none),.other⟩:=by kernel_rfl
theorem XrL:Xm Tryz.prog 101=some ⟨26,496,(.agg #[(.int .i64 0),(.int .i64 0),(.slice none 0 0),(.slice none 0 0),(.int .i64 0),(.int .i64 0),(.slice none 0 0),(.slice none 0 0),(.slice none 0 0),(.slice none 0 0),(.slice none 0 0),(.slice none 0 0),(.slice none 0 0),(.int .i64 0),(.int .i64 0),(.slice none 0 0),(.slice none 0 0),(.slice none 0 0),(.slice none 0 0),(.slice none 0 0),(.slice none 0 0),(.slice none 0 0),(.slice none 0 0),(.map none),(.map none),(.slice none 0 0)]),.struct [(0,13,38),(13,10,61),(23,1,99),(24,1,99),(25,1,55)]⟩:=by kernel_rfl
theorem XrM:Xm Tryz.prog 106=some ⟨2,16,(.agg #[(.int .u64 0),(.int .u64 0)]),.struct [(0,1,76),(1,1,76)]⟩:=by kernel_rfl
theorem Xmi:Tryz.prog.bytesOf 106=16:=by kernel_rfl
theorem XrN:Xm Tryz.prog 107=some ⟨4,48,(.agg #[(.int .i64 0),(.int .i64 0),(.int .u32 0),(.slice none 0 0)]),.struct [(0,3,72),(3,1,24)]⟩:=by kernel_rfl
theorem Xmj:Tryz.prog.bytesOf 107=48:=by kernel_rfl
theorem XrO:Xm Tryz.prog 108=some ⟨3,24,(.agg #[(.int .u64 0),(.int .i64 0),(.int .u64 0)]),.struct [(0,1,76),(1,1,3),(2,1,76)]⟩:=by kernel_rfl
theorem Xmk:Tryz.prog.bytesOf 108=24:=by kernel_rfl
theorem XrP:Xm Tryz.prog 115=some ⟨2,16,(.agg #[(.int .u64 0),(.int .u64 0)]),.struct [(0,1,76),(1,1,76)]⟩:=by kernel_rfl
theorem Xml:Tryz.prog.bytesOf 115=16:=by kernel_rfl
theorem XrQ:Xm Tryz.prog 122=some ⟨6,48,(.agg #[(.int .i64 0),(.int .i64 0),(.int .i64 0),(.int .i64 0),(.int .i64 0),(.int .i64 0)]),.struct [(0,1,3),(1,1,3),(2,1,3),(3,1,3),(4,1,3),(5,1,3)]⟩:=by kernel_rfl
theorem Xmm:Tryz.prog.bytesOf 122=48:=by kernel_rfl
theorem XrR:Xm Tryz.prog 129=some ⟨3,16,(.agg #[(.bool false),(.bool false),(.int .u64 0)]),.struct [(0,1,4),(1,1,4),(2,1,76)]⟩:=by kernel_rfl
theorem Xmn:Tryz.prog.bytesOf 129=16:=by kernel_rfl
theorem XrS:Xm Tryz.prog 133=some ⟨1,8,(.int .u64 0),.int .u64⟩:=by kernel_rfl
theorem Xo8:Xm Tryz.prog 136=some ⟨4,32,(.agg #[(.int .i64 0),(.int .i64 0),(.int .i64 0),(.int .i64 0)]),.struct [(0,1,3),(1,1,3),(2,1,3),(3,1,3)]⟩:=by kernel_rfl
theorem Xgg:Tryz.prog.bytesOf 136=32:=by kernel_rfl
theorem XoJ:Yc Tryz.prog 136=some [some .i64,some .i64,some .i64,some .i64]:=by kernel_rfl
theorem XrT:Xm Tryz.prog 173=some ⟨1,24,(.slice none 0 0),.slice 4 1⟩:=by kernel_rfl
theorem XrU:Xm Tryz.prog 192=some ⟨1,24,(.slice none 0 0),.slice 92 2⟩:=by kernel_rfl
theorem XrV:Xm Tryz.prog 195=some ⟨3,72,(.agg #[(.slice none 0 0),(.slice none 0 0),(.slice none 0 0)]),.struct [(0,3,32)]⟩:=by kernel_rfl
theorem Xmo:Tryz.prog.bytesOf 195=72:=by kernel_rfl
theorem XrW:Xm Tryz.prog 206=some ⟨1,24,(.slice none 0 0),.slice 24 1⟩:=by kernel_rfl
theorem XrX:Xm Tryz.prog 216=some ⟨16,208,(.agg #[(.int .i64 0),(.int .i64 0),(.slice none 0 0),(.slice none 0 0),(.int .i64 0),(.int .i64 0),(.slice none 0 0),(.slice none 0 0),(.slice none 0 0),(.int .i64 0),(.int .i64 0),(.int .i64 0),(.int .i64 0),(.int .i64 0),(.int .i64 0),(.int .i64 0)]),.struct [(0,6,27),(6,1,24),(7,1,30),(8,1,24),(9,1,3),(10,6,122)]⟩:=by kernel_rfl
theorem Xmp:Tryz.prog.bytesOf 216=208:=by kernel_rfl
theorem XrY:Xm Tryz.prog 238=some ⟨3,24,(.agg #[(.int .i64 0),(.int .i64 0),(.int .i64 0)]),.struct [(0,1,3),(1,1,3),(2,1,3)]⟩:=by kernel_rfl
theorem Xmq:Tryz.prog.bytesOf 238=24:=by kernel_rfl
theorem XrZ:Xm Tryz.prog 257=some ⟨3,24,(.agg #[(.int .i64 0),(.int .i64 0),(.int .u64 0)]),.struct [(0,1,3),(1,1,3),(2,1,76)]⟩:=by kernel_rfl
theorem Xmr:Tryz.prog.bytesOf 257=24:=by kernel_rfl
theorem XoK:Yc Tryz.prog 257=some [some .i64,some .i64,some .u64]:=by kernel_rfl
theorem Xr0:Xm Tryz.prog 265=some ⟨1,24,(.slice none 0 0),.slice 271 4⟩:=by kernel_rfl
theorem Xr1:Xm Tryz.prog 271=some ⟨4,32,(.agg #[(.int .u64 0),(.int .i64 0),(.int .i64 0),(.int .u32 0)]),.struct [(0,1,76),(1,3,72)]⟩:=by kernel_rfl
theorem Xms:Tryz.prog.bytesOf 271=32:=by kernel_rfl
theorem Xr2:Xm Tryz.prog 284=some ⟨3,24,(.agg #[(.int .i64 0),(.int .i64 0),(.int .u64 0)]),.struct [(0,1,3),(1,1,3),(2,1,76)]⟩:=by kernel_rfl
theorem Xmt:Tryz.prog.bytesOf 284=24:=by kernel_rfl
theorem XoL:Yc Tryz.prog 284=some [some .i64,some .i64,some .u64]:=by kernel_rfl
theorem Xr3:Xm Tryz.prog 309=some ⟨1,8,.nilFunc,.other⟩:=by kernel_rfl
theorem Xr4:Xm Tryz.prog 310=some ⟨4,32,(.agg #[(.int .i64 0),(.int .i64 0),(.int .i64 0),(.int .i64 0)]),.struct [(0,1,3),(1,1,3),(2,1,3),(3,1,3)]⟩:=by kernel_rfl
theorem Xmu:Tryz.prog.bytesOf 310=32:=by kernel_rfl
theorem XoM:Yc Tryz.prog 310=some [some .i64,some .i64,some .i64,some .i64]:=by kernel_rfl
theorem Xr5:Xm Tryz.prog 311=some ⟨3,24,(.agg #[.nilFunc,.nilFunc,.nilFunc]),.array 3 309 1⟩:=by kernel_rfl
theorem Xr6:Xm Tryz.prog 345=some ⟨1,24,(.slice none 0 0),.slice 348 2⟩:=by kernel_rfl
theorem Xr7:Xm Tryz.prog 348=some ⟨2,16,(.agg #[(.int .i64 0),(.int .i64 0)]),.struct [(0,1,3),(1,1,3)]⟩:=by kernel_rfl
theorem Xmv:Tryz.prog.bytesOf 348=16:=by kernel_rfl
attribute [go_sem] ty3 ty4 ty9 Xro Xqe Xrp Xrq Xrr Xrs Xrt Xru Xrv Xrw Xrx Xry Xrz XrA XrB XrC Xs2 Xs3 Xs4 Xs5 Xs6 Xs7 Xs8 Xs9 Xta XrD XrE Xqf XrF Xhf Xtb Xtc Xtd XrG Xqg XrH Xqh XrI XrJ Xqi XrK Xte XrL XrM XrN XrO XrP XrQ XrR XrS Xo8 XoJ XrT XrU XrV XrW XrX XrY XrZ XoK Xr0 Xr1 Xr2 XoL Xr3 Xr4 XoM Xr5 Xr6 Xr7
attribute [go_sem] zWd zHp
def e76 (x:Int):List D:=[.v (.int .u64 x)]
def Yp (x:WM):List D:=[.v (.int .i64 x.Kind),.v (.int .i64 x.Space),.v (.int .i64 x.Used),.v (.int .i64 x.Pins)]
def e27 (x:Wv):List D:=[.v (.int .i64 x.Conf.PageWords),.v (.int .i64 x.Conf.Pages),.isl 76 1 (x.Words.map e76),.isl 136 4 (x.Pages.map Yp),.v (.int .i64 x.Space),.v (.int .i64 x.Bump)]
def e88 (x:U1):List D:=[.v (.int .i64 x.Stamp),.v (.int .u64 x.Ref),.v (.bool x.Live)]
def e94 (x:U6):List D:=[.v (.int .i64 x.From),.v (.int .i64 x.Cap),.v (.bool x.Base)]
def e3 (x:Int):List D:=[.v (.int .i64 x)]
def e90 (x:Uj):List D:=[.v (.int .i64 x.Gen),.v (.int .u64 x.Ref),.v (.bool x.Live)]
def e92 (x:U4):List D:=[.v (.int .u64 x.Ref),.v (.int .i64 x.Count)]
def e38 (x:Ud):List D:=[.v (.int .i64 x.Heap.Conf.PageWords),.v (.int .i64 x.Heap.Conf.Pages),.isl 76 1 (x.Heap.Words.map e76),.isl 136 4 (x.Heap.Pages.map Yp),.v (.int .i64 x.Heap.Space),.v (.int .i64 x.Heap.Bump),.isl 88 3 (x.Locals.Slots.map e88),.isl 94 3 (x.Locals.Scopes.map e94),.isl 3 1 (x.Locals.Issued.map e3),.isl 90 3 (x.Globals.Entries.map e90),.isl 90 3 (x.Weaks.Entries.map e90),.isl 92 2 (x.Pins.map e92),.isl 76 1 (x.Roots.map e76)]
def e74 (x:UL):List D:=[.v (.int .i64 x.Header.Kind),.v (.int .i64 x.Header.Length),.v (.int .u32 x.Header.Map),.isl 76 1 (x.Fields.map e76)]
def e96 (x:U7):List D:=[.v (.int .u64 x.Id),.v (.int .i64 x.Count),.v (.int .u64 x.Base)]
def e42 (x:Wy):List D:=[.v (.int .i64 x.Conf.PageWords),.v (.int .i64 x.Conf.Pages),.isl 74 4 (x.Things.map e74),.isl 88 3 (x.Locals.Slots.map e88),.isl 94 3 (x.Locals.Scopes.map e94),.isl 3 1 (x.Locals.Issued.map e3),.isl 90 3 (x.Globals.Entries.map e90),.isl 90 3 (x.Weaks.Entries.map e90),.isl 96 3 (x.Marks.map e96),.isl 76 1 (x.Roots.map e76)]
def e50 (x:UV):List D:=[.isl 3 1 (x.L.map e3),.v (.int .i64 x.at_)]
def e23 (x:Um):List D:=[.v (.int .i64 x.PageWords),.v (.int .i64 x.Pages)]
def e46 (x:ID):List D:=[.v (.int .i64 x.Env.Heap.Conf.PageWords),.v (.int .i64 x.Env.Heap.Conf.Pages),.isl 76 1 (x.Env.Heap.Words.map e76),.isl 136 4 (x.Env.Heap.Pages.map Yp),.v (.int .i64 x.Env.Heap.Space),.v (.int .i64 x.Env.Heap.Bump),.isl 88 3 (x.Env.Locals.Slots.map e88),.isl 94 3 (x.Env.Locals.Scopes.map e94),.isl 3 1 (x.Env.Locals.Issued.map e3),.isl 90 3 (x.Env.Globals.Entries.map e90),.isl 90 3 (x.Env.Weaks.Entries.map e90),.isl 92 2 (x.Env.Pins.map e92),.isl 76 1 (x.Env.Roots.map e76),.v (.int .i64 x.World.Conf.PageWords),.v (.int .i64 x.World.Conf.Pages),.isl 74 4 (x.World.Things.map e74),.isl 88 3 (x.World.Locals.Slots.map e88),.isl 94 3 (x.World.Locals.Scopes.map e94),.isl 3 1 (x.World.Locals.Issued.map e3),.isl 90 3 (x.World.Globals.Entries.map e90),.isl 90 3 (x.World.Weaks.Entries.map e90),.isl 96 3 (x.World.Marks.map e96),.isl 76 1 (x.World.Roots.map e76),.isl 76 1 (x.Words.map e76)]
def e72 (x:WI):List D:=[.v (.int .i64 x.Kind),.v (.int .i64 x.Length),.v (.int .u32 x.Map)]
def e4 (x:Bool):List D:=[.v (.bool x)]
def XoN (x:Us):List D:=[.v (.int .i64 x.Fault),.v (.int .i64 x.Page),.v (.int .u64 x.Addr)]
def e32 (x:WD):List D:=[.isl 88 3 (x.Slots.map e88),.isl 94 3 (x.Scopes.map e94),.isl 3 1 (x.Issued.map e3)]
def e35 (x:WT):List D:=[.isl 90 3 (x.Entries.map e90)]
def KR (x:Uk):List D:=[.v (.int .i64 x.Heap.Conf.PageWords),.v (.int .i64 x.Heap.Conf.Pages),.isl 76 1 (x.Heap.Words.map e76),.isl 136 4 (x.Heap.Pages.map Yp),.v (.int .i64 x.Heap.Space),.v (.int .i64 x.Heap.Bump),.isl 76 1 (x.Old.map e76),.isl 3 1 (x.Taken.map e3),.isl 76 1 (x.Queue.map e76),.v (.int .i64 x.Scanned),.v (.int .i64 x.Report.Copied),.v (.int .i64 x.Report.Kept),.v (.int .i64 x.Report.Filled),.v (.int .i64 x.Report.Freed),.v (.int .i64 x.Report.Cleared),.v (.int .i64 x.Report.Steps)]
def Xmw (x:Ox):List D:=[.v (.int .i64 x.From),.v (.int .i64 x.Len)]
def Xmx (x:UC):List D:=[.v (.int .i64 x.Copied),.v (.int .i64 x.Kept),.v (.int .i64 x.Filled),.v (.int .i64 x.Freed),.v (.int .i64 x.Cleared),.v (.int .i64 x.Steps)]
def XoO (x:IV):List D:=[.v (.int .i64 x.Tag),.v (.int .i64 x.Index),.v (.int .i64 x.Stamp)]
def Xqj (x:Oq):List D:=[.v (.bool x.Failed),.v (.bool x.Collected),.v (.int .u64 x.Base)]
def e81 (x:Oo):List D:=[.v (.int .i64 x.Op),.v (.int .u64 x.A),.v (.int .u64 x.B),.v (.int .u64 x.C)]
def e85 (x:IA):List D:=[.v (.int .i64 x.Heap.Conf.PageWords),.v (.int .i64 x.Heap.Conf.Pages),.isl 76 1 (x.Heap.Words.map e76),.isl 136 4 (x.Heap.Pages.map Yp),.v (.int .i64 x.Heap.Space),.v (.int .i64 x.Heap.Bump),.isl 76 1 (x.Strong.map e76),.isl 76 1 (x.Weak.map e76)]
def Xgh (x:WM):List D:=[.v (.int .i64 x.Kind),.v (.int .i64 x.Space),.v (.int .i64 x.Used),.v (.int .i64 x.Pins)]
def Vj (x:U0):List D:=[.v (.int .u64 x.addr),.v (.int .i64 x.hd.Kind),.v (.int .i64 x.hd.Length),.v (.int .u32 x.hd.Map)]
def XoP (x:Us):List D:=[.v (.int .i64 x.Fault),.v (.int .i64 x.Page),.v (.int .u64 x.Addr)]
def Xmy (x:Og):List D:=[.isl 88 3 (x.Locals.Slots.map e88),.isl 94 3 (x.Locals.Scopes.map e94),.isl 3 1 (x.Locals.Issued.map e3)]
def e24 (x:List Int):List D:=[.isl 76 1 (x.map e76)]
def XeG (x:UL):List D:=[.v (.int .i64 x.Header.Kind),.v (.int .i64 x.Header.Length),.v (.int .u32 x.Header.Map),.isl 76 1 (x.Fields.map e76)]
def XeH (x:U7):List D:=[.v (.int .u64 x.Id),.v (.int .i64 x.Count),.v (.int .u64 x.Base)]
def e61 (x:Wy):List D:=[.v (.int .i64 x.Conf.PageWords),.v (.int .i64 x.Conf.Pages),.isl 107 4 (x.Things.map XeG),.isl 88 3 (x.Locals.Slots.map e88),.isl 94 3 (x.Locals.Scopes.map e94),.isl 3 1 (x.Locals.Issued.map e3),.isl 90 3 (x.Globals.Entries.map e90),.isl 90 3 (x.Weaks.Entries.map e90),.isl 108 3 (x.Marks.map XeH),.isl 76 1 (x.Roots.map e76)]
def XcM (x:WE):List D:=[.v (.int .u64 x.Addr),.v (.int .u64 x.Id)]
def Xbq (x:WE):List D:=[.v (.int .u64 x.Addr),.v (.int .u64 x.Id)]
attribute [go_sem] e76 Yp e27 e88 e94 e3 e90 e92 e38 e74 e96 e42 e50 e23 e46 e72 e4 XoN e32 e35 KR Xmw Xmx XoO Xqj e81 e85 Xgh Vj XoP Xmy e24 XeG XeH e61 XcM Xbq XeF Xgg Xoy Xih Xik Xmh Xii Xij XoB Xig Xil XoC XoE Xow XoD XoG Xqd Xmt Xoz XoA Xmp Xmv Xmm Xmq Xmn XoH XoI Xmu Xms Xmr Xmo Xox Xmj Xmk XoF Xmi Xml
theorem Xr8:Go.Proofs.Tryz.prog.follows .mixedOrders=true:=by kernel_rfl
def GW (G:Nat->Option (List D)):Prop:=True
open Go.Proofs
theorem E:True:=trivial
theorem hd:True:=trivial
theorem hx3:True:=trivial
theorem hl3:True:=trivial
theorem hl4:True:=trivial
theorem Xqk:True:=trivial
theorem Xql:True:=trivial
theorem Xqm:True:=trivial
theorem Z6:True:=trivial
theorem XS:True:=trivial
theorem Y2:True:=trivial
theorem ZR:True:=trivial
theorem ZC:True:=trivial
theorem Kn:True:=trivial
theorem JO:True:=trivial
theorem XcN:True:=trivial
theorem XcO:True:=trivial
theorem VH:True:=trivial
theorem XaF:True:=trivial
theorem XE:True:=trivial
theorem XaG:True:=trivial
theorem XdI:True:=trivial
theorem Fq:True:=trivial
theorem Z1:True:=trivial
theorem hK:True:=trivial
theorem Xtf {α:Type} {G:Prop} {a c:Int} {x y:Option α} {r:α} (h:(bif (a==c) then x else y)=some r) (f:a=c->x=some r->G) (g:¬ a=c->y=some r->G):G:=by
 by_cases e:a=c
 ·rw[beq_iff_eq.2 e] at h;exact f e h
 ·rw[Iz.2 e] at h;exact g e h
attribute [go_sem] Option.get!
structure Fn (n:Nat):Prop where
class OK {α:Type} (o:Option α) (f:outParam Nat) (a:outParam (List D)) (l:outParam (List Ob)) (e:outParam (α->D)) (l':outParam (α->List Ob)):Prop where
 h:∀ G,GW G->∀ r,o=some r->YY Tryz.prog G f a l (Eqs (e r) (l' r))
section
variable {α β:Type} {o:Option α} {k:α->Option β} {f:Nat} {a args:List D} {l:List Ob} {e:α->D} {l':α->List Ob} {G:Nat->Option (List D)} {r:β} {K:D->List Ob->Prop}
theorem OK.c [h:OK o f a l e l'] (hr:bnd o k=some r) (hw:GW G) (hf:ZD args a) (hK:∀ y,k y=some r->K (e y) (l' y)) (t:Prf args):CallG Tryz.prog G f args l K t :=
 XcZ hr λ y hy hr=>CallG.ofE (h.h G hw y hy) hf (hK y hr) t
theorem Ol [h:OK o f a l e l'] (hr:bnd o k=some r) (hw:GW G) (hf:ZD args a) (hK:∀ y,k y=some r->K (e y) (l' y)) (t:Prf args):CallD Tryz.prog G f args l K t :=
 XcZ hr λ y hy hr=>CallD.ofE (h.h G hw y hy) hf (hK y hr) t
theorem rn (fn:Func) (rs:List ResultVar) (fr:List Nat) (nt:Nat)
 (hk:(Tryz.prog.funcs[f]?,fn.body,fn.name== "runtime.NumGoroutine",fn.results,fn.ntmps,a.length.ble nt)=(some fn,some (fn.body.get!),false,⟨rs⟩,nt,true))
 (h:∀ G,GW G->∀ r,o=some r->∀ (C:Cx) x,C.G=G->WfL Tryz.prog a->Fn f->run Tryz.prog (C.sub 0 x) (VM Tryz.prog rs fr l.length (Eqs (e r) (l' r))) 1000 [.code (fn.body.get!)] (st0 a l nt)):OK o f a l e l':=by
 injection hk with h1 hk;injection hk with h2 hk;injection hk with h3 hk;injection hk with h4 hk;injection hk with h5 h6
 exact ⟨λ G hw r hr=>VC 1000 fr nt h1 h2 h3 h4 h5 (Nat.le_of_ble_eq_true h6) λ C x hG hwf=>h G hw r hr C x hG hwf ⟨⟩⟩
end
def bm (b n:Nat):List Nat:=((List.range (n.log2+1)).filter λ i=>n / 2 ^ i % 2==1).map λ i=>i+b
theorem Xqn {b n x:Nat}:(bm b n).contains x=(decide (b<=x)&&n / 2 ^ (x-b) % 2==1):=by
 rw[Bool.eq_iff_iff,Ii,bm,UH]
 simp only[UJ,List.mem_range,beq_iff_eq,Ww,decide_eq_true_eq]
 constructor
 ·rintro ⟨i,⟨h1,h2⟩,rfl⟩
  rw[IZ]
  exact ⟨Nat.le_add_left _ _,h2⟩
 ·rintro ⟨h1,h3⟩
  refine ⟨x-b,⟨?_,h3⟩,Nat.sub_add_cancel h1⟩
  have hp:0<n / 2 ^ (x-b):=by
   rcases Uq (n / 2 ^ (x-b)) with h | h
   ·rw[h] at h3;cases h3
   ·exact h
  have hle:2 ^ (x-b)<=n:=by
   rcases Uw n (2 ^ (x-b)) with h | h
   ·rw[Nat.div_eq_of_lt h] at hp;cases hp
   ·exact h
  have hn:n≠0:=by
   rintro rfl
   have:=Nat.two_pow_pos (x-b)
   omega
  exact Nat.lt_succ_of_le ((Nat.le_log2 hn).2 hle)
theorem Xr9 {b n x:Nat} {p q:D}:(if (bm b n).contains x=true then p else q)=if x<b then q else if n / 2 ^ (x-b) % 2=1 then p else q:=by
 rw[Xqn]
 by_cases h1:x<b
 ·rw[Wn h1,Wk (Nat.not_le.2 h1),W5];rfl
 rw[Wm h1,Wj (Nat.not_lt.1 h1),WA]
 by_cases h3:n / 2 ^ (x-b) % 2=1
 ·rw[Wn h3,Wn (beq_iff_eq.2 h3)]
 ·rw[Wm h3,Wm (λ h=>h3 (beq_iff_eq.1 h))]
def KU (b:Nat):Nat->List Oper->List (Nat×Nat×List (List Nat))->List En
 | i,o::l,(a,m,[])::x=>⟨i,o,bm 0 a,[],bm b m,[]⟩::KU b (i+1) l x
 | i,o::l,(a,m,[w,k])::x=>⟨i,o,bm 0 a,w,bm b m,k⟩::KU b (i+1) l x
 | _,[],[]=>[]
 | i,_,_=>[⟨i,⟨none,.assign (.tmp 0),0,"",#[],none⟩,[],[],[],[]⟩]
attribute [go_sem] Xr9 KU
theorem db {C:Cx} {R:St->Prop} {k:List It} {st:St} {l:List Oper} (f id:Nat) (_:Fn f) (b:Nat) (aux:List (Nat×Nat×List (List Nat))) (ho:(KU b 0 l aux).map (·.o)=l) (hi:(KU b 0 l aux).map (·.i)=List.range (KU b 0 l aux).length) (hc:XiO (KU b 0 l aux)=true)
 (h:dr Tryz.prog C ⟨l⟩ st.k (KU b 0 l aux) st λ st'=>run Tryz.prog C R 1000 k ⟨st'.t,st'.s,st'.n,st.k+(KU b 0 l aux).length⟩) (t:Prf (⟨l⟩:Array Oper)) (hrd:C.rd=none:=by rfl):DrawnG Tryz.prog C R id ⟨l⟩ k st t :=
 DrawnG.of Xr8 (KU b 0 l aux) 1000 ho hi hc h t hrd
class El {α:Type} (x:Option α) (r:α) (K:outParam (Prop->Prop)):Prop where
 el:∀ {G:Prop},x=some r->K G->G
instance {α:Type} {p:Prop} [Decidable p] {x:Option α} {r:α}:El (grd p x) r λ G=>x=some r->p->G:=⟨λ h k=>XqD h λ a b=>k b a⟩
instance {κ α:Type} {k:κ} {f:κ->Option α} {r:α}:El (jn k f) r λ G=>f k=some r->G:=⟨λ h k=>XsJ h k⟩
instance {α β γ:Type} {b:β} {f:α->Option γ} {k:β->Option γ} {r:γ}:El (exK (.nxt b) f k) r λ G=>k b=some r->G:=⟨λ h k=>XqE h k⟩
instance {α β γ:Type} {b:α} {f:α->Option γ} {k:β->Option γ} {r:γ}:El (exK (.ret b) f k) r λ G=>f b=some r->G:=⟨λ h k=>XqF h k⟩
instance {α:Type} {x y:Option α} {r:α}:El (bif true then x else y) r λ G=>x=some r->G:=⟨λ h k=>k h⟩
instance {α:Type} {x y:Option α} {r:α}:El (bif false then x else y) r λ G=>y=some r->G:=⟨λ h k=>k h⟩
instance {α:Type} {x y:Option α} {r:α}:El (bif !false then x else y) r λ G=>x=some r->G:=⟨λ h k=>k h⟩
instance {α:Type} {x y:Option α} {r:α}:El (bif !true then x else y) r λ G=>y=some r->G:=⟨λ h k=>k h⟩
theorem Xx {α:Type} {G:Prop} {b c:Bool} {x y:Option α} {r:α} (h:(bif b then x else y)=some r) (hb:b=c) (g:(bif c then x else y)=some r->G):G:=g (hb▸h)
open Go.Proofs
set_option maxRecDepth 10000
theorem Zv {α:Type} {e:α->List D} {p:α->Prop}:∀ {es:List (List D)},(∀ x∈es,∃ y,x=e y/\p y)->∃ l:List α,es=l.map e/\∀ x∈l,p x
 | [],_=>⟨[],rfl,λ x h=>by cases h⟩
 | x::es,h=>by
  obtain ⟨y,rfl,hy⟩:=h x (by simp)
  obtain ⟨l,rfl,hl⟩:=Zv (e:=e) (p:=p) (es:=es) λ z hz=>h z (W4 _ hz)
  exact ⟨y::l,rfl,λ z hz=>by rcases UQ.1 hz with rfl | hz;exact hy;exact hl z hz⟩
section
variable {P:Program} {t e:TypeId} {fs:List (Nat×Nat×Nat)} {a b s:Nat} {z:Value}
theorem XaH (m:Nat) (h:Xm P t=some ⟨a,b,z,.slice e s⟩) (ds:List D):Sh P (m+1) t ds=∃ es,ds=[.isl e (P.cellsOf e) es]/\es.length<=Xn/\es.length*P.bytesOf e<=Xn/\∀ x∈es,Sh P m e x:=by simp only[Sh,(X0 h).1]
theorem K3 (m:Nat) (h:Xm P t=some ⟨a,b,z,.struct fs⟩) (ds:List D):Sh P (m+1) t ds=ShF (Sh P m) (fs.map (·.2.2)) ds:=by
 obtain ⟨fields,h1,h2,_⟩:=ZW h
 simp only[Sh,h1]
 rw[h2,List.map_map]
 rfl
theorem Xa8 (h:Xm P t=some ⟨a,b,z,.int .u64⟩):∀ (m:Nat) (ds:List D),Sh P m t ds->∃ n,ds=[.v (.int .u64 n)]/\tU n
 | 0,_,h'=>h'.elim
 | m+1,ds,h'=>by
  simp only[Sh,VZ h] at h'
  obtain ⟨n,rfl,h1,h2⟩:=h'
  exact ⟨n,rfl,by unfold tU;rw[Xhv] at h1;rw[Xhw] at h2;exact ⟨h1,h2⟩⟩
theorem Xqo (h:Xm P t=some ⟨a,b,z,.int .u32⟩):∀ (m:Nat) (ds:List D),Sh P m t ds->∃ n,ds=[.v (.int .u32 n)]/\tW n
 | 0,_,h'=>h'.elim
 | m+1,ds,h'=>by
  simp only[Sh,VZ h] at h'
  obtain ⟨n,rfl,h1,h2⟩:=h'
  exact ⟨n,rfl,by unfold tW;rw[Xht] at h1;rw[Xhu] at h2;exact ⟨h1,h2⟩⟩
theorem Zd (h:Xm P t=some ⟨a,b,z,.int .i64⟩):∀ (m:Nat) (ds:List D),Sh P m t ds->∃ n,ds=[.v (.int .i64 n)]/\True
 | 0,_,h'=>h'.elim
 | m+1,ds,h'=>by
  simp only[Sh,VZ h] at h'
  obtain ⟨n,rfl,h1,h2⟩:=h'
  exact ⟨n,rfl,trivial⟩
theorem XeI (h:Xm P t=some ⟨a,b,z,.bool⟩):∀ (m:Nat) (ds:List D),Sh P m t ds->∃ b,ds=[.v (.bool b)]/\True
 | 0,_,h'=>h'.elim
 | m+1,ds,h'=>by
  simp only[Sh,XeN h] at h'
  obtain ⟨n,rfl⟩:=h'
  exact ⟨n,rfl,trivial⟩
end
theorem Xtg:Tryz.prog.cellsOf 3=1:=by kernel_rfl
theorem Xsa:Tryz.prog.cellsOf 74=4:=by kernel_rfl
theorem Xsb:Tryz.prog.cellsOf 76=1:=by kernel_rfl
theorem Xsc:Tryz.prog.cellsOf 88=3:=by kernel_rfl
theorem Xsd:Tryz.prog.cellsOf 90=3:=by kernel_rfl
theorem Xse:Tryz.prog.cellsOf 92=2:=by kernel_rfl
theorem Xsf:Tryz.prog.cellsOf 94=3:=by kernel_rfl
theorem Xsg:Tryz.prog.cellsOf 96=3:=by kernel_rfl
theorem Xqp:Tryz.prog.cellsOf 136=4:=by kernel_rfl
theorem Xo9:∀ (m:Nat) (ds:List D),Sh Tryz.prog m 23 ds->∃ x:Um,ds=e23 x/\True
 | 0,_,h=>h.elim
 | m+1,ds,h=>by
  rw[show Sh Tryz.prog (m+1) 23 ds=_ from K3 m Xro ds] at h
  simp only[WX,Uz,ShF] at h
  obtain ⟨c0,_,rfl,s0,⟨c1,_,rfl,s1,rfl⟩⟩:=h
  obtain ⟨x0,rfl,p0⟩:=Zd ty3 _ _ s0
  obtain ⟨x1,rfl,p1⟩:=Zd ty3 _ _ s1
  exact ⟨⟨x0,x1⟩,rfl,trivial⟩
theorem Xqq (m:Nat) (x:List D) (h:Sh Tryz.prog m 76 x):∃ y:Int,x=e76 y/\tU y:=by
 obtain ⟨n,rfl,hp⟩:=Xa8 Xhf m x h
 exact ⟨n,rfl,hp⟩
theorem Xim:∀ (m:Nat) (ds:List D),Sh Tryz.prog m 24 ds->∃ l:List Int,ds=[.isl 76 1 (l.map e76)]/\l.length*8<=Xn/\∀ x∈l,(λ x=>tU x) x
 | 0,_,h=>h.elim
 | m+1,ds,h=>by
  rw[show Sh Tryz.prog (m+1) 24 ds=_ from XaH m Xrp ds] at h
  obtain ⟨es,rfl,_,hb,hs⟩:=h
  obtain ⟨l,rfl,hl⟩:=Zv (p:=(λ x=>tU x)) (λ x hx=>Xqq m x (hs x hx))
  exact ⟨l,by rw[Xsb],by rw[W0,XeF] at hb;exact hb,hl⟩
theorem Xqr:∀ (m:Nat) (ds:List D),Sh Tryz.prog m 136 ds->∃ x:WM,ds=Yp x/\True
 | 0,_,h=>h.elim
 | m+1,ds,h=>by
  rw[show Sh Tryz.prog (m+1) 136 ds=_ from K3 m Xo8 ds] at h
  simp only[WX,Uz,ShF] at h
  obtain ⟨c0,_,rfl,s0,⟨c1,_,rfl,s1,⟨c2,_,rfl,s2,⟨c3,_,rfl,s3,rfl⟩⟩⟩⟩:=h
  obtain ⟨x0,rfl,p0⟩:=Zd ty3 _ _ s0
  obtain ⟨x1,rfl,p1⟩:=Zd ty3 _ _ s1
  obtain ⟨x2,rfl,p2⟩:=Zd ty3 _ _ s2
  obtain ⟨x3,rfl,p3⟩:=Zd ty3 _ _ s3
  exact ⟨⟨x0,x1,x2,x3⟩,rfl,trivial⟩
theorem XoQ (m:Nat) (x:List D) (h:Sh Tryz.prog m 136 x):∃ y:WM,x=Yp y/\True:=by
 obtain ⟨n,rfl,hp⟩:=Xqr m x h
 exact ⟨n,rfl,trivial⟩
theorem Xsh:∀ (m:Nat) (ds:List D),Sh Tryz.prog m 25 ds->∃ l:List WM,ds=[.isl 136 4 (l.map Yp)]/\l.length*32<=Xn/\∀ x∈l,(λ _=>True) x
 | 0,_,h=>h.elim
 | m+1,ds,h=>by
  rw[show Sh Tryz.prog (m+1) 25 ds=_ from XaH m Xrq ds] at h
  obtain ⟨es,rfl,_,hb,hs⟩:=h
  obtain ⟨l,rfl,hl⟩:=Zv (p:=(λ _=>True)) (λ x hx=>XoQ m x (hs x hx))
  exact ⟨l,by rw[Xqp],by rw[W0,Xgg] at hb;exact hb,hl⟩
theorem Xsi:∀ (m:Nat) (ds:List D),Sh Tryz.prog m 27 ds->∃ x:Wv,ds=e27 x/\XJ x
 | 0,_,h=>h.elim
 | m+1,ds,h=>by
  rw[show Sh Tryz.prog (m+1) 27 ds=_ from K3 m Xrr ds] at h
  simp only[WX,Uz,ShF] at h
  obtain ⟨c0,_,rfl,s0,⟨c1,_,rfl,s1,⟨c2,_,rfl,s2,⟨c3,_,rfl,s3,⟨c4,_,rfl,s4,rfl⟩⟩⟩⟩⟩:=h
  obtain ⟨x0,rfl,p0⟩:=Xo9 _ _ s0
  obtain ⟨x1,rfl,_,p1⟩:=Xim _ _ s1
  obtain ⟨x2,rfl,_,p2⟩:=Xsh _ _ s2
  obtain ⟨x3,rfl,p3⟩:=Zd ty3 _ _ s3
  obtain ⟨x4,rfl,p4⟩:=Zd ty3 _ _ s4
  exact ⟨⟨x0,x1,x2,x3,x4⟩,rfl,p1⟩
theorem Xsj:∀ (m:Nat) (ds:List D),Sh Tryz.prog m 88 ds->∃ x:U1,ds=e88 x/\Yd x
 | 0,_,h=>h.elim
 | m+1,ds,h=>by
  rw[show Sh Tryz.prog (m+1) 88 ds=_ from K3 m XrG ds] at h
  simp only[WX,Uz,ShF] at h
  obtain ⟨c0,_,rfl,s0,⟨c1,_,rfl,s1,⟨c2,_,rfl,s2,rfl⟩⟩⟩:=h
  obtain ⟨x0,rfl,p0⟩:=Zd ty3 _ _ s0
  obtain ⟨x1,rfl,p1⟩:=Xa8 Xhf _ _ s1
  obtain ⟨x2,rfl,p2⟩:=XeI ty4 _ _ s2
  exact ⟨⟨x0,x1,x2⟩,rfl,p1⟩
theorem Xqs (m:Nat) (x:List D) (h:Sh Tryz.prog m 88 x):∃ y:U1,x=e88 y/\Yd y:=by
 obtain ⟨n,rfl,hp⟩:=Xsj m x h
 exact ⟨n,rfl,hp⟩
theorem Xsk:∀ (m:Nat) (ds:List D),Sh Tryz.prog m 28 ds->∃ l:List U1,ds=[.isl 88 3 (l.map e88)]/\l.length*24<=Xn/\∀ x∈l,(λ x=>Yd x) x
 | 0,_,h=>h.elim
 | m+1,ds,h=>by
  rw[show Sh Tryz.prog (m+1) 28 ds=_ from XaH m Xrs ds] at h
  obtain ⟨es,rfl,_,hb,hs⟩:=h
  obtain ⟨l,rfl,hl⟩:=Zv (p:=(λ x=>Yd x)) (λ x hx=>Xqs m x (hs x hx))
  exact ⟨l,by rw[Xsc],by rw[W0,Xih] at hb;exact hb,hl⟩
theorem Xsl:∀ (m:Nat) (ds:List D),Sh Tryz.prog m 94 ds->∃ x:U6,ds=e94 x/\True
 | 0,_,h=>h.elim
 | m+1,ds,h=>by
  rw[show Sh Tryz.prog (m+1) 94 ds=_ from K3 m XrJ ds] at h
  simp only[WX,Uz,ShF] at h
  obtain ⟨c0,_,rfl,s0,⟨c1,_,rfl,s1,⟨c2,_,rfl,s2,rfl⟩⟩⟩:=h
  obtain ⟨x0,rfl,p0⟩:=Zd ty3 _ _ s0
  obtain ⟨x1,rfl,p1⟩:=Zd ty3 _ _ s1
  obtain ⟨x2,rfl,p2⟩:=XeI ty4 _ _ s2
  exact ⟨⟨x0,x1,x2⟩,rfl,trivial⟩
theorem Xqt (m:Nat) (x:List D) (h:Sh Tryz.prog m 94 x):∃ y:U6,x=e94 y/\True:=by
 obtain ⟨n,rfl,hp⟩:=Xsl m x h
 exact ⟨n,rfl,trivial⟩
theorem Xsm:∀ (m:Nat) (ds:List D),Sh Tryz.prog m 29 ds->∃ l:List U6,ds=[.isl 94 3 (l.map e94)]/\l.length*24<=Xn/\∀ x∈l,(λ _=>True) x
 | 0,_,h=>h.elim
 | m+1,ds,h=>by
  rw[show Sh Tryz.prog (m+1) 29 ds=_ from XaH m Xrt ds] at h
  obtain ⟨es,rfl,_,hb,hs⟩:=h
  obtain ⟨l,rfl,hl⟩:=Zv (p:=(λ _=>True)) (λ x hx=>Xqt m x (hs x hx))
  exact ⟨l,by rw[Xsf],by rw[W0,Xik] at hb;exact hb,hl⟩
theorem Xsn (m:Nat) (x:List D) (h:Sh Tryz.prog m 3 x):∃ y:Int,x=e3 y/\True:=by
 obtain ⟨n,rfl,hp⟩:=Zd ty3 m x h
 exact ⟨n,rfl,trivial⟩
theorem Xso:∀ (m:Nat) (ds:List D),Sh Tryz.prog m 30 ds->∃ l:List Int,ds=[.isl 3 1 (l.map e3)]/\l.length*8<=Xn/\∀ x∈l,(λ _=>True) x
 | 0,_,h=>h.elim
 | m+1,ds,h=>by
  rw[show Sh Tryz.prog (m+1) 30 ds=_ from XaH m Xru ds] at h
  obtain ⟨es,rfl,_,hb,hs⟩:=h
  obtain ⟨l,rfl,hl⟩:=Zv (p:=(λ _=>True)) (λ x hx=>Xsn m x (hs x hx))
  exact ⟨l,by rw[Xtg],by rw[W0,Xmh] at hb;exact hb,hl⟩
theorem Xpa:∀ (m:Nat) (ds:List D),Sh Tryz.prog m 32 ds->∃ x:WD,ds=e32 x/\XG x
 | 0,_,h=>h.elim
 | m+1,ds,h=>by
  rw[show Sh Tryz.prog (m+1) 32 ds=_ from K3 m Xrv ds] at h
  simp only[WX,Uz,ShF] at h
  obtain ⟨c0,_,rfl,s0,⟨c1,_,rfl,s1,⟨c2,_,rfl,s2,rfl⟩⟩⟩:=h
  obtain ⟨x0,rfl,_,p0⟩:=Xsk _ _ s0
  obtain ⟨x1,rfl,_,p1⟩:=Xsm _ _ s1
  obtain ⟨x2,rfl,_,p2⟩:=Xso _ _ s2
  exact ⟨⟨x0,x1,x2⟩,rfl,p0⟩
theorem Xsp:∀ (m:Nat) (ds:List D),Sh Tryz.prog m 90 ds->∃ x:Uj,ds=e90 x/\Xy x
 | 0,_,h=>h.elim
 | m+1,ds,h=>by
  rw[show Sh Tryz.prog (m+1) 90 ds=_ from K3 m XrH ds] at h
  simp only[WX,Uz,ShF] at h
  obtain ⟨c0,_,rfl,s0,⟨c1,_,rfl,s1,⟨c2,_,rfl,s2,rfl⟩⟩⟩:=h
  obtain ⟨x0,rfl,p0⟩:=Zd ty3 _ _ s0
  obtain ⟨x1,rfl,p1⟩:=Xa8 Xhf _ _ s1
  obtain ⟨x2,rfl,p2⟩:=XeI ty4 _ _ s2
  exact ⟨⟨x0,x1,x2⟩,rfl,p1⟩
theorem Xqu (m:Nat) (x:List D) (h:Sh Tryz.prog m 90 x):∃ y:Uj,x=e90 y/\Xy y:=by
 obtain ⟨n,rfl,hp⟩:=Xsp m x h
 exact ⟨n,rfl,hp⟩
theorem Xsq:∀ (m:Nat) (ds:List D),Sh Tryz.prog m 33 ds->∃ l:List Uj,ds=[.isl 90 3 (l.map e90)]/\l.length*24<=Xn/\∀ x∈l,(λ x=>Xy x) x
 | 0,_,h=>h.elim
 | m+1,ds,h=>by
  rw[show Sh Tryz.prog (m+1) 33 ds=_ from XaH m Xrw ds] at h
  obtain ⟨es,rfl,_,hb,hs⟩:=h
  obtain ⟨l,rfl,hl⟩:=Zv (p:=(λ x=>Xy x)) (λ x hx=>Xqu m x (hs x hx))
  exact ⟨l,by rw[Xsd],by rw[W0,Xii] at hb;exact hb,hl⟩
theorem Xin:∀ (m:Nat) (ds:List D),Sh Tryz.prog m 35 ds->∃ x:WT,ds=e35 x/\XY x
 | 0,_,h=>h.elim
 | m+1,ds,h=>by
  rw[show Sh Tryz.prog (m+1) 35 ds=_ from K3 m Xrx ds] at h
  simp only[WX,Uz,ShF] at h
  obtain ⟨c0,_,rfl,s0,rfl⟩:=h
  obtain ⟨x0,rfl,_,p0⟩:=Xsq _ _ s0
  exact ⟨⟨x0⟩,rfl,p0⟩
theorem Xsr:∀ (m:Nat) (ds:List D),Sh Tryz.prog m 92 ds->∃ x:U4,ds=e92 x/\YI x
 | 0,_,h=>h.elim
 | m+1,ds,h=>by
  rw[show Sh Tryz.prog (m+1) 92 ds=_ from K3 m XrI ds] at h
  simp only[WX,Uz,ShF] at h
  obtain ⟨c0,_,rfl,s0,⟨c1,_,rfl,s1,rfl⟩⟩:=h
  obtain ⟨x0,rfl,p0⟩:=Xa8 Xhf _ _ s0
  obtain ⟨x1,rfl,p1⟩:=Zd ty3 _ _ s1
  exact ⟨⟨x0,x1⟩,rfl,p0⟩
theorem Xqv (m:Nat) (x:List D) (h:Sh Tryz.prog m 92 x):∃ y:U4,x=e92 y/\YI y:=by
 obtain ⟨n,rfl,hp⟩:=Xsr m x h
 exact ⟨n,rfl,hp⟩
theorem Xss:∀ (m:Nat) (ds:List D),Sh Tryz.prog m 36 ds->∃ l:List U4,ds=[.isl 92 2 (l.map e92)]/\l.length*16<=Xn/\∀ x∈l,(λ x=>YI x) x
 | 0,_,h=>h.elim
 | m+1,ds,h=>by
  rw[show Sh Tryz.prog (m+1) 36 ds=_ from XaH m Xry ds] at h
  obtain ⟨es,rfl,_,hb,hs⟩:=h
  obtain ⟨l,rfl,hl⟩:=Zv (p:=(λ x=>YI x)) (λ x hx=>Xqv m x (hs x hx))
  exact ⟨l,by rw[Xse],by rw[W0,Xij] at hb;exact hb,hl⟩
theorem Xti:∀ (m:Nat) (ds:List D),Sh Tryz.prog m 38 ds->∃ x:Ud,ds=e38 x/\X4 x
 | 0,_,h=>h.elim
 | m+1,ds,h=>by
  rw[show Sh Tryz.prog (m+1) 38 ds=_ from K3 m Xrz ds] at h
  simp only[WX,Uz,ShF] at h
  obtain ⟨c0,_,rfl,s0,⟨c1,_,rfl,s1,⟨c2,_,rfl,s2,⟨c3,_,rfl,s3,⟨c4,_,rfl,s4,⟨c5,_,rfl,s5,rfl⟩⟩⟩⟩⟩⟩:=h
  obtain ⟨x0,rfl,p0⟩:=Xsi _ _ s0
  obtain ⟨x1,rfl,p1⟩:=Xpa _ _ s1
  obtain ⟨x2,rfl,p2⟩:=Xin _ _ s2
  obtain ⟨x3,rfl,p3⟩:=Xin _ _ s3
  obtain ⟨x4,rfl,_,p4⟩:=Xss _ _ s4
  obtain ⟨x5,rfl,_,p5⟩:=Xim _ _ s5
  exact ⟨⟨x0,x1,x2,x3,x4,x5⟩,rfl,⟨p0,p1,p2,p3,p4,p5⟩⟩
theorem Xst:∀ (m:Nat) (ds:List D),Sh Tryz.prog m 72 ds->∃ x:WI,ds=e72 x/\YJ x
 | 0,_,h=>h.elim
 | m+1,ds,h=>by
  rw[show Sh Tryz.prog (m+1) 72 ds=_ from K3 m XrE ds] at h
  simp only[WX,Uz,ShF] at h
  obtain ⟨c0,_,rfl,s0,⟨c1,_,rfl,s1,⟨c2,_,rfl,s2,rfl⟩⟩⟩:=h
  obtain ⟨x0,rfl,p0⟩:=Zd ty3 _ _ s0
  obtain ⟨x1,rfl,p1⟩:=Zd ty3 _ _ s1
  obtain ⟨x2,rfl,p2⟩:=Xqo XrD _ _ s2
  exact ⟨⟨x0,x1,x2⟩,rfl,p2⟩
theorem Xsu:∀ (m:Nat) (ds:List D),Sh Tryz.prog m 74 ds->∃ x:UL,ds=e74 x/\Yv x
 | 0,_,h=>h.elim
 | m+1,ds,h=>by
  rw[show Sh Tryz.prog (m+1) 74 ds=_ from K3 m XrF ds] at h
  simp only[WX,Uz,ShF] at h
  obtain ⟨c0,_,rfl,s0,⟨c1,_,rfl,s1,rfl⟩⟩:=h
  obtain ⟨x0,rfl,p0⟩:=Xst _ _ s0
  obtain ⟨x1,rfl,_,p1⟩:=Xim _ _ s1
  exact ⟨⟨x0,x1⟩,rfl,⟨p0,p1⟩⟩
theorem Xqw (m:Nat) (x:List D) (h:Sh Tryz.prog m 74 x):∃ y:UL,x=e74 y/\Yv y:=by
 obtain ⟨n,rfl,hp⟩:=Xsu m x h
 exact ⟨n,rfl,hp⟩
theorem Xsv:∀ (m:Nat) (ds:List D),Sh Tryz.prog m 39 ds->∃ l:List UL,ds=[.isl 74 4 (l.map e74)]/\l.length*48<=Xn/\∀ x∈l,(λ x=>Yv x) x
 | 0,_,h=>h.elim
 | m+1,ds,h=>by
  rw[show Sh Tryz.prog (m+1) 39 ds=_ from XaH m XrA ds] at h
  obtain ⟨es,rfl,_,hb,hs⟩:=h
  obtain ⟨l,rfl,hl⟩:=Zv (p:=(λ x=>Yv x)) (λ x hx=>Xqw m x (hs x hx))
  exact ⟨l,by rw[Xsa],by rw[W0,Xig] at hb;exact hb,hl⟩
theorem Xsw:∀ (m:Nat) (ds:List D),Sh Tryz.prog m 96 ds->∃ x:U7,ds=e96 x/\Y8 x
 | 0,_,h=>h.elim
 | m+1,ds,h=>by
  rw[show Sh Tryz.prog (m+1) 96 ds=_ from K3 m XrK ds] at h
  simp only[WX,Uz,ShF] at h
  obtain ⟨c0,_,rfl,s0,⟨c1,_,rfl,s1,⟨c2,_,rfl,s2,rfl⟩⟩⟩:=h
  obtain ⟨x0,rfl,p0⟩:=Xa8 Xhf _ _ s0
  obtain ⟨x1,rfl,p1⟩:=Zd ty3 _ _ s1
  obtain ⟨x2,rfl,p2⟩:=Xa8 Xhf _ _ s2
  exact ⟨⟨x0,x1,x2⟩,rfl,⟨p0,p2⟩⟩
theorem Xqx (m:Nat) (x:List D) (h:Sh Tryz.prog m 96 x):∃ y:U7,x=e96 y/\Y8 y:=by
 obtain ⟨n,rfl,hp⟩:=Xsw m x h
 exact ⟨n,rfl,hp⟩
theorem Xsx:∀ (m:Nat) (ds:List D),Sh Tryz.prog m 40 ds->∃ l:List U7,ds=[.isl 96 3 (l.map e96)]/\l.length*24<=Xn/\∀ x∈l,(λ x=>Y8 x) x
 | 0,_,h=>h.elim
 | m+1,ds,h=>by
  rw[show Sh Tryz.prog (m+1) 40 ds=_ from XaH m XrB ds] at h
  obtain ⟨es,rfl,_,hb,hs⟩:=h
  obtain ⟨l,rfl,hl⟩:=Zv (p:=(λ x=>Y8 x)) (λ x hx=>Xqx m x (hs x hx))
  exact ⟨l,by rw[Xsg],by rw[W0,Xil] at hb;exact hb,hl⟩
theorem Xtj:∀ (m:Nat) (ds:List D),Sh Tryz.prog m 42 ds->∃ x:Wy,ds=e42 x/\Xz x
 | 0,_,h=>h.elim
 | m+1,ds,h=>by
  rw[show Sh Tryz.prog (m+1) 42 ds=_ from K3 m XrC ds] at h
  simp only[WX,Uz,ShF] at h
  obtain ⟨c0,_,rfl,s0,⟨c1,_,rfl,s1,⟨c2,_,rfl,s2,⟨c3,_,rfl,s3,⟨c4,_,rfl,s4,⟨c5,_,rfl,s5,⟨c6,_,rfl,s6,rfl⟩⟩⟩⟩⟩⟩⟩:=h
  obtain ⟨x0,rfl,p0⟩:=Xo9 _ _ s0
  obtain ⟨x1,rfl,_,p1⟩:=Xsv _ _ s1
  obtain ⟨x2,rfl,p2⟩:=Xpa _ _ s2
  obtain ⟨x3,rfl,p3⟩:=Xin _ _ s3
  obtain ⟨x4,rfl,p4⟩:=Xin _ _ s4
  obtain ⟨x5,rfl,_,p5⟩:=Xsx _ _ s5
  obtain ⟨x6,rfl,_,p6⟩:=Xim _ _ s6
  exact ⟨⟨x0,x1,x2,x3,x4,x5,x6⟩,rfl,⟨p1,p2,p3,p4,p5,p6⟩⟩
open Go.Proofs
section
variable {α β:Type} {o:Option α} {y:α} {f:Nat} {a args:List D} {l:List Ob} {e:α->D} {l':α->List Ob} {G:Nat->Option (List D)} {K:D->List Ob->Prop}
theorem OK.t [h:OK o f a l e l'] (ho:o=some y) (hw:GW G) (hf:ZD args a) (hK:K (e y) (l' y)) (t:Prf args):CallG Tryz.prog G f args l K t:=CallG.ofE (h.h G hw y ho) hf hK t
theorem OK.r {β:Type} {k:α->Option β} {r:β} {C:Cx} {s:Heap} {K':D->Prop} [h:OK o f a [] e l'] (hr:bnd o k=some r) (hw:GW G) (hG:C.G=G) (hro:RoA Tryz.prog C s args a) (hsc:∀ y,scal (e y)=true) (hK:∀ y,k y=some r->K' (e y)) (t:Prf args):XoW Tryz.prog C s f args K' t :=
 XcZ hr λ y hy hr=>⟨a,Eqs (e y) (l' y),hro,hG▸h.h G hw y hy,⟨_,_,rfl,rfl⟩,λ _ _ h1=>h1.1▸⟨hsc y,hK y hr⟩⟩
end
theorem dbi {C:Cx} {R:St->Prop} {k:List It} {st:St} {l:List Oper} (o f id:Nat) (hoff:C.off=o) (hf:Fn f) (b:Nat) (aux:List (Nat×Nat×List (List Nat))) (ho:(KU b 0 l aux).map (·.o)=l) (hi:(KU b 0 l aux).map (·.i)=List.range (KU b 0 l aux).length) (hc:XiO (KU b 0 l aux)=true)
 (h:dr Tryz.prog C ⟨l⟩ st.k (KU b 0 l aux) st λ st'=>run Tryz.prog C R 1000 k ⟨st'.t,st'.s,st'.n,st.k+(KU b 0 l aux).length⟩) (t:Prf (⟨l⟩:Array Oper)) (hrd:C.rd=none:=by rfl):DrawnG Tryz.prog C R id ⟨l⟩ k st t :=
 db f id hf b aux ho hi hc h t hrd
theorem exU {α:Sort _} {p:α->Prop} (h:∃ x,p x):∃ x,p x:=h
open Go.Proofs
abbrev vi (x:Int):D:=.v (.int .i64 x)
abbrev vu (x:Int):D:=.v (.int .u64 x)
abbrev vw (x:Int):D:=.v (.int .u32 x)
abbrev s3 (l:List Int):D:=.isl 3 1 (l.map e3)
abbrev s4 (l:List Bool):D:=.isl 4 1 (l.map e4)
abbrev s24 (l:List (List Int)):D:=.isl 24 1 (l.map e24)
abbrev s74 (l:List UL):D:=.isl 74 4 (l.map e74)
abbrev s76 (l:List Int):D:=.isl 76 1 (l.map e76)
abbrev s88 (l:List U1):D:=.isl 88 3 (l.map e88)
abbrev s90 (l:List Uj):D:=.isl 90 3 (l.map e90)
abbrev s92 (l:List U4):D:=.isl 92 2 (l.map e92)
abbrev s94 (l:List U6):D:=.isl 94 3 (l.map e94)
abbrev s96 (l:List U7):D:=.isl 96 3 (l.map e96)
abbrev XoR (l:List WE):D:=.isl 106 2 (l.map XcM)
abbrev K8 (l:List UL):D:=.isl 107 4 (l.map XeG)
abbrev KS (l:List U7):D:=.isl 108 3 (l.map XeH)
abbrev XoS (l:List WE):D:=.isl 115 2 (l.map Xbq)
abbrev Y3 (l:List WM):D:=.isl 136 4 (l.map Yp)
abbrev XjD (l:List U0):D:=.isl 271 4 (l.map Vj)
abbrev Xqy (l:List Ox):D:=.isl 348 2 (l.map Xmw)
attribute [go_sem] vi vu vw s3 s4 s24 s74 s76 s88 s90 s92 s94 s96 XoR K8 KS XoS Y3 XjD Xqy
theorem lp {P:Program} {C:Cx} {R:St->Prop} {c:Code} {k:List It} {st:St} {α β:Type} {o:Option α} {f:α->Option β} {r:β} (I:(α->Prop)->Nat->St->Prop) (hr:bnd o f=some r) (n:Nat)
 (round:∀ n st,I (λ y=>f y=some r) n st->run P C R 1000 (.code c::.stop (λ st'=>∃ n',n'<n/\I (λ y=>f y=some r) n' st')::k) st) (h0:∀ ex,o=some ex->f ex=some r->I (λ y=>f y=some r) n st) (t':Prf c):LoopG P C R c k st t' :=
 XpF hr 1000 n h0 round t'
theorem rk {α:Type} {o:Option α} {f:Nat} {a:List D} {l:List Ob} {e:α->D} {l':α->List Ob} (fn:Func) (rs:List ResultVar) (fr:List Nat) (nt:Nat)
 (h:∀ G,GW G->∀ r,o=some r->∀ (C:Cx) x,C.G=G->WfL Tryz.prog a->Fn f->run Tryz.prog (C.sub 0 x) (VM Tryz.prog rs fr l.length (Eqs (e r) (l' r))) 1000 [.code (fn.body.get!)] (st0 a l nt))
 (hk:(Tryz.prog.funcs[f]?,fn.body,fn.name== "runtime.NumGoroutine",fn.results,fn.ntmps,a.length.ble nt)=(some fn,some (fn.body.get!),false,⟨rs⟩,nt,true):=by kernel_rfl):OK o f a l e l' :=
 rn fn rs fr nt hk h
theorem dc {C:Cx} {R:St->Prop} {k:List It} {st:St} {l:List Oper} (f id:Nat) (hf:Fn f) (b:Nat) (aux:List (Nat×Nat×List (List Nat)))
 (h:dr Tryz.prog C ⟨l⟩ st.k (KU b 0 l aux) st λ st'=>run Tryz.prog C R 1000 k ⟨st'.t,st'.s,st'.n,st.k+(KU b 0 l aux).length⟩) {t:Prf (⟨l⟩:Array Oper)}
 (ho:(KU b 0 l aux).map (·.o)=l:=by rfl) (hi:(KU b 0 l aux).map (·.i)=List.range (KU b 0 l aux).length:=by rfl) (hc:XiO (KU b 0 l aux)=true:=by kernel_rfl) (hrd:C.rd=none:=by rfl):DrawnG Tryz.prog C R id ⟨l⟩ k st t :=
 db f id hf b aux ho hi hc h t hrd
end Go.Sx
