import Derived.Test.YtokkmapiallffaaGreatProg
import Derived.Test.YtokkmapiallffaaGreatWR
import Derived.Test.YtokkmapiallffaaGreatWJ
set_option linter.all false
namespace Go.Sx
open Go.Proofs Tryz
theorem ty3:Xr prog 3=some ⟨1,8,(.int .i64 0),.int .i64⟩:=ae
theorem XiZ:prog.bytesOf 3=8:=ae
theorem ty4:Xr prog 4=some ⟨1,1,(.bool false),.bool⟩:=ae
theorem Xsc:prog.bytesOf 4=1:=ae
theorem ty9:Xr prog 9=some ⟨1,16,(.string (ByteArray.mk #[])),.str⟩:=ae
theorem Xtb:Xr prog 22=some ⟨1,24,(.slice none 0 0),.slice 3 1⟩:=ae
theorem Xup:Xr prog 24=some ⟨2,16,(.agg #[(.int .i64 0),(.int .i64 0)]),.struct [(0,1,3),(1,1,3)]⟩:=ae
theorem Xqr:prog.bytesOf 24=16:=ae
theorem Xuq:Xr prog 25=some ⟨1,24,(.slice none 0 0),.slice 52 1⟩:=ae
theorem Xqs:prog.bytesOf 25=24:=ae
theorem Xur:Xr prog 26=some ⟨1,24,(.slice none 0 0),.slice 122 4⟩:=ae
theorem Xus:Xr prog 28=some ⟨6,80,(.agg #[(.int .i64 0),(.int .i64 0),(.slice none 0 0),(.slice none 0 0),(.int .i64 0),(.int .i64 0)]),.struct [(0,2,24),(2,1,25),(3,1,26),(4,1,3),(5,1,3)]⟩:=ae
theorem Xqt:prog.bytesOf 28=80:=ae
theorem Xut:Xr prog 29=some ⟨1,24,(.slice none 0 0),.slice 158 3⟩:=ae
theorem Xuu:Xr prog 30=some ⟨1,24,(.slice none 0 0),.slice 129 3⟩:=ae
theorem Xuv:Xr prog 32=some ⟨3,72,(.agg #[(.slice none 0 0),(.slice none 0 0),(.slice none 0 0)]),.struct [(0,1,29),(1,1,30),(2,1,22)]⟩:=ae
theorem Xqu:prog.bytesOf 32=72:=ae
theorem Xuw:Xr prog 33=some ⟨1,24,(.slice none 0 0),.slice 96 3⟩:=ae
theorem Xux:Xr prog 35=some ⟨1,24,(.agg #[(.slice none 0 0)]),.struct [(0,1,33)]⟩:=ae
theorem Xqv:prog.bytesOf 35=24:=ae
theorem Xuy:Xr prog 36=some ⟨1,24,(.slice none 0 0),.slice 93 2⟩:=ae
theorem Xuz:Xr prog 38=some ⟨13,248,(.agg #[(.int .i64 0),(.int .i64 0),(.slice none 0 0),(.slice none 0 0),(.int .i64 0),(.int .i64 0),(.slice none 0 0),(.slice none 0 0),(.slice none 0 0),(.slice none 0 0),(.slice none 0 0),(.slice none 0 0),(.slice none 0 0)]),.struct [(0,6,28),(6,3,32),(9,1,35),(10,1,35),(11,1,36),(12,1,25)]⟩:=ae
theorem Xqw:prog.bytesOf 38=248:=ae
theorem XuA:Xr prog 39=some ⟨1,24,(.slice none 0 0),.slice 198 4⟩:=ae
theorem XuB:Xr prog 40=some ⟨1,24,(.slice none 0 0),.slice 277 3⟩:=ae
theorem XuC:Xr prog 42=some ⟨10,208,(.agg #[(.int .i64 0),(.int .i64 0),(.slice none 0 0),(.slice none 0 0),(.slice none 0 0),(.slice none 0 0),(.slice none 0 0),(.slice none 0 0),(.slice none 0 0),(.slice none 0 0)]),.struct [(0,2,24),(2,1,39),(3,3,32),(6,1,35),(7,1,35),(8,1,40),(9,1,25)]⟩:=ae
theorem Xqx:prog.bytesOf 42=208:=ae
theorem XuD:Xr prog 44=some ⟨24,480,(.agg #[(.int .i64 0),(.int .i64 0),(.slice none 0 0),(.slice none 0 0),(.int .i64 0),(.int .i64 0),(.slice none 0 0),(.slice none 0 0),(.slice none 0 0),(.slice none 0 0),(.slice none 0 0),(.slice none 0 0),(.slice none 0 0),(.int .i64 0),(.int .i64 0),(.slice none 0 0),(.slice none 0 0),(.slice none 0 0),(.slice none 0 0),(.slice none 0 0),(.slice none 0 0),(.slice none 0 0),(.slice none 0 0),(.slice none 0 0)]),.struct [(0,13,38),(13,10,42),(23,1,25)]⟩:=ae
theorem Xqy:prog.bytesOf 44=480:=ae
theorem XuE:Xr prog 47=some ⟨6,48,(.agg #[(.int .i64 0),(.int .i64 0),(.int .i64 0),(.int .i64 0),(.int .i64 0),(.int .i64 0)]),.struct [(0,1,3),(1,1,3),(2,1,3),(3,1,3),(4,1,3),(5,1,3)]⟩:=ae
theorem Xqz:prog.bytesOf 47=48:=ae
theorem XuF:Xr prog 48=some ⟨1,8,(.int .i64 0),.int .i64⟩:=ae
theorem XuG:Xr prog 52=some ⟨1,8,(.int .u64 0),.int .u64⟩:=ae
theorem Xki:prog.bytesOf 52=8:=ae
theorem XuH:Xr prog 57=some ⟨1,4,(.int .u32 0),.int .u32⟩:=ae
theorem XuI:Xr prog 59=some ⟨3,24,(.agg #[(.int .i64 0),(.int .i64 0),(.int .u32 0)]),.struct [(0,1,3),(1,1,3),(2,1,57)]⟩:=ae
theorem XqA:prog.bytesOf 59=24:=ae
theorem Xsd:YR prog 59=some [some .i64,some .i64,some .u32]:=ae
theorem XuJ:Xr prog 62=some ⟨2,32,(.agg #[(.slice none 0 0),(.int .i64 0)]),.struct [(0,1,22),(1,1,3)]⟩:=ae
theorem XqB:prog.bytesOf 62=32:=ae
theorem XuK:Xr prog 80=some ⟨4,32,(.agg #[(.int .i64 0),(.int .u64 0),(.int .u64 0),(.int .u64 0)]),.struct [(0,1,3),(1,1,52),(2,1,52),(3,1,52)]⟩:=ae
theorem XqC:prog.bytesOf 80=32:=ae
theorem XuL:Xr prog 86=some ⟨3,24,(.agg #[(.int .i64 0),(.int .i64 0),(.int .i64 0)]),.array 3 48 1⟩:=ae
theorem Xse:YR prog 86=some [some .i64,some .i64,some .i64]:=ae
theorem XuM:Xr prog 93=some ⟨2,16,(.agg #[(.int .u64 0),(.int .i64 0)]),.struct [(0,1,52),(1,1,3)]⟩:=ae
theorem Xkj:prog.bytesOf 93=16:=ae
theorem XuN:Xr prog 96=some ⟨3,24,(.agg #[(.int .i64 0),(.int .u64 0),(.bool false)]),.struct [(0,1,3),(1,1,52),(2,1,4)]⟩:=ae
theorem Xkk:prog.bytesOf 96=24:=ae
theorem Xtc:Xr prog 104=some ⟨1,8,(.int .u64 0),.int .u64⟩:=ae
theorem Xtd:Xr prog 122=some ⟨4,32,(.agg #[(.int .i64 0),(.int .i64 0),(.int .i64 0),(.int .i64 0)]),.struct [(0,1,3),(1,1,3),(2,1,3),(3,1,3)]⟩:=ae
theorem XhU:prog.bytesOf 122=32:=ae
theorem XqD:YR prog 122=some [some .i64,some .i64,some .i64,some .i64]:=ae
theorem Xte:Xr prog 129=some ⟨3,24,(.agg #[(.int .i64 0),(.int .i64 0),(.bool false)]),.struct [(0,1,3),(1,1,3),(2,1,4)]⟩:=ae
theorem XhV:prog.bytesOf 129=24:=ae
theorem Xtf:Xr prog 133=some ⟨3,16,(.agg #[(.bool false),(.bool false),(.int .u64 0)]),.struct [(0,1,4),(1,1,4),(2,1,52)]⟩:=ae
theorem Xod:prog.bytesOf 133=16:=ae
theorem Xtg:Xr prog 139=some ⟨1,8,(.agg #[(.int .i64 0)]),.struct [(0,1,48)]⟩:=ae
theorem Xth:Xr prog 142=some ⟨16,208,(.agg #[(.int .i64 0),(.int .i64 0),(.slice none 0 0),(.slice none 0 0),(.int .i64 0),(.int .i64 0),(.slice none 0 0),(.slice none 0 0),(.slice none 0 0),(.int .i64 0),(.int .i64 0),(.int .i64 0),(.int .i64 0),(.int .i64 0),(.int .i64 0),(.int .i64 0)]),.struct [(0,6,28),(6,1,25),(7,1,22),(8,1,25),(9,1,3),(10,6,47)]⟩:=ae
theorem Xoe:prog.bytesOf 142=208:=ae
theorem Xti:Xr prog 158=some ⟨3,24,(.agg #[(.int .i64 0),(.int .u64 0),(.bool false)]),.struct [(0,1,3),(1,1,52),(2,1,4)]⟩:=ae
theorem XhW:prog.bytesOf 158=24:=ae
theorem Xtj:Xr prog 168=some ⟨2,16,(.agg #[(.int .i64 0),(.int .i64 0)]),.struct [(0,1,3),(1,1,3)]⟩:=ae
theorem Xof:prog.bytesOf 168=16:=ae
theorem Xtk:Xr prog 176=some ⟨1,24,(.slice none 0 0),.slice 93 2⟩:=ae
theorem Xtl:Xr prog 179=some ⟨3,72,(.agg #[(.slice none 0 0),(.slice none 0 0),(.slice none 0 0)]),.struct [(0,3,32)]⟩:=ae
theorem Xog:prog.bytesOf 179=72:=ae
theorem Xtm:Xr prog 187=some ⟨1,24,(.slice none 0 0),.slice 25 1⟩:=ae
theorem Xtn:Xr prog 189=some ⟨1,24,(.slice none 0 0),.slice 4 1⟩:=ae
theorem Xto:Xr prog 198=some ⟨4,48,(.agg #[(.int .i64 0),(.int .i64 0),(.int .u32 0),(.slice none 0 0)]),.struct [(0,3,59),(3,1,25)]⟩:=ae
theorem Xoh:prog.bytesOf 198=48:=ae
theorem Xtp:Xr prog 209=some ⟨1,8,(.pointer none),.other⟩:=ae
theorem Xtq:Xr prog 210=some ⟨16,208,(.agg #[(.int .i64 0),(.int .i64 0),(.slice none 0 0),(.slice none 0 0),(.int .i64 0),(.int .i64 0),(.slice none 0 0),(.slice none 0 0),(.slice none 0 0),(.int .i64 0),(.int .i64 0),(.int .i64 0),(.int .i64 0),(.int .i64 0),(.int .i64 0),(.int .i64 0)]),.struct [(0,6,28),(6,1,25),(7,1,22),(8,1,25),(9,1,3),(10,6,47)]⟩:=ae
theorem Xtr:Xr prog 234=some ⟨1,8,(.agg #[(.int .i64 0)]),.struct [(0,1,3)]⟩:=ae
theorem Xts:Xr prog 237=some ⟨1,8,(.agg #[(.int .i64 0)]),.struct [(0,1,3)]⟩:=ae
theorem Xtt:Xr prog 249=some ⟨3,24,(.agg #[(.int .i64 0),(.int .i64 0),(.int .u64 0)]),.struct [(0,1,3),(1,1,3),(2,1,52)]⟩:=ae
theorem Xoi:prog.bytesOf 249=24:=ae
theorem XqE:YR prog 249=some [some .i64,some .i64,some .u64]:=ae
theorem Xtu:Xr prog 256=some ⟨1,24,(.slice none 0 0),.slice 262 4⟩:=ae
theorem Xtv:Xr prog 262=some ⟨4,32,(.agg #[(.int .u64 0),(.int .i64 0),(.int .i64 0),(.int .u32 0)]),.struct [(0,1,52),(1,3,59)]⟩:=ae
theorem Xoj:prog.bytesOf 262=32:=ae
theorem Xtw:Xr prog 266=some ⟨16,208,(.agg #[(.int .i64 0),(.int .i64 0),(.slice none 0 0),(.slice none 0 0),(.int .i64 0),(.int .i64 0),(.slice none 0 0),(.slice none 0 0),(.slice none 0 0),(.int .i64 0),(.int .i64 0),(.int .i64 0),(.int .i64 0),(.int .i64 0),(.int .i64 0),(.int .i64 0)]),.struct [(0,6,28),(6,1,25),(7,1,22),(8,1,25),(9,1,3),(10,6,47)]⟩:=ae
theorem Xok:prog.bytesOf 266=208:=ae
theorem Xtx:Xr prog 277=some ⟨3,24,(.agg #[(.int .u64 0),(.int .i64 0),(.int .u64 0)]),.struct [(0,1,52),(1,1,3),(2,1,52)]⟩:=ae
theorem Xol:prog.bytesOf 277=24:=ae
theorem Xty:Xr prog 292=some ⟨3,24,(.agg #[(.int .i64 0),(.int .i64 0),(.int .i64 0)]),.struct [(0,1,3),(1,1,3),(2,1,3)]⟩:=ae
theorem Xom:prog.bytesOf 292=24:=ae
theorem Xtz:Xr prog 316=some ⟨2,32,(.agg #[(.pointer none),(.slice none 0 0)]),.struct [(0,1,209),(1,1,25)]⟩:=ae
theorem XtA:Xr prog 321=some ⟨1,8,.nilFunc,.other⟩:=ae
theorem XtB:Xr prog 322=some ⟨4,32,(.agg #[(.int .i64 0),(.int .i64 0),(.int .i64 0),(.int .i64 0)]),.struct [(0,1,3),(1,1,3),(2,1,3),(3,1,3)]⟩:=ae
theorem Xon:prog.bytesOf 322=32:=ae
theorem XqF:YR prog 322=some [some .i64,some .i64,some .i64,some .i64]:=ae
theorem XtC:Xr prog 323=some ⟨3,24,(.agg #[.nilFunc,.nilFunc,.nilFunc]),.array 3 321 1⟩:=ae
theorem XtD:Xr prog 330=some ⟨2,16,(.agg #[(.int .i64 0),(.int .u64 0)]),.struct [(0,1,3),(1,1,52)]⟩:=ae
theorem Xoo:prog.bytesOf 330=16:=ae
theorem XtE:Xr prog 331=some ⟨1,24,(.slice none 0 0),.slice 330 2⟩:=ae
theorem XtF:Xr prog 356=some ⟨1,24,(.slice none 0 0),.slice 359 2⟩:=ae
theorem XtG:Xr prog 359=some ⟨2,16,(.agg #[(.int .i64 0),(.int .i64 0)]),.struct [(0,1,3),(1,1,3)]⟩:=ae
theorem Xop:prog.bytesOf 359=16:=ae
theorem XtH:Xr prog 363=some ⟨3,24,(.agg #[(.int .i64 0),(.int .i64 0),(.int .u64 0)]),.struct [(0,1,3),(1,1,3),(2,1,52)]⟩:=ae
theorem Xoq:prog.bytesOf 363=24:=ae
theorem XqG:YR prog 363=some [some .i64,some .i64,some .u64]:=ae
attribute [go_sem] ty3 ty4 ty9 Xtb Xup Xuq Xur Xus Xut Xuu Xuv Xuw Xux Xuy Xuz XuA XuB XuC XuD XuE XuF XuG XuH XuI Xsd XuJ XuK XuL Xse XuM XuN Xtc Xtd XqD Xte Xtf Xtg Xth Xti Xtj Xtk Xtl Xtm Xtn Xto Xtp Xtq Xtr Xts Xtt XqE Xtu Xtv Xtw Xtx Xty Xtz XtA XtB XqF XtC XtD XtE XtF XtG XtH XqG
attribute [go_sem] zWd zHp
def e3(x:Int):List D:=[.v (.int .i64 x)]
def e62(x:IB):List D:=[.isl 3 1 (x.L.map e3),.v (.int .i64 x.at_)]
def e24(x:WR):List D:=[.v (.int .i64 x.W),.v (.int .i64 x.p)]
def e52(x:Int):List D:=[.v (.int .u64 x)]
def XX(x:Wr):List D:=[.v (.int .i64 x.k),.v (.int .i64 x.s),.v (.int .i64 x.u),.v (.int .i64 x.P)]
def e28(x:Wh):List D:=[.v (.int .i64 x.c.W),.v (.int .i64 x.c.p),.isl 52 1 (x.w.map e52),.isl 122 4 (x.p.map XX),.v (.int .i64 x.s),.v (.int .i64 x.b)]
def KB(x:UI):List D:=[.v (.int .i64 x.J),.v (.int .u64 x.a),.v (.bool x.V)]
def Xab(x:UU):List D:=[.v (.int .i64 x.O),.v (.int .i64 x.C0),.v (.bool x.B0)]
def e96(x:W8):List D:=[.v (.int .i64 x.G),.v (.int .u64 x.a),.v (.bool x.V)]
def e93(x:UE):List D:=[.v (.int .u64 x.a),.v (.int .i64 x.M)]
def e38(x:Um):List D:=[.v (.int .i64 x.h.c.W),.v (.int .i64 x.h.c.p),.isl 52 1 (x.h.w.map e52),.isl 122 4 (x.h.p.map XX),.v (.int .i64 x.h.s),.v (.int .i64 x.h.b),.isl 158 3 (x.l.S.map KB),.isl 129 3 (x.l.x.map Xab),.isl 3 1 (x.l.i.map e3),.isl 96 3 (x.g.e.map e96),.isl 96 3 (x.v.e.map e96),.isl 93 2 (x.P.map e93),.isl 52 1 (x.R.map e52)]
def Xb6(x:In):List D:=[.v (.int .i64 x.H.k),.v (.int .i64 x.H.n),.v (.int .u32 x.H.Map),.isl 52 1 (x.D.map e52)]
def Xgi(x:IA):List D:=[.v (.int .u64 x.I),.v (.int .i64 x.M),.v (.int .u64 x.B0)]
def e42(x:WQ):List D:=[.v (.int .i64 x.c.W),.v (.int .i64 x.c.p),.isl 198 4 (x.T.map Xb6),.isl 158 3 (x.l.S.map KB),.isl 129 3 (x.l.x.map Xab),.isl 3 1 (x.l.i.map e3),.isl 96 3 (x.g.e.map e96),.isl 96 3 (x.v.e.map e96),.isl 277 3 (x.m.map Xgi),.isl 52 1 (x.R.map e52)]
def e44(x:Io):List D:=[.v (.int .i64 x.N.h.c.W),.v (.int .i64 x.N.h.c.p),.isl 52 1 (x.N.h.w.map e52),.isl 122 4 (x.N.h.p.map XX),.v (.int .i64 x.N.h.s),.v (.int .i64 x.N.h.b),.isl 158 3 (x.N.l.S.map KB),.isl 129 3 (x.N.l.x.map Xab),.isl 3 1 (x.N.l.i.map e3),.isl 96 3 (x.N.g.e.map e96),.isl 96 3 (x.N.v.e.map e96),.isl 93 2 (x.N.P.map e93),.isl 52 1 (x.N.R.map e52),.v (.int .i64 x.z.c.W),.v (.int .i64 x.z.c.p),.isl 198 4 (x.z.T.map Xb6),.isl 158 3 (x.z.l.S.map KB),.isl 129 3 (x.z.l.x.map Xab),.isl 3 1 (x.z.l.i.map e3),.isl 96 3 (x.z.g.e.map e96),.isl 96 3 (x.z.v.e.map e96),.isl 277 3 (x.z.m.map Xgi),.isl 52 1 (x.z.R.map e52),.isl 52 1 (x.w.map e52)]
def e35(x:WG):List D:=[.isl 96 3 (x.e.map e96)]
def e32(x:Ws):List D:=[.isl 158 3 (x.S.map KB),.isl 129 3 (x.x.map Xab),.isl 3 1 (x.i.map e3)]
def e59(x:Wx):List D:=[.v (.int .i64 x.k),.v (.int .i64 x.n),.v (.int .u32 x.Map)]
def e4(x:Bool):List D:=[.v (.bool x)]
def XqH(x:Us):List D:=[.v (.int .i64 x.Fault),.v (.int .i64 x.Page),.v (.int .u64 x.Addr)]
def Jz(x:Wu):List D:=[.v (.int .i64 x.h.c.W),.v (.int .i64 x.h.c.p),.isl 52 1 (x.h.w.map e52),.isl 122 4 (x.h.p.map XX),.v (.int .i64 x.h.s),.v (.int .i64 x.h.b),.isl 52 1 (x.o.map e52),.isl 3 1 (x.t.map e3),.isl 52 1 (x.q.map e52),.v (.int .i64 x.d),.v (.int .i64 x.r.j),.v (.int .i64 x.r.K),.v (.int .i64 x.r.F),.v (.int .i64 x.r.E),.v (.int .i64 x.r.f),.v (.int .i64 x.r.y)]
def Xi0(x:Ox):List D:=[.v (.int .i64 x.O),.v (.int .i64 x.Len)]
def e47(x:WV):List D:=[.v (.int .i64 x.j),.v (.int .i64 x.K),.v (.int .i64 x.F),.v (.int .i64 x.E),.v (.int .i64 x.f),.v (.int .i64 x.y)]
def XqI(x:Iu):List D:=[.v (.int .i64 x.Tag),.v (.int .i64 x.Index),.v (.int .i64 x.J)]
def Xsf(x:OA):List D:=[.v (.bool x.Failed),.v (.bool x.Collected),.v (.int .u64 x.B0)]
def e80(x:Ou):List D:=[.v (.int .i64 x.Op),.v (.int .u64 x.A),.v (.int .u64 x.B),.v (.int .u64 x.C)]
def Xor(x:IM):List D:=[.isl 158 3 (x.l.S.map KB),.isl 129 3 (x.l.x.map Xab),.isl 3 1 (x.l.i.map e3)]
def e25(x:List Int):List D:=[.isl 52 1 (x.map e52)]
def XhX(x:Wr):List D:=[.v (.int .i64 x.k),.v (.int .i64 x.s),.v (.int .i64 x.u),.v (.int .i64 x.P)]
def Xac(x:UV):List D:=[.v (.int .u64 x.addr),.v (.int .i64 x.hd.k),.v (.int .i64 x.hd.n),.v (.int .u32 x.hd.Map)]
def XqJ(x:Us):List D:=[.v (.int .i64 x.Fault),.v (.int .i64 x.Page),.v (.int .u64 x.Addr)]
def Xgj(x:Wu):List D:=[.v (.int .i64 x.h.c.W),.v (.int .i64 x.h.c.p),.isl 52 1 (x.h.w.map e52),.isl 122 4 (x.h.p.map XX),.v (.int .i64 x.h.s),.v (.int .i64 x.h.b),.isl 52 1 (x.o.map e52),.isl 3 1 (x.t.map e3),.isl 52 1 (x.q.map e52),.v (.int .i64 x.d),.v (.int .i64 x.r.j),.v (.int .i64 x.r.K),.v (.int .i64 x.r.F),.v (.int .i64 x.r.E),.v (.int .i64 x.r.f),.v (.int .i64 x.r.y)]
def Xsg(x:Ih):List D:=[.v (.int .i64 x.Width),.v (.int .u64 x.Value)]
def XtI(x:Oy):List D:=[.v (.int .i64 x.page),.v (.int .i64 x.offset)]
attribute [go_sem] e3 e62 e24 e52 XX e28 KB Xab e96 e93 e38 Xb6 Xgi e42 e44 e35 e32 e59 e4 XqH Jz Xi0 e47 XqI Xsf e80 Xor e25 XhX Xac XqJ Xgj Xsg XtI XiZ XqB Xqr Xki XhU Xqt XhW XhV Xkk Xkj Xqw Xoh Xol Xqx Xqy Xqv Xqu XqA Xsc Xoq Xok Xop Xqz Xom Xod XqC Xog Xqs Xon Xoj Xoi Xoe Xoo Xof
theorem XhY:Go.Proofs.Tryz.prog.follows .mixedOrders=true:=ae
def GW(G:Nat->Option (List D)):Prop:=∀f,G (roK f)=if f=224 then some []else none
open Go.Proofs Tryz
theorem E:True:=trivial
theorem hd:True:=trivial
theorem EF:True:=trivial
theorem hx3:True:=trivial
theorem hl3:True:=trivial
theorem hm3:True:=trivial
theorem hl4:True:=trivial
theorem hm4:True:=trivial
theorem XqK:True:=trivial
theorem XtJ:True:=trivial
theorem XA:True:=trivial
theorem YB:True:=trivial
theorem KC:True:=trivial
theorem XtK:True:=trivial
theorem Zk:True:=trivial
theorem VE:True:=trivial
theorem Xk:True:=trivial
theorem XU:True:=trivial
theorem ZJ:True:=trivial
theorem X2:True:=trivial
theorem Ki:True:=trivial
theorem KO:True:=trivial
theorem XbB:True:=trivial
theorem JL:True:=trivial
theorem Xos:True:=trivial
theorem XbC:True:=trivial
theorem Fq:True:=trivial
theorem hK:True:=trivial
theorem XuO{α:Type}{G:Prop}{a c:Int}{x y:Option α}{r:α}(h:(bif (a==c)then x else y)=some r)(f:a=c->x=some r->G)(g:¬a=c->y=some r->G):G:=by
 by_cases e:a=c
 .rw[beq_iff_eq.2 e]at h;exact f e h
 rw[beq_eq_false_iff_ne.2 e]at h;exact g e h
attribute [go_sem] Option.get!
structure Fn(n:Nat):Prop where
class OK{α:Type}(o:Option α)(f:outParam Nat)(a:outParam (List D))(l:outParam (List Ob))(e:outParam (α->D))(l':outParam (α->List Ob)):Prop where
 h:∀G,GW G->∀r,o=some r->YZ prog G f a l (Eqs (e r) (l' r))
section
variable {α β:Type}{o:Option α}{k:α->Option β}{f:Nat}{a args:List D}{l:List Ob}{e:α->D}{l':α->List Ob}{G:Nat->Option (List D)}{r:β}{K:D->List Ob->Prop}
theorem OK.c[h:OK o f a l e l'](hr:bnd o k=some r)(hw:GW G)(hf:Z4 args a)(hK:∀y,k y=some r->K (e y) (l' y))(t:Prf args):CallG prog G f args l K t:=
 Xa3 hr λy hy hr=>CallG.ofE (h.h G hw y hy) hf (hK y hr) t
theorem OK.d[h:OK o f a l e l'](hr:bnd o k=some r)(hw:GW G)(hf:Z4 args a)(hK:∀y,k y=some r->K (e y) (l' y))(t:Prf args):CallD prog G f args l K t:=
 Xa3 hr λy hy hr=>CallD.ofE (h.h G hw y hy) hf (hK y hr) t
theorem rn(fn:Func)(rs:List ResultVar)(fr:List Nat)(nt:Nat)(hk:(prog.funcs[f]?,fn.body,fn.name== "runtime.NumGoroutine",fn.results,fn.ntmps,a.length.ble nt)=(some fn,some (fn.body.get!),false,⟨rs⟩,nt,true))(h:∀G,GW G->∀r,o=some r->∀(C:Cx)x,C.G=G->WfL prog a->Fn f->run prog (C.sub 0 x) (JM prog rs fr l.length (Eqs (e r) (l' r))) 1000 [.code (fn.body.get!)] (st0 a l nt)):OK o f a l e l':=by injection hk with h1 hk;injection hk with h2 hk;injection hk with h3 hk;injection hk with h4 hk;injection hk with h5 h6;exact⟨λG hw r hr=>Yq 1000 fr nt h1 h2 h3 h4 h5 (I6 h6) λC x hG hwf=>h G hw r hr C x hG hwf ⟨⟩⟩
end
def bm(b n:Nat):List Nat:=((List.range (n.log2+1)).filter λi=>n / 2 ^ i % 2==1).map λi=>i+b
theorem Xsh{b n x:Nat}:(bm b n).contains x=(decide (b<=x)&&n / 2 ^ (x-b) % 2==1):=by
 rw[Bool.eq_iff_iff,UF,bm,WO];simp only[WY,List.mem_range,beq_iff_eq,WI,decide_eq_true_eq];constructor
 .rintro⟨i,⟨h1,h2⟩,rfl⟩;rw[IK];exact⟨Nat.le_add_left _ _,h2⟩
 rintro⟨h1,h3⟩;refine⟨x-b,⟨?_,h3⟩,Nat.sub_add_cancel h1⟩;have hp:0<n / 2 ^ (x-b):=by
  rcases Uo (n / 2 ^ (x-b))with h|h
  .rw[h]at h3;cases h3
  exact h
 have hle:2 ^ (x-b)<=n:=by
  rcases UA n (2 ^ (x-b))with h|h
  .rw[Nat.div_eq_of_lt h]at hp;cases hp
  exact h
 have hn:n≠0:=by rintro rfl;have:=Nat.two_pow_pos (x-b);omega
 exact Nat.lt_succ_of_le ((Nat.le_log2 hn).2 hle)
theorem XtL{b n x:Nat}{p q:D}:(if(bm b n).contains x=true then p else q)=if x<b then q else if n / 2 ^ (x-b) % 2=1 then p else q:=by
 rw[Xsh];by_cases h1:x<b
 .rw[Wn h1,We (Nat.not_le.2 h1),UJ];rfl
 rw[Wk h1,Wg (Nat.not_lt.1 h1),Uc];by_cases h3:n / 2 ^ (x-b) % 2=1
 .rw[Wn h3,Wn (beq_iff_eq.2 h3)]
 rw[Wk h3,Wk (λh=>h3 (beq_iff_eq.1 h))]
def Xsi(b:Nat):Nat->List Oper->List (Nat×Nat×List (List Nat))->List En
 |i,o::l,(a,m,[])::x=>⟨i,o,bm 0 a,[],bm b m,[]⟩::Xsi b (i+1) l x
 |i,o::l,(a,m,[w,k])::x=>⟨i,o,bm 0 a,w,bm b m,k⟩::Xsi b (i+1) l x
 |_,[],[]=>[]
 |i,_,_=>[⟨i,⟨none,.assign (.tmp 0),0,"",#[],none⟩,[],[],[],[]⟩]
attribute [go_sem] XtL Xsi
class El{α:Type}(x:Option α)(r:α)(K:outParam (Prop->Prop)):Prop where
 el:∀{G:Prop},x=some r->K G->G
instance{α:Type}{p:Prop}[Decidable p]{x:Option α}{r:α}:El (grd p x) r λG=>x=some r->p->G:=⟨λh k=>Xsq h λa b=>k b a⟩
instance{κ α:Type}{k:κ}{f:κ->Option α}{r:α}:El (jn k f) r λG=>f k=some r->G:=⟨λh k=>Xt3 h k⟩
instance{α β γ:Type}{b:β}{f:α->Option γ}{k:β->Option γ}{r:γ}:El (exK (.nxt b) f k) r λG=>k b=some r->G:=⟨λh k=>Xsr h k⟩
instance{α β γ:Type}{b:α}{f:α->Option γ}{k:β->Option γ}{r:γ}:El (exK (.ret b) f k) r λG=>f b=some r->G:=⟨λh k=>Xss h k⟩
instance{α:Type}{x y:Option α}{r:α}:El (bif true then x else y) r λG=>x=some r->G:=⟨λh k=>k h⟩
instance{α:Type}{x y:Option α}{r:α}:El (bif false then x else y) r λG=>y=some r->G:=⟨λh k=>k h⟩
instance{α:Type}{x y:Option α}{r:α}:El (bif !false then x else y) r λG=>x=some r->G:=⟨λh k=>k h⟩
instance{α:Type}{x y:Option α}{r:α}:El (bif !true then x else y) r λG=>y=some r->G:=⟨λh k=>k h⟩
theorem XJ{α:Type}{G:Prop}{b c:Bool}{x y:Option α}{r:α}(h:(bif b then x else y)=some r)(hb:b=c)(g:(bif c then x else y)=some r->G):G:=g (hb▸h)
theorem XuP:wI (-1) = -1:=by unfold wI;decide
theorem Xot{α:Type}{l:List α}{o n:Nat}{i:Int}{b:Prop}{β:Type}{f:α->Option β}{r:β}{p:α}(hr:bnd (KP l o n i) f=some r)(hp:KP l o n i=some p)(k:KP l o n i=some p->o+i.toNat<l.length->(∀(γ:Type) (e:α->List γ),(l.map e).getD (o+i.toNat) []=e p)->f p=some r->b):(0<=i/\i<n)/\b:=
 Xi2 hr λq hq h1 h2 h3=>by obtain rfl:=WE (hp.symm.trans hq);exact k hq h1 h2 h3
theorem Xq4{α:Type}{l:List α}{o n:Nat}{i:Int}{b:Prop}{β:Type}{f:α->Option β}{r:β}{p:α}(hr:bnd (KP l o n i) f=some r)(hp:KP l o n i=some p)(k:KP l o n i=some p->o+i.toNat<l.length->(∀(γ:Type) (e:α->List γ),(l.map e).getD (o+i.toNat) []=e p)->f p=some r->b):i<n/\b:=
 let ⟨h1,h2⟩:=Xot hr hp k;⟨h1.2,h2⟩
abbrev FwH(s:Heap)(wb w1 p wp w3 w4 w5:Nat)(a:Wu):Prop:=s 51584=some (w1,.arr false 52 1 (a.h.w.map e52) 0)/\s p=some (wp,.arr false 122 4 (a.h.p.map XX) 0)/\s 52288=some (w3,.arr false 52 1 (a.o.map e52) 0)/\s 52480=some (w4,.arr false 3 1 (a.t.map e3) 0)/\s 52672=some (w5,.arr false 52 1 (a.q.map e52) 0)/\s 51264=some (wb,.arr true 210 16 [[.v (.int .i64 a.h.c.W),.v (.int .i64 a.h.c.p),.osl 51584 w1 1 0 a.h.w.length,.osl p wp 4 0 a.h.p.length,.v (.int .i64 a.h.s),.v (.int .i64 a.h.b),.osl 52288 w3 1 0 a.o.length,.osl 52480 w4 1 0 a.t.length,.osl 52672 w5 1 0 a.q.length,.v (.int .i64 a.d),.v (.int .i64 a.r.j),.v (.int .i64 a.r.K),.v (.int .i64 a.r.F),.v (.int .i64 a.r.E),.v (.int .i64 a.r.f),.v (.int .i64 a.r.y)]] 0)
def Xi1(s s':Heap):Heap:=λi=>if i<51264 then s i else s' i
theorem XB{s s':Heap}{i:Nat}:Xi1 s s' i=if i<51264 then s i else s' i:=rfl
theorem Xq5{s s':Heap}{A:Prop}{K:Heap->Prop}(hK:A->K (Xi1 s s'))(h:A)(hl:∀i,i<51264->s' i=s i):K s':=by
 have e:s'=Xi1 s s':=by
  funext i;rw[XB];split
  .exact hl i ah
  rfl
 rw[e];exact hK h
theorem Xgk{s s':Heap}{K:Heap->Prop}{A:Nat->Nat->Nat->Nat->Prop}(hK:∀p wp w4 w5,(p=51840\/p=210816)->A p wp w4 w5->K (Xi1 s s'))(p wp w4 w5:Nat)(hp:p=51840\/p=210816)(h:A p wp w4 w5)(hl:∀i,i<51264->s' i=s i):K s':=Xq5 (hK p wp w4 w5 hp) h hl
theorem Z3{G:Nat->Option (List D)}(hw:GW G){f:Nat}{α:Type}{x:Option α}:Xfs G f x=if f=224 then none else x:=by
 by_cases h:f=224
 .rw[Wn h];exact XrB ((hw f).trans (Wn h))
 rw[Wk h];exact XrA ((hw f).trans (Wk h))
theorem Xou{G:Nat->Option (List D)}(b0 b1 b2 b3 b5 b6 b7 b8 b9 b10 b11 b12 b13 b14 b15:D)(sp:Int):YZ prog G 224 [.ipt 16 [b0,b1,b2,b3,.v (.int .i64 sp),b5,b6,b7,b8,b9,b10,b11,b12,b13,b14,b15] 0] [] (Eqs (.v (.int .i64 (wI (1-sp)))) []):=by
 refine Yq (fn:=f224) (body:=(f224.body).get!) (rs:=[.tmp 2]) 1000 [] 9 ae ae ae ae ae ac λC _ hG hwf=>?_;subst hG;simp only[f224,Option.get!];simp only[go_sem,simprocAttr];with_reducible refine XT ?_
 simp only[go_sem,simprocAttr]
theorem XcS{C:Cx}{s:Heap}{id v T:Nat}{a0 a1 a2 a3 a5 a6 a7 a8 a9 a10 a11 a12 a13 a14 a15 b0 b1 b2 b3 b5 b6 b7 b8 b9 b10 b11 b12 b13 b14 b15:D}{sp:Int}{c:Prop}{l:List Nat}{K:D->Prop}(hs:s id=some (v,.arr true T 16 [[a0,a1,a2,a3,.v (.int .i64 sp),a5,a6,a7,a8,a9,a10,a11,a12,a13,a14,a15]] 0))(hsn:ZS s [a0,a1,a2,a3,.v (.int .i64 sp),a5,a6,a7,a8,a9,a10,a11,a12,a13,a14,a15]=some (c,[b0,b1,b2,b3,.v (.int .i64 sp),b5,b6,b7,b8,b9,b10,b11,b12,b13,b14,b15],l))(hc:c)(hK:K (.v (.int .i64 (wI (1-sp)))))(t:Prf [D.ept id v 16 0 0]):XqN prog C s 224 [.ept id v 16 0 0] K t:=
 ⟨_,_,XrK hs hsn hc rfl,Xou b0 b1 b2 b3 b5 b6 b7 b8 b9 b10 b11 b12 b13 b14 b15 sp,⟨_,_,rfl,rfl⟩,λ_ _ h=>h.1▸⟨rfl,hK⟩⟩
def LoS(s' s:Heap):Prop:=∀i,i<51264->s' i=s i
theorem LoS.mk{s' s:Heap}(h:∀i,i<51264->s' i=s i):LoS s' s:=h
theorem XtM{ws:List Int}{i n X k W:Nat}{v:D}(h:n<=W-X):((List.take i (ws.map e52)++List.take n (List.drop X (ws.map e52)))++List.drop (k+min n (W-X)) (ws.map e52)).set (X+0) (v::List.drop 1 (((List.take i (ws.map e52)++List.take n (List.drop X (ws.map e52)))++List.drop (k+min n (W-X)) (ws.map e52)).getD (X+0) []))=((List.take i (ws.map e52)++List.take n (List.drop X (ws.map e52)))++List.drop (k+n) (ws.map e52)).set X [v]:=by
 rw[I4 h,IW];congr 1;have m:∀x∈(List.take i (ws.map e52)++List.take n (List.drop X (ws.map e52)))++List.drop (k+n) (ws.map e52),List.drop 1 x=[]:=by
  intro x hx;have:x∈ws.map e52:=by
   rcases Wt.1 hx with hx|hx
   .rcases Wt.1 hx with hx|hx
    .exact WS hx
    exact WT (WS hx)
   exact WT hx
  obtain⟨y,_,rfl⟩:=WO.1 this;rfl
 rw[Wj];cases e:((List.take i (ws.map e52)++List.take n (List.drop X (ws.map e52)))++List.drop (k+n) (ws.map e52))[X]? with
 |none=>rfl
 |some x=>exact congrArg _ (m x (W7 e))
theorem VH{i k:Nat}(h:i<51264)(hk:51264<=k):(i=k)=False:=eq_false ab
open Go.Proofs Tryz
set_option maxRecDepth 10000
theorem XhZ{α:Type}{e:α->List D}{p:α->Prop}:∀{es:List (List D)},(∀x∈es,∃y,x=e y/\p y)->∃l:List α,es=l.map e/\∀x∈l,p x
 |[],_=>⟨[],rfl,λx h=>by cases h⟩
 |x::es,h=>by obtain⟨y,rfl,hy⟩:=h x ac;obtain⟨l,rfl,hl⟩:=XhZ (e:=e) (p:=p) (es:=es) λz hz=>h z (WU _ hz);exact⟨y::l,rfl,λz hz=>by rcases Ia.1 hz with rfl|hz;exact hy;exact hl z hz⟩
section
variable {P:Program}{t e:TypeId}{fs:List (Nat×Nat×Nat)}{a b s:Nat}{z:Value}
theorem XtN(m:Nat)(h:Xr P t=some ⟨a,b,z,.slice e s⟩)(ds:List D):Sh P (m+1) t ds=∃es,ds=[.isl e (P.cellsOf e) es]/\es.length<=XC/\es.length*P.bytesOf e<=XC/\∀x∈es,Sh P m e x:=by simp only[Sh,(Ya h).1]
theorem Xsj(h:Xr P t=some ⟨a,b,z,.int .i64⟩):∀(m:Nat) (ds:List D),Sh P m t ds->∃n,ds=[.v (.int .i64 n)]/\True
 |0,_,h'=>h'.elim
 |m+1,ds,h'=>by simp only[Sh,Xff h]at h';obtain⟨n,rfl,h1,h2⟩:=h';exact⟨n,rfl,trivial⟩
end
theorem XuQ:prog.cellsOf 3=1:=ae
theorem XtO(m:Nat)(x:List D)(h:Sh prog m 3 x):∃y:Int,x=e3 y/\True:=by obtain⟨n,rfl,hp⟩:=Xsj ty3 m x h;exact⟨n,rfl,trivial⟩
theorem XuS:∀(m:Nat) (ds:List D),Sh prog m 22 ds->∃l:List Int,ds=[.isl 3 1 (l.map e3)]/\l.length*8<=XC/\∀x∈l,(λ_=>True) x
 |0,_,h=>h.elim
 |m+1,ds,h=>by rw[show Sh prog (m+1) 22 ds=_ from XtN m Xtb ds]at h;obtain⟨es,rfl,_,hb,hs⟩:=h;obtain⟨l,rfl,hl⟩:=XhZ (p:=(λ_=>True)) (λx hx=>XtO m x (hs x hx));exact⟨l,by rw[XuQ],by rw[Ug,XiZ]at hb;exact hb,hl⟩
open Go.Proofs Tryz
section
variable {α β:Type}{o:Option α}{y:α}{f:Nat}{a args:List D}{l:List Ob}{e:α->D}{l':α->List Ob}{G:Nat->Option (List D)}{K:D->List Ob->Prop}
theorem OK.t[h:OK o f a l e l'](ho:o=some y)(hw:GW G)(hf:Z4 args a)(hK:K (e y) (l' y))(t:Prf args):CallG prog G f args l K t:=CallG.ofE (h.h G hw y ho) hf hK t
end
section
variable {C:Cx}{R:St->Prop}{k:List It}{st:St}{l:List Oper}{t:Prf (⟨l⟩:Array Oper)}{id:Nat}
theorem dp(h:dr prog C ⟨l⟩ st.k (mkS 0 l []) st λst'=>run prog C R 1000 k ⟨st'.t,st'.s,st'.n,st.k+l.length⟩)(hc:Xfv l (XaQ l []) []=true:=by kernel_rfl)(hrd:C.rd=none:=by rfl):DrawnG prog C R id ⟨l⟩ k st t:=
 DrawnG.auto 1000 XhY hc h t hrd
theorem dqh(f id:Nat)(_:Fn f)(aux:List (Nat×List Nat×List Nat))(h:dr prog C ⟨l⟩ st.k (mkS 0 l aux) st λst'=>run prog C R 1000 k ⟨st'.t,st'.s,st'.n,st.k+l.length⟩)(hc:Xfv l (XaQ l []) aux=true:=by kernel_rfl)(hrd:C.rd=none:=by rfl):DrawnG prog C R id ⟨l⟩ k st t:=
 DrawnG.auto 1000 XhY hc h t hrd
theorem dq(f id:Nat)(_:Fn f)(aux:List (Nat×List Nat×List Nat))(h:dr prog C ⟨l⟩ st.k (mkS 0 l aux) st λst'=>run prog C R 1000 k ⟨st'.t,st'.s,st'.n,st.k+l.length⟩)(ho:C.off=0:=by rfl)(hc:Xfv l (XaQ l []) aux=true:=by kernel_rfl)(hrd:C.rd=none:=by rfl):DrawnG prog C R id ⟨l⟩ k st t:=
 DrawnG.auto 1000 XhY hc h t hrd
theorem dqi(o f id:Nat)(_:Fn f)(aux:List (Nat×List Nat×List Nat))(h:dr prog C ⟨l⟩ st.k (mkS 0 l aux) st λst'=>run prog C R 1000 k ⟨st'.t,st'.s,st'.n,st.k+l.length⟩)(ho:C.off=o:=by rfl)(hc:Xfv l (XaQ l []) aux=true:=by kernel_rfl)(hrd:C.rd=none:=by rfl):DrawnG prog C R id ⟨l⟩ k st t:=
 DrawnG.auto 1000 XhY hc h t hrd
theorem dqm{c:Oper}(f id:Nat)(_:Fn f)(m:Nat)(aux:List (Nat×List Nat×List Nat))(h:dr prog C ⟨l⟩ st.k ((mkS 0 l aux).take m) st λst'=>Xfu prog C (ZR c.op) c.dst ⟨st'.t,st'.s,st'.n,st.k+m⟩ (λst2=>dr prog C ⟨l⟩ st2.k ((mkS 0 l aux).drop (m+1)) st2 λst'=>run prog C R 1000 k ⟨st'.t,st'.s,st'.n,st2.k+l.length⟩) trivial)(hl:l[m]? = some c:=by rfl)(hg:c.guard=none:=by rfl)(ho:C.off=0:=by rfl)(hc:(Xfv l (XaQ l []) aux&&(Xpn (mkF l (XaQ l []) aux)&&(Xda m (mkF l (XaQ l []) aux)&&Xda (m+1) (mkF l (XaQ l []) aux))))=true:=by kernel_rfl)(hrd:C.rd=none:=by rfl):DrawnG prog C R id ⟨l⟩ k st t:=
 OO 1000 m c XhY hc hl hg h t hrd
end
abbrev Iv{α:Type}(o:Option α)(Q:α->Prop)(p:Prop):Prop:=∃x,o=some x/\Q x/\p
abbrev O1{α:Type}(o:Option α)(f:Nat)(a:List D)(e:α->D):Prop:=OK o f a [] e λ_=>[]
theorem XuT{α β:Type}{i:Int}{f:α->Option β}{r:β}{Q:Prop}(h:bnd (Xd [] i) f=some r):Q:=by
 have e:Xd ([]:List α) i=none:=by unfold Xd;split<;>rfl
 rw[e]at h;unfold bnd at h;cases h
open Go.Proofs Tryz
abbrev vi(x:Int):D:=.v (.int .i64 x)
abbrev vu(x:Int):D:=.v (.int .u64 x)
abbrev vw(x:Int):D:=.v (.int .u32 x)
abbrev s3(l:List Int):D:=.isl 3 1 (l.map e3)
abbrev s4(l:List Bool):D:=.isl 4 1 (l.map e4)
abbrev s25(l:List (List Int)):D:=.isl 25 1 (l.map e25)
abbrev s52(l:List Int):D:=.isl 52 1 (l.map e52)
abbrev s93(l:List UE):D:=.isl 93 2 (l.map e93)
abbrev s96(l:List W8):D:=.isl 96 3 (l.map e96)
abbrev Yz(l:List Wr):D:=.isl 122 4 (l.map XX)
abbrev Xcu(l:List UU):D:=.isl 129 3 (l.map Xab)
abbrev Xcv(l:List UI):D:=.isl 158 3 (l.map KB)
abbrev XtP(l:List In):D:=.isl 198 4 (l.map Xb6)
abbrev Xlz(l:List UV):D:=.isl 262 4 (l.map Xac)
abbrev XtQ(l:List IA):D:=.isl 277 3 (l.map Xgi)
abbrev Xov(l:List Ih):D:=.isl 330 2 (l.map Xsg)
abbrev Xow(l:List Ox):D:=.isl 359 2 (l.map Xi0)
attribute [go_sem] vi vu vw s3 s4 s25 s52 s93 s96 Yz Xcu Xcv XtP Xlz XtQ Xov Xow
theorem lp{P:Program}{C:Cx}{R:St->Prop}{c:Code}{k:List It}{st:St}{α β:Type}{o:Option α}{f:α->Option β}{r:β}(I:(α->Prop)->Nat->St->Prop)(hr:bnd o f=some r)(n:Nat)(round:∀n st,I (λy=>f y=some r) n st->run P C R 1000 (.code c::.stop (λst'=>∃n',n'<n/\I (λy=>f y=some r) n' st')::k) st)(h0:∀ex,o=some ex->f ex=some r->I (λy=>f y=some r) n st)(t':Prf c):LoopG P C R c k st t':=
 XmH hr 1000 n h0 round t'
theorem rq{α:Type}{o:Option α}{f:Nat}{a:List D}{l:List Ob}{e:α->D}{l':α->List Ob}(fn:Func)(fr:List Nat)(h:∀G,GW G->∀r,o=some r->∀(C:Cx)x,C.G=G->WfL prog a->Fn f->run prog (C.sub 0 x) (JM prog fn.results.toList fr l.length (Eqs (e r) (l' r))) 1000 [.code (fn.body.get!)] (st0 a l fn.ntmps))(hk:(prog.funcs[f]?,fn.body,fn.name== "runtime.NumGoroutine",a.length.ble fn.ntmps)=(some fn,some (fn.body.get!),false,true):=by kernel_rfl):OK o f a l e l':=by injection hk with h1 hk;injection hk with h2 hk;injection hk with h3 h6;exact⟨λG hw r hr=>Yq 1000 fr fn.ntmps h1 h2 h3 rfl rfl (I6 h6) λC x hG hwf=>h G hw r hr C x hG hwf ⟨⟩⟩
theorem rk{α:Type}{o:Option α}{f:Nat}{a:List D}{l:List Ob}{e:α->D}{l':α->List Ob}(fn:Func)(h:∀G,GW G->∀r,o=some r->∀(C:Cx)x,C.G=G->WfL prog a->Fn f->run prog (C.sub 0 x) (JM prog fn.results.toList [] l.length (Eqs (e r) (l' r))) 1000 [.code (fn.body.get!)] (st0 a l fn.ntmps))(hk:(prog.funcs[f]?,fn.body,fn.name== "runtime.NumGoroutine",a.length.ble fn.ntmps)=(some fn,some (fn.body.get!),false,true):=by kernel_rfl):OK o f a l e l':=
 rq fn [] h hk
attribute [go_sem] List.toList_toArray
end Go.Sx
