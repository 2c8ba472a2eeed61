import Derived.Test.YtmpbhfnjjaocoaaGreatProg
import Derived.Test.YtmpbhfnjjaocoaaGreatAR
import Derived.Test.YtmpbhfnjjaocoaaGreatAI
set_option linter.all false
namespace Go.Sx
open Go.Proofs
theorem ty3:Xo Tryz.prog 3=some ⟨1,8,(.int .i64 0),.int .i64⟩:=ac
theorem XhO:Tryz.prog.bytesOf 3=8:=ac
theorem ty4:Xo Tryz.prog 4=some ⟨1,1,(.bool false),.bool⟩:=ac
theorem Xqy:Tryz.prog.bytesOf 4=1:=ac
theorem ty9:Xo Tryz.prog 9=some ⟨1,16,(.string (ByteArray.mk #[])),.str⟩:=ac
theorem XrK:Xo Tryz.prog 23=some ⟨2,16,(.agg #[(.int .i64 0),(.int .i64 0)]),.struct [(0,1,3),(1,1,3)]⟩:=ac
theorem XoF:Tryz.prog.bytesOf 23=16:=ac
theorem Xqz:Yc Tryz.prog 23=some [some .i64,some .i64]:=ac
theorem XrL:Xo Tryz.prog 24=some ⟨1,24,(.slice none 0 0),.slice 58 1⟩:=ac
theorem XoG:Tryz.prog.bytesOf 24=24:=ac
theorem XrM:Xo Tryz.prog 25=some ⟨1,24,(.slice none 0 0),.slice 175 4⟩:=ac
theorem XrN:Xo Tryz.prog 27=some ⟨6,80,(.agg #[(.int .i64 0),(.int .i64 0),(.slice none 0 0),(.slice none 0 0),(.int .i64 0),(.int .i64 0)]),.struct [(0,2,23),(2,1,24),(3,1,25),(4,1,3),(5,1,3)]⟩:=ac
theorem XoH:Tryz.prog.bytesOf 27=80:=ac
theorem XrO:Xo Tryz.prog 28=some ⟨1,24,(.slice none 0 0),.slice 107 3⟩:=ac
theorem XrP:Xo Tryz.prog 29=some ⟨1,24,(.slice none 0 0),.slice 111 3⟩:=ac
theorem XrQ:Xo Tryz.prog 30=some ⟨1,24,(.slice none 0 0),.slice 3 1⟩:=ac
theorem XrR:Xo Tryz.prog 32=some ⟨3,72,(.agg #[(.slice none 0 0),(.slice none 0 0),(.slice none 0 0)]),.struct [(0,1,28),(1,1,29),(2,1,30)]⟩:=ac
theorem XoI:Tryz.prog.bytesOf 32=72:=ac
theorem XrS:Xo Tryz.prog 33=some ⟨1,24,(.slice none 0 0),.slice 109 3⟩:=ac
theorem XrT:Xo Tryz.prog 35=some ⟨1,24,(.agg #[(.slice none 0 0)]),.struct [(0,1,33)]⟩:=ac
theorem XoJ:Tryz.prog.bytesOf 35=24:=ac
theorem XrU:Xo Tryz.prog 36=some ⟨1,24,(.slice none 0 0),.slice 84 2⟩:=ac
theorem XrV:Xo Tryz.prog 38=some ⟨13,248,(.agg #[(.int .i64 0),(.int .i64 0),(.slice none 0 0),(.slice none 0 0),(.int .i64 0),(.int .i64 0),(.slice none 0 0),(.slice none 0 0),(.slice none 0 0),(.slice none 0 0),(.slice none 0 0),(.slice none 0 0),(.slice none 0 0)]),.struct [(0,6,27),(6,3,32),(9,1,35),(10,1,35),(11,1,36),(12,1,24)]⟩:=ac
theorem XoK:Tryz.prog.bytesOf 38=248:=ac
theorem Xti:Xo Tryz.prog 39=some ⟨1,24,(.slice none 0 0),.slice 38 13⟩:=ac
theorem Xtj:Xo Tryz.prog 42=some ⟨6,48,(.agg #[(.int .i64 0),(.int .i64 0),(.int .i64 0),(.int .i64 0),(.int .i64 0),(.int .i64 0)]),.struct [(0,1,3),(1,1,3),(2,1,3),(3,1,3),(4,1,3),(5,1,3)]⟩:=ac
theorem XoL:Tryz.prog.bytesOf 42=48:=ac
theorem Xtk:Xo Tryz.prog 43=some ⟨1,8,(.int .i64 0),.int .i64⟩:=ac
theorem Xtl:Xo Tryz.prog 49=some ⟨1,4,(.int .u32 0),.int .u32⟩:=ac
theorem Xtm:Xo Tryz.prog 51=some ⟨3,24,(.agg #[(.int .i64 0),(.int .i64 0),(.int .u32 0)]),.struct [(0,1,3),(1,1,3),(2,1,49)]⟩:=ac
theorem XoM:Tryz.prog.bytesOf 51=24:=ac
theorem XqA:Yc Tryz.prog 51=some [some .i64,some .i64,some .u32]:=ac
theorem Xtn:Xo Tryz.prog 54=some ⟨2,32,(.agg #[(.slice none 0 0),(.int .i64 0)]),.struct [(0,1,30),(1,1,3)]⟩:=ac
theorem XoN:Tryz.prog.bytesOf 54=32:=ac
theorem Xto:Xo Tryz.prog 57=some ⟨1,24,(.slice none 0 0),.slice 51 3⟩:=ac
theorem Xmu:Xo Tryz.prog 58=some ⟨1,8,(.int .u64 0),.int .u64⟩:=ac
theorem Xfd:Tryz.prog.bytesOf 58=8:=ac
theorem Xtp:Xo Tryz.prog 62=some ⟨1,24,(.slice none 0 0),.slice 258 4⟩:=ac
theorem Xtq:Xo Tryz.prog 63=some ⟨1,24,(.slice none 0 0),.slice 323 3⟩:=ac
theorem Xtr:Xo Tryz.prog 65=some ⟨10,208,(.agg #[(.int .i64 0),(.int .i64 0),(.slice none 0 0),(.slice none 0 0),(.slice none 0 0),(.slice none 0 0),(.slice none 0 0),(.slice none 0 0),(.slice none 0 0),(.slice none 0 0)]),.struct [(0,2,23),(2,1,62),(3,3,32),(6,1,35),(7,1,35),(8,1,63),(9,1,24)]⟩:=ac
theorem XoO:Tryz.prog.bytesOf 65=208:=ac
theorem Xts:Xo Tryz.prog 67=some ⟨24,480,(.agg #[(.int .i64 0),(.int .i64 0),(.slice none 0 0),(.slice none 0 0),(.int .i64 0),(.int .i64 0),(.slice none 0 0),(.slice none 0 0),(.slice none 0 0),(.slice none 0 0),(.slice none 0 0),(.slice none 0 0),(.slice none 0 0),(.int .i64 0),(.int .i64 0),(.slice none 0 0),(.slice none 0 0),(.slice none 0 0),(.slice none 0 0),(.slice none 0 0),(.slice none 0 0),(.slice none 0 0),(.slice none 0 0),(.slice none 0 0)]),.struct [(0,13,38),(13,10,65),(23,1,24)]⟩:=ac
theorem XoP:Tryz.prog.bytesOf 67=480:=ac
theorem Xtt:Xo Tryz.prog 77=some ⟨3,24,(.agg #[(.int .i64 0),(.int .i64 0),(.int .i64 0)]),.array 3 43 1⟩:=ac
theorem XqB:Yc Tryz.prog 77=some [some .i64,some .i64,some .i64]:=ac
theorem XrW:Xo Tryz.prog 84=some ⟨2,16,(.agg #[(.int .u64 0),(.int .i64 0)]),.struct [(0,1,58),(1,1,3)]⟩:=ac
theorem Xfe:Tryz.prog.bytesOf 84=16:=ac
theorem XqC:Yc Tryz.prog 84=some [some .u64,some .i64]:=ac
theorem Xtu:Xo Tryz.prog 93=some ⟨1,8,(.int .u64 0),.int .u64⟩:=ac
theorem XrX:Xo Tryz.prog 101=some ⟨4,32,(.agg #[(.int .i64 0),(.int .u64 0),(.int .u64 0),(.int .u64 0)]),.struct [(0,1,3),(1,1,58),(2,1,58),(3,1,58)]⟩:=ac
theorem Xmv:Tryz.prog.bytesOf 101=32:=ac
theorem XrY:Xo Tryz.prog 104=some ⟨8,128,(.agg #[(.int .i64 0),(.int .i64 0),(.slice none 0 0),(.slice none 0 0),(.int .i64 0),(.int .i64 0),(.slice none 0 0),(.slice none 0 0)]),.struct [(0,6,27),(6,1,24),(7,1,24)]⟩:=ac
theorem Xmw:Tryz.prog.bytesOf 104=128:=ac
theorem Xpj:Xo Tryz.prog 107=some ⟨3,24,(.agg #[(.int .i64 0),(.int .u64 0),(.bool false)]),.struct [(0,1,3),(1,1,58),(2,1,4)]⟩:=ac
theorem Xdg:Tryz.prog.bytesOf 107=24:=ac
theorem XoQ:Yc Tryz.prog 107=some [some .i64,some .u64,none]:=ac
theorem Xpk:Xo Tryz.prog 109=some ⟨3,24,(.agg #[(.int .i64 0),(.int .u64 0),(.bool false)]),.struct [(0,1,3),(1,1,58),(2,1,4)]⟩:=ac
theorem Xdh:Tryz.prog.bytesOf 109=24:=ac
theorem XoR:Yc Tryz.prog 109=some [some .i64,some .u64,none]:=ac
theorem Xpl:Xo Tryz.prog 111=some ⟨3,24,(.agg #[(.int .i64 0),(.int .i64 0),(.bool false)]),.struct [(0,1,3),(1,1,3),(2,1,4)]⟩:=ac
theorem Xdi:Tryz.prog.bytesOf 111=24:=ac
theorem XoS:Yc Tryz.prog 111=some [some .i64,some .i64,none]:=ac
theorem XrZ:Xo Tryz.prog 120=some ⟨1,8,(.agg #[(.int .i64 0)]),.struct [(0,1,43)]⟩:=ac
theorem Xr0:Xo Tryz.prog 123=some ⟨16,208,(.agg #[(.int .i64 0),(.int .i64 0),(.slice none 0 0),(.slice none 0 0),(.int .i64 0),(.int .i64 0),(.slice none 0 0),(.slice none 0 0),(.slice none 0 0),(.int .i64 0),(.int .i64 0),(.int .i64 0),(.int .i64 0),(.int .i64 0),(.int .i64 0),(.int .i64 0)]),.struct [(0,6,27),(6,1,24),(7,1,30),(8,1,24),(9,1,3),(10,6,42)]⟩:=ac
theorem Xmx:Tryz.prog.bytesOf 123=208:=ac
theorem Xr1:Xo Tryz.prog 138=some ⟨16,208,(.agg #[(.int .i64 0),(.int .i64 0),(.slice none 0 0),(.slice none 0 0),(.int .i64 0),(.int .i64 0),(.slice none 0 0),(.slice none 0 0),(.slice none 0 0),(.int .i64 0),(.int .i64 0),(.int .i64 0),(.int .i64 0),(.int .i64 0),(.int .i64 0),(.int .i64 0)]),.struct [(0,6,27),(6,1,24),(7,1,30),(8,1,24),(9,1,3),(10,6,42)]⟩:=ac
theorem Xmy:Tryz.prog.bytesOf 138=208:=ac
theorem Xr2:Xo Tryz.prog 154=some ⟨2,16,(.agg #[(.int .i64 0),(.int .i64 0)]),.struct [(0,1,3),(1,1,3)]⟩:=ac
theorem Xmz:Tryz.prog.bytesOf 154=16:=ac
theorem Xr3:Xo Tryz.prog 169=some ⟨3,16,(.agg #[(.bool false),(.bool false),(.int .u64 0)]),.struct [(0,1,4),(1,1,4),(2,1,58)]⟩:=ac
theorem XmA:Tryz.prog.bytesOf 169=16:=ac
theorem Xpm:Xo Tryz.prog 175=some ⟨4,32,(.agg #[(.int .i64 0),(.int .i64 0),(.int .i64 0),(.int .i64 0)]),.struct [(0,1,3),(1,1,3),(2,1,3),(3,1,3)]⟩:=ac
theorem Xdj:Tryz.prog.bytesOf 175=32:=ac
theorem XoT:Yc Tryz.prog 175=some [some .i64,some .i64,some .i64,some .i64]:=ac
theorem Xr4:Xo Tryz.prog 177=some ⟨1,24,(.slice none 0 0),.slice 84 2⟩:=ac
theorem Xr5:Xo Tryz.prog 180=some ⟨3,72,(.agg #[(.slice none 0 0),(.slice none 0 0),(.slice none 0 0)]),.struct [(0,3,32)]⟩:=ac
theorem XmB:Tryz.prog.bytesOf 180=72:=ac
theorem Xr6:Xo Tryz.prog 192=some ⟨1,24,(.slice none 0 0),.slice 24 1⟩:=ac
theorem Xr7:Xo Tryz.prog 195=some ⟨1,8,(.pointer none),.other⟩:=ac
theorem Xr8:Xo Tryz.prog 196=some ⟨16,208,(.agg #[(.int .i64 0),(.int .i64 0),(.slice none 0 0),(.slice none 0 0),(.int .i64 0),(.int .i64 0),(.slice none 0 0),(.slice none 0 0),(.slice none 0 0),(.int .i64 0),(.int .i64 0),(.int .i64 0),(.int .i64 0),(.int .i64 0),(.int .i64 0),(.int .i64 0)]),.struct [(0,6,27),(6,1,24),(7,1,30),(8,1,24),(9,1,3),(10,6,42)]⟩:=ac
theorem Xr9:Xo Tryz.prog 238=some ⟨1,8,(.agg #[(.int .i64 0)]),.struct [(0,1,3)]⟩:=ac
theorem Xsa:Xo Tryz.prog 241=some ⟨1,8,(.agg #[(.int .i64 0)]),.struct [(0,1,3)]⟩:=ac
theorem Xsb:Xo Tryz.prog 248=some ⟨1,24,(.slice none 0 0),.slice 4 1⟩:=ac
theorem Xsc:Xo Tryz.prog 258=some ⟨4,48,(.agg #[(.int .i64 0),(.int .i64 0),(.int .u32 0),(.slice none 0 0)]),.struct [(0,3,51),(3,1,24)]⟩:=ac
theorem XmC:Tryz.prog.bytesOf 258=48:=ac
theorem Xsd:Xo Tryz.prog 268=some ⟨3,24,(.agg #[(.int .i64 0),(.int .i64 0),(.int .u64 0)]),.struct [(0,1,3),(1,1,3),(2,1,58)]⟩:=ac
theorem XmD:Tryz.prog.bytesOf 268=24:=ac
theorem XoU:Yc Tryz.prog 268=some [some .i64,some .i64,some .u64]:=ac
theorem Xse:Xo Tryz.prog 275=some ⟨1,24,(.slice none 0 0),.slice 281 4⟩:=ac
theorem Xsf:Xo Tryz.prog 281=some ⟨4,32,(.agg #[(.int .u64 0),(.int .i64 0),(.int .i64 0),(.int .u32 0)]),.struct [(0,1,58),(1,3,51)]⟩:=ac
theorem XmE:Tryz.prog.bytesOf 281=32:=ac
theorem Xsg:Xo Tryz.prog 291=some ⟨2,32,(.agg #[(.pointer none),(.slice none 0 0)]),.struct [(0,1,195),(1,1,24)]⟩:=ac
theorem Xsh:Xo Tryz.prog 296=some ⟨3,24,(.agg #[(.int .i64 0),(.int .i64 0),(.int .u64 0)]),.struct [(0,1,3),(1,1,3),(2,1,58)]⟩:=ac
theorem XmF:Tryz.prog.bytesOf 296=24:=ac
theorem XoV:Yc Tryz.prog 296=some [some .i64,some .i64,some .u64]:=ac
theorem Xsi:Xo Tryz.prog 306=some ⟨1,8,.nilFunc,.other⟩:=ac
theorem Xsj:Xo Tryz.prog 307=some ⟨4,32,(.agg #[(.int .i64 0),(.int .i64 0),(.int .i64 0),(.int .i64 0)]),.struct [(0,1,3),(1,1,3),(2,1,3),(3,1,3)]⟩:=ac
theorem XmG:Tryz.prog.bytesOf 307=32:=ac
theorem XoW:Yc Tryz.prog 307=some [some .i64,some .i64,some .i64,some .i64]:=ac
theorem Xsk:Xo Tryz.prog 308=some ⟨3,24,(.agg #[.nilFunc,.nilFunc,.nilFunc]),.array 3 306 1⟩:=ac
theorem Xsl:Xo Tryz.prog 313=some ⟨2,16,(.agg #[(.int .i64 0),(.int .u64 0)]),.struct [(0,1,3),(1,1,58)]⟩:=ac
theorem XmH:Tryz.prog.bytesOf 313=16:=ac
theorem Xsm:Xo Tryz.prog 314=some ⟨1,24,(.slice none 0 0),.slice 313 2⟩:=ac
theorem Xsn:Xo Tryz.prog 315=some ⟨1,24,(.slice none 0 0),.slice 318 2⟩:=ac
theorem Xso:Xo Tryz.prog 318=some ⟨2,16,(.agg #[(.int .i64 0),(.int .i64 0)]),.struct [(0,1,3),(1,1,3)]⟩:=ac
theorem XmI:Tryz.prog.bytesOf 318=16:=ac
theorem Xsp:Xo Tryz.prog 323=some ⟨3,24,(.agg #[(.int .u64 0),(.int .i64 0),(.int .u64 0)]),.struct [(0,1,58),(1,1,3),(2,1,58)]⟩:=ac
theorem XmJ:Tryz.prog.bytesOf 323=24:=ac
theorem Xsq:Xo Tryz.prog 338=some ⟨3,24,(.agg #[(.int .i64 0),(.int .i64 0),(.int .i64 0)]),.struct [(0,1,3),(1,1,3),(2,1,3)]⟩:=ac
theorem XmK:Tryz.prog.bytesOf 338=24:=ac
attribute [go_sem] ty3 ty4 ty9 XrK Xqz XrL XrM XrN XrO XrP XrQ XrR XrS XrT XrU XrV Xti Xtj Xtk Xtl Xtm XqA Xtn Xto Xmu Xtp Xtq Xtr Xts Xtt XqB XrW XqC Xtu XrX XrY Xpj XoQ Xpk XoR Xpl XoS XrZ Xr0 Xr1 Xr2 Xr3 Xpm XoT Xr4 Xr5 Xr6 Xr7 Xr8 Xr9 Xsa Xsb Xsc Xsd XoU Xse Xsf Xsg Xsh XoV Xsi Xsj XoW Xsk Xsl Xsm Xsn Xso Xsp Xsq
attribute [go_sem] zWd zHp
def e3(x:Int):List D:=[.v (.int .i64 x)]
def e54(x:UG):List D:=[.isl 3 1 (x.L.map e3),.v (.int .i64 x.at_)]
def e23(x:WT):List D:=[.v (.int .i64 x.W),.v (.int .i64 x.p)]
def e58(x:Int):List D:=[.v (.int .u64 x)]
def XS(x:Wt):List D:=[.v (.int .i64 x.k),.v (.int .i64 x.s),.v (.int .i64 x.u),.v (.int .i64 x.P)]
def e27(x:Wk):List D:=[.v (.int .i64 x.c.W),.v (.int .i64 x.c.p),.isl 58 1 (x.w.map e58),.isl 175 4 (x.p.map XS),.v (.int .i64 x.s),.v (.int .i64 x.b)]
def ZT(x:UM):List D:=[.v (.int .i64 x.J),.v (.int .u64 x.a),.v (.bool x.V)]
def K6(x:UU):List D:=[.v (.int .i64 x.O),.v (.int .i64 x.C0),.v (.bool x.B0)]
def Zv(x:W8):List D:=[.v (.int .i64 x.G),.v (.int .u64 x.a),.v (.bool x.V)]
def e84(x:UH):List D:=[.v (.int .u64 x.a),.v (.int .i64 x.M)]
def e38(x:W9):List D:=[.v (.int .i64 x.h.c.W),.v (.int .i64 x.h.c.p),.isl 58 1 (x.h.w.map e58),.isl 175 4 (x.h.p.map XS),.v (.int .i64 x.h.s),.v (.int .i64 x.h.b),.isl 107 3 (x.l.S.map ZT),.isl 111 3 (x.l.x.map K6),.isl 3 1 (x.l.i.map e3),.isl 109 3 (x.g.e.map Zv),.isl 109 3 (x.v.e.map Zv),.isl 84 2 (x.P.map e84),.isl 58 1 (x.R.map e58)]
def Xbg(x:Ib):List D:=[.v (.int .i64 x.H.k),.v (.int .i64 x.H.n),.v (.int .u32 x.H.Map),.isl 58 1 (x.D.map e58)]
def Xdx(x:Il):List D:=[.v (.int .u64 x.I),.v (.int .i64 x.M),.v (.int .u64 x.B0)]
def e65(x:WV):List D:=[.v (.int .i64 x.c.W),.v (.int .i64 x.c.p),.isl 258 4 (x.T.map Xbg),.isl 107 3 (x.l.S.map ZT),.isl 111 3 (x.l.x.map K6),.isl 3 1 (x.l.i.map e3),.isl 109 3 (x.g.e.map Zv),.isl 109 3 (x.v.e.map Zv),.isl 323 3 (x.m.map Xdx),.isl 58 1 (x.R.map e58)]
def e67(x:Iw):List D:=[.v (.int .i64 x.N.h.c.W),.v (.int .i64 x.N.h.c.p),.isl 58 1 (x.N.h.w.map e58),.isl 175 4 (x.N.h.p.map XS),.v (.int .i64 x.N.h.s),.v (.int .i64 x.N.h.b),.isl 107 3 (x.N.l.S.map ZT),.isl 111 3 (x.N.l.x.map K6),.isl 3 1 (x.N.l.i.map e3),.isl 109 3 (x.N.g.e.map Zv),.isl 109 3 (x.N.v.e.map Zv),.isl 84 2 (x.N.P.map e84),.isl 58 1 (x.N.R.map e58),.v (.int .i64 x.z.c.W),.v (.int .i64 x.z.c.p),.isl 258 4 (x.z.T.map Xbg),.isl 107 3 (x.z.l.S.map ZT),.isl 111 3 (x.z.l.x.map K6),.isl 3 1 (x.z.l.i.map e3),.isl 109 3 (x.z.g.e.map Zv),.isl 109 3 (x.z.v.e.map Zv),.isl 323 3 (x.z.m.map Xdx),.isl 58 1 (x.z.R.map e58),.isl 58 1 (x.w.map e58)]
def e35(x:WE):List D:=[.isl 109 3 (x.e.map Zv)]
def e32(x:Ww):List D:=[.isl 107 3 (x.S.map ZT),.isl 111 3 (x.x.map K6),.isl 3 1 (x.i.map e3)]
def e51(x:Wy):List D:=[.v (.int .i64 x.k),.v (.int .i64 x.n),.v (.int .u32 x.Map)]
def e4(x:Bool):List D:=[.v (.bool x)]
def XoX(x:Uc):List D:=[.v (.int .i64 x.Fault),.v (.int .i64 x.Page),.v (.int .u64 x.Addr)]
def K4(x:WD):List D:=[.v (.int .i64 x.h.c.W),.v (.int .i64 x.h.c.p),.isl 58 1 (x.h.w.map e58),.isl 175 4 (x.h.p.map XS),.v (.int .i64 x.h.s),.v (.int .i64 x.h.b),.isl 58 1 (x.o.map e58),.isl 3 1 (x.t.map e3),.isl 58 1 (x.q.map e58),.v (.int .i64 x.d),.v (.int .i64 x.r.j),.v (.int .i64 x.r.K),.v (.int .i64 x.r.F),.v (.int .i64 x.r.E),.v (.int .i64 x.r.f),.v (.int .i64 x.r.y)]
def XhP(x:IY):List D:=[.v (.int .i64 x.O),.v (.int .i64 x.Len)]
def e42(x:WM):List D:=[.v (.int .i64 x.j),.v (.int .i64 x.K),.v (.int .i64 x.F),.v (.int .i64 x.E),.v (.int .i64 x.f),.v (.int .i64 x.y)]
def XoY(x:IA):List D:=[.v (.int .i64 x.Tag),.v (.int .i64 x.Index),.v (.int .i64 x.J)]
def XqD(x:I6):List D:=[.v (.bool x.Failed),.v (.bool x.Collected),.v (.int .u64 x.B0)]
def XqE(x:IZ):List D:=[.v (.int .i64 x.Op),.v (.int .u64 x.A),.v (.int .u64 x.B),.v (.int .u64 x.C)]
def XoZ(x:Ih):List D:=[.v (.int .i64 x.h.c.W),.v (.int .i64 x.h.c.p),.isl 58 1 (x.h.w.map e58),.isl 175 4 (x.h.p.map XS),.v (.int .i64 x.h.s),.v (.int .i64 x.h.b),.isl 58 1 (x.Strong.map e58),.isl 58 1 (x.Weak.map e58)]
def XmL(x:IV):List D:=[.isl 107 3 (x.l.S.map ZT),.isl 111 3 (x.l.x.map K6),.isl 3 1 (x.l.i.map e3)]
def e24(x:List Int):List D:=[.isl 58 1 (x.map e58)]
def XgM(x:Wt):List D:=[.v (.int .i64 x.k),.v (.int .i64 x.s),.v (.int .i64 x.u),.v (.int .i64 x.P)]
def Vw(x:UJ):List D:=[.v (.int .u64 x.addr),.v (.int .i64 x.hd.k),.v (.int .i64 x.hd.n),.v (.int .u32 x.hd.Map)]
def Xo0(x:Uc):List D:=[.v (.int .i64 x.Fault),.v (.int .i64 x.Page),.v (.int .u64 x.Addr)]
def Xff(x:WD):List D:=[.v (.int .i64 x.h.c.W),.v (.int .i64 x.h.c.p),.isl 58 1 (x.h.w.map e58),.isl 175 4 (x.h.p.map XS),.v (.int .i64 x.h.s),.v (.int .i64 x.h.b),.isl 58 1 (x.o.map e58),.isl 3 1 (x.t.map e3),.isl 58 1 (x.q.map e58),.v (.int .i64 x.d),.v (.int .i64 x.r.j),.v (.int .i64 x.r.K),.v (.int .i64 x.r.F),.v (.int .i64 x.r.E),.v (.int .i64 x.r.f),.v (.int .i64 x.r.y)]
def XqF(x:U2):List D:=[.v (.int .i64 x.Width),.v (.int .u64 x.Value)]
def Xsr(x:IK):List D:=[.v (.int .i64 x.page),.v (.int .i64 x.offset)]
attribute [go_sem] e3 e54 e23 e58 XS e27 ZT K6 Zv e84 e38 Xbg Xdx e65 e67 e35 e32 e51 e4 XoX K4 XhP e42 XoY XqD XqE XoZ XmL e24 XgM Vw Xo0 Xff XqF Xsr XhO XoN XoF Xfd Xdj XoH Xdg Xdi Xdh Xfe XoK XmC XmJ XoO XoP XoJ XoI XoM Xqy XmF Xmy XmI XoL XmK XmA Xmv Xmw XmB XoG XmG XmE XmD Xmx XmH Xmz
theorem Xss:Go.Proofs.Tryz.prog.follows .mixedOrders=true:=ac
def GW(G:Nat->Option (List D)):Prop:=∀f,G (roK f)=if f=209 then some []else none
open Go.Proofs
theorem E:True:=trivial
theorem hd:True:=trivial
theorem EF:True:=trivial
theorem hx3:True:=trivial
theorem hl3:True:=trivial
theorem hm3:True:=trivial
theorem hl4:True:=trivial
theorem hm4:True:=trivial
theorem Xo1:True:=trivial
theorem Xst:True:=trivial
theorem XqG:True:=trivial
theorem XqH:True:=trivial
theorem Xu:True:=trivial
theorem Yt:True:=trivial
theorem ZU:True:=trivial
theorem Xsu:True:=trivial
theorem XX:True:=trivial
theorem Z1:True:=trivial
theorem Yo:True:=trivial
theorem Kj:True:=trivial
theorem YE:True:=trivial
theorem Xpn:True:=trivial
theorem Xj:True:=trivial
theorem XU:True:=trivial
theorem Kk:True:=trivial
theorem XaK:True:=trivial
theorem XmM:True:=trivial
theorem XaL:True:=trivial
theorem Kv:True:=trivial
theorem Fq:True:=trivial
theorem hK:True:=trivial
theorem Xtv{α:Type}{G:Prop}{a c:Int}{x y:Option α}{r:α}(h:(bif (a==c)then x else y)=some r)(f:a=c->x=some r->G)(g:¬a=c->y=some r->G):G:=by
 by_cases e:a=c
 .rw[beq_iff_eq.2 e]at h;exact f e h
 rw[beq_eq_false_iff_ne.2 e]at h;exact g e h
attribute [go_sem] Option.get!
structure Fn(n:Nat):Prop where
class OK{α:Type}(o:Option α)(f:outParam Nat)(a:outParam (List D))(l:outParam (List Ob))(e:outParam (α->D))(l':outParam (α->List Ob)):Prop where
 h:∀G,GW G->∀r,o=some r->YM Tryz.prog G f a l (Eqs (e r) (l' r))
section
variable {α β:Type}{o:Option α}{k:α->Option β}{f:Nat}{a args:List D}{l:List Ob}{e:α->D}{l':α->List Ob}{G:Nat->Option (List D)}{r:β}{K:D->List Ob->Prop}
theorem OK.c[h:OK o f a l e l'](hr:bnd o k=some r)(hw:GW G)(hf:ZK args a)(hK:∀y,k y=some r->K (e y) (l' y))(t:Prf args):CallG Tryz.prog G f args l K t:=
 Xae hr λy hy hr=>CallG.ofE (h.h G hw y hy) hf (hK y hr) t
theorem IM[h:OK o f a l e l'](hr:bnd o k=some r)(hw:GW G)(hf:ZK args a)(hK:∀y,k y=some r->K (e y) (l' y))(t:Prf args):CallD Tryz.prog G f args l K t:=
 Xae hr λy hy hr=>CallD.ofE (h.h G hw y hy) hf (hK y hr) t
theorem rn(fn:Func)(rs:List ResultVar)(fr:List Nat)(nt:Nat)(hk:(Tryz.prog.funcs[f]?,fn.body,fn.name== "runtime.NumGoroutine",fn.results,fn.ntmps,a.length.ble nt)=(some fn,some (fn.body.get!),false,⟨rs⟩,nt,true))(h:∀G,GW G->∀r,o=some r->∀(C:Cx)x,C.G=G->WfL Tryz.prog a->Fn f->run Tryz.prog (C.sub 0 x) (Jq Tryz.prog rs fr l.length (Eqs (e r) (l' r))) 1000 [.code (fn.body.get!)] (st0 a l nt)):OK o f a l e l':=by injection hk with h1 hk;injection hk with h2 hk;injection hk with h3 hk;injection hk with h4 hk;injection hk with h5 h6;exact⟨λG hw r hr=>Ys 1000 fr nt h1 h2 h3 h4 h5 (Nat.le_of_ble_eq_true h6) λC x hG hwf=>h G hw r hr C x hG hwf ⟨⟩⟩
end
def bm(b n:Nat):List Nat:=((List.range (n.log2+1)).filter λi=>n / 2 ^ i % 2==1).map λi=>i+b
theorem XqI{b n x:Nat}:(bm b n).contains x=(decide (b<=x)&&n / 2 ^ (x-b) % 2==1):=by
 rw[Bool.eq_iff_iff,II,bm,UX];simp only[US,List.mem_range,beq_iff_eq,W6,decide_eq_true_eq];constructor
 .rintro⟨i,⟨h1,h2⟩,rfl⟩;rw[Ig];exact⟨Nat.le_add_left _ _,h2⟩
 rintro⟨h1,h3⟩;refine⟨x-b,⟨?_,h3⟩,Nat.sub_add_cancel h1⟩;have hp:0<n / 2 ^ (x-b):=by
  rcases Ua (n / 2 ^ (x-b))with h|h
  .rw[h]at h3;cases h3
  exact h
 have hle:2 ^ (x-b)<=n:=by
  rcases Uq n (2 ^ (x-b))with h|h
  .rw[Nat.div_eq_of_lt h]at hp;cases hp
  exact h
 have hn:n≠0:=by rintro rfl;have:=Nat.two_pow_pos (x-b);omega
 exact Nat.lt_succ_of_le ((Nat.le_log2 hn).2 hle)
theorem Xsv{b n x:Nat}{p q:D}:(if(bm b n).contains x=true then p else q)=if x<b then q else if n / 2 ^ (x-b) % 2=1 then p else q:=by
 rw[XqI];by_cases h1:x<b
 .rw[Wq h1,Wh (Nat.not_le.2 h1),Ut];rfl
 rw[Wn h1,Wg (Nat.not_lt.1 h1),W3];by_cases h3:n / 2 ^ (x-b) % 2=1
 .rw[Wq h3,Wq (beq_iff_eq.2 h3)]
 rw[Wn h3,Wn (λh=>h3 (beq_iff_eq.1 h))]
def VR(b:Nat):Nat->List Oper->List (Nat×Nat×List (List Nat))->List En
 |i,o::l,(a,m,[])::x=>⟨i,o,bm 0 a,[],bm b m,[]⟩::VR b (i+1) l x
 |i,o::l,(a,m,[w,k])::x=>⟨i,o,bm 0 a,w,bm b m,k⟩::VR b (i+1) l x
 |_,[],[]=>[]
 |i,_,_=>[⟨i,⟨none,.assign (.tmp 0),0,"",#[],none⟩,[],[],[],[]⟩]
attribute [go_sem] Xsv VR
theorem db{C:Cx}{R:St->Prop}{k:List It}{st:St}{l:List Oper}(f id:Nat)(_:Fn f)(b:Nat)(aux:List (Nat×Nat×List (List Nat)))(ho:(VR b 0 l aux).map (·.o)=l)(hi:(VR b 0 l aux).map (·.i)=List.range (VR b 0 l aux).length)(hc:Xkw (VR b 0 l aux)=true)(h:dr Tryz.prog C ⟨l⟩ st.k (VR b 0 l aux) st λst'=>run Tryz.prog C R 1000 k ⟨st'.t,st'.s,st'.n,st.k+(VR b 0 l aux).length⟩)(t:Prf (⟨l⟩:Array Oper))(hrd:C.rd=none:=by rfl):DrawnG Tryz.prog C R id ⟨l⟩ k st t:=
 DrawnG.of Xss (VR b 0 l aux) 1000 ho hi hc h t hrd
class El{α:Type}(x:Option α)(r:α)(K:outParam (Prop->Prop)):Prop where
 el:∀{G:Prop},x=some r->K G->G
instance{α:Type}{p:Prop}[Decidable p]{x:Option α}{r:α}:El (grd p x) r λG=>x=some r->p->G:=⟨λh k=>XqZ h λa b=>k b a⟩
instance{κ α:Type}{k:κ}{f:κ->Option α}{r:α}:El (jn k f) r λG=>f k=some r->G:=⟨λh k=>XsY h k⟩
instance{α β γ:Type}{b:β}{f:α->Option γ}{k:β->Option γ}{r:γ}:El (exK (.nxt b) f k) r λG=>k b=some r->G:=⟨λh k=>Xq0 h k⟩
instance{α β γ:Type}{b:α}{f:α->Option γ}{k:β->Option γ}{r:γ}:El (exK (.ret b) f k) r λG=>f b=some r->G:=⟨λh k=>Xq1 h k⟩
instance{α:Type}{x y:Option α}{r:α}:El (bif true then x else y) r λG=>x=some r->G:=⟨λh k=>k h⟩
instance{α:Type}{x y:Option α}{r:α}:El (bif false then x else y) r λG=>y=some r->G:=⟨λh k=>k h⟩
instance{α:Type}{x y:Option α}{r:α}:El (bif !false then x else y) r λG=>x=some r->G:=⟨λh k=>k h⟩
instance{α:Type}{x y:Option α}{r:α}:El (bif !true then x else y) r λG=>y=some r->G:=⟨λh k=>k h⟩
theorem XB{α:Type}{G:Prop}{b c:Bool}{x y:Option α}{r:α}(h:(bif b then x else y)=some r)(hb:b=c)(g:(bif c then x else y)=some r->G):G:=g (hb▸h)
theorem Xtw:wI (-1) = -1:=by unfold wI;decide
theorem XmN{α:Type}{l:List α}{o n:Nat}{i:Int}{b:Prop}{β:Type}{f:α->Option β}{r:β}{p:α}(hr:bnd (Km l o n i) f=some r)(hp:Km l o n i=some p)(k:Km l o n i=some p->o+i.toNat<l.length->(∀(γ:Type)(e:α->List γ),(l.map e).getD (o+i.toNat) []=e p)->f p=some r->b):(0<=i/\i<n)/\b:=
 XhR hr λq hq h1 h2 h3=>by obtain rfl:=WK (hp.symm.trans hq);exact k hq h1 h2 h3
theorem Xpo{α:Type}{l:List α}{o n:Nat}{i:Int}{b:Prop}{β:Type}{f:α->Option β}{r:β}{p:α}(hr:bnd (Km l o n i) f=some r)(hp:Km l o n i=some p)(k:Km l o n i=some p->o+i.toNat<l.length->(∀(γ:Type)(e:α->List γ),(l.map e).getD (o+i.toNat) []=e p)->f p=some r->b):i<n/\b:=
 let ⟨h1,h2⟩:=XmN hr hp k;⟨h1.2,h2⟩
abbrev FwH(s:Heap)(wb w1 p wp w3 w4 w5:Nat)(a:WD):Prop:=s 51584=some (w1,.arr false 58 1 (a.h.w.map e58) 0)/\s p=some (wp,.arr false 175 4 (a.h.p.map XS) 0)/\s 52288=some (w3,.arr false 58 1 (a.o.map e58) 0)/\s 52480=some (w4,.arr false 3 1 (a.t.map e3) 0)/\s 52672=some (w5,.arr false 58 1 (a.q.map e58) 0)/\s 51264=some (wb,.arr true 196 16 [[.v (.int .i64 a.h.c.W),.v (.int .i64 a.h.c.p),.osl 51584 w1 1 0 a.h.w.length,.osl p wp 4 0 a.h.p.length,.v (.int .i64 a.h.s),.v (.int .i64 a.h.b),.osl 52288 w3 1 0 a.o.length,.osl 52480 w4 1 0 a.t.length,.osl 52672 w5 1 0 a.q.length,.v (.int .i64 a.d),.v (.int .i64 a.r.j),.v (.int .i64 a.r.K),.v (.int .i64 a.r.F),.v (.int .i64 a.r.E),.v (.int .i64 a.r.f),.v (.int .i64 a.r.y)]] 0)
def XhQ(s s':Heap):Heap:=λi=>if i<51264 then s i else s' i
theorem Xv{s s':Heap}{i:Nat}:XhQ s s' i=if i<51264 then s i else s' i:=rfl
theorem Xpp{s s':Heap}{A:Prop}{K:Heap->Prop}(hK:A->K (XhQ s s'))(h:A)(hl:∀i,i<51264->s' i=s i):K s':=by
 have e:s'=XhQ s s':=by
  funext i;rw[Xv];split
  .exact hl i ag
  rfl
 rw[e];exact hK h
theorem Xfg{s s':Heap}{K:Heap->Prop}{A:Nat->Nat->Nat->Nat->Prop}(hK:∀p wp w4 w5,(p=51840\/p=210816)->A p wp w4 w5->K (XhQ s s'))(p wp w4 w5:Nat)(hp:p=51840\/p=210816)(h:A p wp w4 w5)(hl:∀i,i<51264->s' i=s i):K s':=Xpp (hK p wp w4 w5 hp) h hl
theorem Zw{G:Nat->Option (List D)}(hw:GW G){f:Nat}{α:Type}{x:Option α}:XeD G f x=if f=209 then none else x:=by
 by_cases h:f=209
 .rw[Wq h];exact XpW ((hw f).trans (Wq h))
 rw[Wn h];exact XpV ((hw f).trans (Wn h))
theorem XmO{G:Nat->Option (List D)}(b0 b1 b2 b3 b5 b6 b7 b8 b9 b10 b11 b12 b13 b14 b15:D)(sp:Int):YM Tryz.prog G 209 [.ipt 16 [b0,b1,b2,b3,.v (.int .i64 sp),b5,b6,b7,b8,b9,b10,b11,b12,b13,b14,b15] 0] [] (Eqs (.v (.int .i64 (wI (1-sp)))) []):=by
 refine Ys (fn:=Tryz.f209) (body:=(Tryz.f209.body).get!) (rs:=[.tmp 2]) 1000 [] 9 ac ac ac ac ac ab λC _ hG hwf=>?_;subst hG;simp only[Tryz.f209,Option.get!];simp only[go_sem,simprocAttr];with_reducible refine XP ?_
 simp only[go_sem,simprocAttr]
theorem XbZ{C:Cx}{s:Heap}{id v T:Nat}{a0 a1 a2 a3 a5 a6 a7 a8 a9 a10 a11 a12 a13 a14 a15:D}{b0 b1 b2 b3 b5 b6 b7 b8 b9 b10 b11 b12 b13 b14 b15:D}{sp:Int}{c:Prop}{l:List Nat}{K:D->Prop}(hs:s id=some (v,.arr true T 16 [[a0,a1,a2,a3,.v (.int .i64 sp),a5,a6,a7,a8,a9,a10,a11,a12,a13,a14,a15]] 0))(hsn:Zx s [a0,a1,a2,a3,.v (.int .i64 sp),a5,a6,a7,a8,a9,a10,a11,a12,a13,a14,a15]=some (c,[b0,b1,b2,b3,.v (.int .i64 sp),b5,b6,b7,b8,b9,b10,b11,b12,b13,b14,b15],l))(hc:c)(hK:K (.v (.int .i64 (wI (1-sp)))))(t:Prf [D.ept id v 16 0 0]):Xo9 Tryz.prog C s 209 [.ept id v 16 0 0] K t:=
 ⟨_,_,Xp5 hs hsn hc rfl,XmO b0 b1 b2 b3 b5 b6 b7 b8 b9 b10 b11 b12 b13 b14 b15 sp,⟨_,_,rfl,rfl⟩,λ_ _ h=>h.1▸⟨rfl,hK⟩⟩
def LoS(s' s:Heap):Prop:=∀i,i<51264->s' i=s i
theorem LoS.mk{s' s:Heap}(h:∀i,i<51264->s' i=s i):LoS s' s:=h
theorem Xsw{ws:List Int}{i n X k W:Nat}{v:D}(h:n<=W-X):((List.take i (ws.map e58)++List.take n (List.drop X (ws.map e58)))++List.drop (k+min n (W-X)) (ws.map e58)).set (X+0) (v::List.drop 1 (((List.take i (ws.map e58)++List.take n (List.drop X (ws.map e58)))++List.drop (k+min n (W-X)) (ws.map e58)).getD (X+0) []))=((List.take i (ws.map e58)++List.take n (List.drop X (ws.map e58)))++List.drop (k+n) (ws.map e58)).set X [v]:=by
 rw[Nat.min_eq_left h,IB];congr 1;have m:∀x∈(List.take i (ws.map e58)++List.take n (List.drop X (ws.map e58)))++List.drop (k+n) (ws.map e58),List.drop 1 x=[]:=by
  intro x hx;have:x∈ws.map e58:=by
   rcases WG.1 hx with hx|hx
   .rcases WG.1 hx with hx|hx
    .exact WW hx
    exact WP (WW hx)
   exact WP hx
  obtain⟨y,_,rfl⟩:=UX.1 this;rfl
 rw[Wp];cases e:((List.take i (ws.map e58)++List.take n (List.drop X (ws.map e58)))++List.drop (k+n) (ws.map e58))[X]? with
 |none=>rfl
 |some x=>exact congrArg _ (m x (Ui e))
theorem JY{i k:Nat}(h:i<51264)(hk:51264<=k):(i=k)=False:=eq_false aa
open Go.Proofs
set_option maxRecDepth 10000
theorem Kl{α:Type}{e:α->List D}{p:α->Prop}:∀{es:List (List D)},(∀x∈es,∃y,x=e y/\p y)->∃l:List α,es=l.map e/\∀x∈l,p x
 |[],_=>⟨[],rfl,λx h=>by cases h⟩
 |x::es,h=>by obtain⟨y,rfl,hy⟩:=h x ab;obtain⟨l,rfl,hl⟩:=Kl (e:=e) (p:=p) (es:=es) λz hz=>h z (Ul _ hz);exact⟨y::l,rfl,λz hz=>by rcases UY.1 hz with rfl|hz;exact hy;exact hl z hz⟩
section
variable {P:Program}{t e:TypeId}{fs:List (Nat×Nat×Nat)}{a b s:Nat}{z:Value}
theorem Xdk(m:Nat)(h:Xo P t=some ⟨a,b,z,.slice e s⟩)(ds:List D):Sh P (m+1) t ds=∃es,ds=[.isl e (P.cellsOf e) es]/\es.length<=Xp/\es.length*P.bytesOf e<=Xp/\∀x∈es,Sh P m e x:=by simp only[Sh,(X4 h).1]
theorem VY(m:Nat)(h:Xo P t=some ⟨a,b,z,.struct fs⟩)(ds:List D):Sh P (m+1) t ds=ShF (Sh P m) (fs.map (·.2.2)) ds:=by obtain⟨fields,h1,h2,_⟩:=Z8 h;simp only[Sh,h1];rw[h2,List.map_map];rfl
theorem Xfh(h:Xo P t=some ⟨a,b,z,.int .u64⟩):∀(m:Nat)(ds:List D),Sh P m t ds->∃n,ds=[.v (.int .u64 n)]/\tU n
 |0,_,h'=>h'.elim
 |m+1,ds,h'=>by simp only[Sh,XbG h]at h';obtain⟨n,rfl,h1,h2⟩:=h';exact⟨n,rfl,by unfold tU;rw[Xh4]at h1;rw[Xh5]at h2;exact⟨h1,h2⟩⟩
theorem Z2(h:Xo P t=some ⟨a,b,z,.int .i64⟩):∀(m:Nat)(ds:List D),Sh P m t ds->∃n,ds=[.v (.int .i64 n)]/\True
 |0,_,h'=>h'.elim
 |m+1,ds,h'=>by simp only[Sh,XbG h]at h';obtain⟨n,rfl,h1,h2⟩:=h';exact⟨n,rfl,trivial⟩
theorem Xfi(h:Xo P t=some ⟨a,b,z,.bool⟩):∀(m:Nat)(ds:List D),Sh P m t ds->∃b,ds=[.v (.bool b)]/\True
 |0,_,h'=>h'.elim
 |m+1,ds,h'=>by simp only[Sh,Xfl h]at h';obtain⟨n,rfl⟩:=h';exact⟨n,rfl,trivial⟩
end
theorem Xtx:Tryz.prog.cellsOf 3=1:=ac
theorem Xsx:Tryz.prog.cellsOf 58=1:=ac
theorem Xsy:Tryz.prog.cellsOf 84=2:=ac
theorem XqJ:Tryz.prog.cellsOf 107=3:=ac
theorem XqK:Tryz.prog.cellsOf 109=3:=ac
theorem XqL:Tryz.prog.cellsOf 111=3:=ac
theorem XqM:Tryz.prog.cellsOf 175=4:=ac
theorem Xsz:∀(m:Nat)(ds:List D),Sh Tryz.prog m 23 ds->∃x:WT,ds=e23 x/\True
 |0,_,h=>h.elim
 |m+1,ds,h=>by rw[show Sh Tryz.prog (m+1) 23 ds=_ from VY m XrK ds]at h;simp only[Ug,Uz,ShF]at h;obtain⟨c0,_,rfl,s0,⟨c1,_,rfl,s1,rfl⟩⟩:=h;obtain⟨x0,rfl,p0⟩:=Z2 ty3 _ _ s0;obtain⟨x1,rfl,p1⟩:=Z2 ty3 _ _ s1;exact⟨⟨x0,x1⟩,rfl,trivial⟩
theorem XqN(m:Nat)(x:List D)(h:Sh Tryz.prog m 58 x):∃y:Int,x=e58 y/\tU y:=by obtain⟨n,rfl,hp⟩:=Xfh Xmu m x h;exact⟨n,rfl,hp⟩
theorem Xpq:∀(m:Nat)(ds:List D),Sh Tryz.prog m 24 ds->∃l:List Int,ds=[.isl 58 1 (l.map e58)]/\l.length*8<=Xp/\∀x∈l,(λx=>tU x) x
 |0,_,h=>h.elim
 |m+1,ds,h=>by rw[show Sh Tryz.prog (m+1) 24 ds=_ from Xdk m XrL ds]at h;obtain⟨es,rfl,_,hb,hs⟩:=h;obtain⟨l,rfl,hl⟩:=Kl (p:=(λx=>tU x)) (λx hx=>XqN m x (hs x hx));exact⟨l,by rw[Xsx],by rw[W4,Xfd]at hb;exact hb,hl⟩
theorem XqO:∀(m:Nat)(ds:List D),Sh Tryz.prog m 175 ds->∃x:Wt,ds=XS x/\True
 |0,_,h=>h.elim
 |m+1,ds,h=>by rw[show Sh Tryz.prog (m+1) 175 ds=_ from VY m Xpm ds]at h;simp only[Ug,Uz,ShF]at h;obtain⟨c0,_,rfl,s0,⟨c1,_,rfl,s1,⟨c2,_,rfl,s2,⟨c3,_,rfl,s3,rfl⟩⟩⟩⟩:=h;obtain⟨x0,rfl,p0⟩:=Z2 ty3 _ _ s0;obtain⟨x1,rfl,p1⟩:=Z2 ty3 _ _ s1;obtain⟨x2,rfl,p2⟩:=Z2 ty3 _ _ s2;obtain⟨x3,rfl,p3⟩:=Z2 ty3 _ _ s3;exact⟨⟨x0,x1,x2,x3⟩,rfl,trivial⟩
theorem Xo2(m:Nat)(x:List D)(h:Sh Tryz.prog m 175 x):∃y:Wt,x=XS y/\True:=by obtain⟨n,rfl,hp⟩:=XqO m x h;exact⟨n,rfl,trivial⟩
theorem XsA:∀(m:Nat)(ds:List D),Sh Tryz.prog m 25 ds->∃l:List Wt,ds=[.isl 175 4 (l.map XS)]/\l.length*32<=Xp/\∀x∈l,(λ_=>True) x
 |0,_,h=>h.elim
 |m+1,ds,h=>by rw[show Sh Tryz.prog (m+1) 25 ds=_ from Xdk m XrM ds]at h;obtain⟨es,rfl,_,hb,hs⟩:=h;obtain⟨l,rfl,hl⟩:=Kl (p:=(λ_=>True)) (λx hx=>Xo2 m x (hs x hx));exact⟨l,by rw[XqM],by rw[W4,Xdj]at hb;exact hb,hl⟩
theorem XsB:∀(m:Nat)(ds:List D),Sh Tryz.prog m 27 ds->∃x:Wk,ds=e27 x/\XQ x
 |0,_,h=>h.elim
 |m+1,ds,h=>by rw[show Sh Tryz.prog (m+1) 27 ds=_ from VY m XrN ds]at h;simp only[Ug,Uz,ShF]at h;obtain⟨c0,_,rfl,s0,⟨c1,_,rfl,s1,⟨c2,_,rfl,s2,⟨c3,_,rfl,s3,⟨c4,_,rfl,s4,rfl⟩⟩⟩⟩⟩:=h;obtain⟨x0,rfl,p0⟩:=Xsz _ _ s0;obtain⟨x1,rfl,_,p1⟩:=Xpq _ _ s1;obtain⟨x2,rfl,_,p2⟩:=XsA _ _ s2;obtain⟨x3,rfl,p3⟩:=Z2 ty3 _ _ s3;obtain⟨x4,rfl,p4⟩:=Z2 ty3 _ _ s4;exact⟨⟨x0,x1,x2,x3,x4⟩,rfl,p1⟩
theorem XqP:∀(m:Nat)(ds:List D),Sh Tryz.prog m 107 ds->∃x:UM,ds=ZT x/\Yr x
 |0,_,h=>h.elim
 |m+1,ds,h=>by rw[show Sh Tryz.prog (m+1) 107 ds=_ from VY m Xpj ds]at h;simp only[Ug,Uz,ShF]at h;obtain⟨c0,_,rfl,s0,⟨c1,_,rfl,s1,⟨c2,_,rfl,s2,rfl⟩⟩⟩:=h;obtain⟨x0,rfl,p0⟩:=Z2 ty3 _ _ s0;obtain⟨x1,rfl,p1⟩:=Xfh Xmu _ _ s1;obtain⟨x2,rfl,p2⟩:=Xfi ty4 _ _ s2;exact⟨⟨x0,x1,x2⟩,rfl,p1⟩
theorem Xo3(m:Nat)(x:List D)(h:Sh Tryz.prog m 107 x):∃y:UM,x=ZT y/\Yr y:=by obtain⟨n,rfl,hp⟩:=XqP m x h;exact⟨n,rfl,hp⟩
theorem XsC:∀(m:Nat)(ds:List D),Sh Tryz.prog m 28 ds->∃l:List UM,ds=[.isl 107 3 (l.map ZT)]/\l.length*24<=Xp/\∀x∈l,(λx=>Yr x) x
 |0,_,h=>h.elim
 |m+1,ds,h=>by rw[show Sh Tryz.prog (m+1) 28 ds=_ from Xdk m XrO ds]at h;obtain⟨es,rfl,_,hb,hs⟩:=h;obtain⟨l,rfl,hl⟩:=Kl (p:=(λx=>Yr x)) (λx hx=>Xo3 m x (hs x hx));exact⟨l,by rw[XqJ],by rw[W4,Xdg]at hb;exact hb,hl⟩
theorem XqQ:∀(m:Nat)(ds:List D),Sh Tryz.prog m 111 ds->∃x:UU,ds=K6 x/\True
 |0,_,h=>h.elim
 |m+1,ds,h=>by rw[show Sh Tryz.prog (m+1) 111 ds=_ from VY m Xpl ds]at h;simp only[Ug,Uz,ShF]at h;obtain⟨c0,_,rfl,s0,⟨c1,_,rfl,s1,⟨c2,_,rfl,s2,rfl⟩⟩⟩:=h;obtain⟨x0,rfl,p0⟩:=Z2 ty3 _ _ s0;obtain⟨x1,rfl,p1⟩:=Z2 ty3 _ _ s1;obtain⟨x2,rfl,p2⟩:=Xfi ty4 _ _ s2;exact⟨⟨x0,x1,x2⟩,rfl,trivial⟩
theorem Xo4(m:Nat)(x:List D)(h:Sh Tryz.prog m 111 x):∃y:UU,x=K6 y/\True:=by obtain⟨n,rfl,hp⟩:=XqQ m x h;exact⟨n,rfl,trivial⟩
theorem XsD:∀(m:Nat)(ds:List D),Sh Tryz.prog m 29 ds->∃l:List UU,ds=[.isl 111 3 (l.map K6)]/\l.length*24<=Xp/\∀x∈l,(λ_=>True) x
 |0,_,h=>h.elim
 |m+1,ds,h=>by rw[show Sh Tryz.prog (m+1) 29 ds=_ from Xdk m XrP ds]at h;obtain⟨es,rfl,_,hb,hs⟩:=h;obtain⟨l,rfl,hl⟩:=Kl (p:=(λ_=>True)) (λx hx=>Xo4 m x (hs x hx));exact⟨l,by rw[XqL],by rw[W4,Xdi]at hb;exact hb,hl⟩
theorem XsE(m:Nat)(x:List D)(h:Sh Tryz.prog m 3 x):∃y:Int,x=e3 y/\True:=by obtain⟨n,rfl,hp⟩:=Z2 ty3 m x h;exact⟨n,rfl,trivial⟩
theorem XsF:∀(m:Nat)(ds:List D),Sh Tryz.prog m 30 ds->∃l:List Int,ds=[.isl 3 1 (l.map e3)]/\l.length*8<=Xp/\∀x∈l,(λ_=>True) x
 |0,_,h=>h.elim
 |m+1,ds,h=>by rw[show Sh Tryz.prog (m+1) 30 ds=_ from Xdk m XrQ ds]at h;obtain⟨es,rfl,_,hb,hs⟩:=h;obtain⟨l,rfl,hl⟩:=Kl (p:=(λ_=>True)) (λx hx=>XsE m x (hs x hx));exact⟨l,by rw[Xtx],by rw[W4,XhO]at hb;exact hb,hl⟩
theorem XsG:∀(m:Nat)(ds:List D),Sh Tryz.prog m 32 ds->∃x:Ww,ds=e32 x/\XK x
 |0,_,h=>h.elim
 |m+1,ds,h=>by rw[show Sh Tryz.prog (m+1) 32 ds=_ from VY m XrR ds]at h;simp only[Ug,Uz,ShF]at h;obtain⟨c0,_,rfl,s0,⟨c1,_,rfl,s1,⟨c2,_,rfl,s2,rfl⟩⟩⟩:=h;obtain⟨x0,rfl,_,p0⟩:=XsC _ _ s0;obtain⟨x1,rfl,_,p1⟩:=XsD _ _ s1;obtain⟨x2,rfl,_,p2⟩:=XsF _ _ s2;exact⟨⟨x0,x1,x2⟩,rfl,p0⟩
theorem XqR:∀(m:Nat)(ds:List D),Sh Tryz.prog m 109 ds->∃x:W8,ds=Zv x/\XE x
 |0,_,h=>h.elim
 |m+1,ds,h=>by rw[show Sh Tryz.prog (m+1) 109 ds=_ from VY m Xpk ds]at h;simp only[Ug,Uz,ShF]at h;obtain⟨c0,_,rfl,s0,⟨c1,_,rfl,s1,⟨c2,_,rfl,s2,rfl⟩⟩⟩:=h;obtain⟨x0,rfl,p0⟩:=Z2 ty3 _ _ s0;obtain⟨x1,rfl,p1⟩:=Xfh Xmu _ _ s1;obtain⟨x2,rfl,p2⟩:=Xfi ty4 _ _ s2;exact⟨⟨x0,x1,x2⟩,rfl,p1⟩
theorem Xo5(m:Nat)(x:List D)(h:Sh Tryz.prog m 109 x):∃y:W8,x=Zv y/\XE y:=by obtain⟨n,rfl,hp⟩:=XqR m x h;exact⟨n,rfl,hp⟩
theorem XsH:∀(m:Nat)(ds:List D),Sh Tryz.prog m 33 ds->∃l:List W8,ds=[.isl 109 3 (l.map Zv)]/\l.length*24<=Xp/\∀x∈l,(λx=>XE x) x
 |0,_,h=>h.elim
 |m+1,ds,h=>by rw[show Sh Tryz.prog (m+1) 33 ds=_ from Xdk m XrS ds]at h;obtain⟨es,rfl,_,hb,hs⟩:=h;obtain⟨l,rfl,hl⟩:=Kl (p:=(λx=>XE x)) (λx hx=>Xo5 m x (hs x hx));exact⟨l,by rw[XqK],by rw[W4,Xdh]at hb;exact hb,hl⟩
theorem Xpr:∀(m:Nat)(ds:List D),Sh Tryz.prog m 35 ds->∃x:WE,ds=e35 x/\X3 x
 |0,_,h=>h.elim
 |m+1,ds,h=>by rw[show Sh Tryz.prog (m+1) 35 ds=_ from VY m XrT ds]at h;simp only[Ug,Uz,ShF]at h;obtain⟨c0,_,rfl,s0,rfl⟩:=h;obtain⟨x0,rfl,_,p0⟩:=XsH _ _ s0;exact⟨⟨x0⟩,rfl,p0⟩
theorem XsI:∀(m:Nat)(ds:List D),Sh Tryz.prog m 84 ds->∃x:UH,ds=e84 x/\YS x
 |0,_,h=>h.elim
 |m+1,ds,h=>by rw[show Sh Tryz.prog (m+1) 84 ds=_ from VY m XrW ds]at h;simp only[Ug,Uz,ShF]at h;obtain⟨c0,_,rfl,s0,⟨c1,_,rfl,s1,rfl⟩⟩:=h;obtain⟨x0,rfl,p0⟩:=Xfh Xmu _ _ s0;obtain⟨x1,rfl,p1⟩:=Z2 ty3 _ _ s1;exact⟨⟨x0,x1⟩,rfl,p0⟩
theorem XqS(m:Nat)(x:List D)(h:Sh Tryz.prog m 84 x):∃y:UH,x=e84 y/\YS y:=by obtain⟨n,rfl,hp⟩:=XsI m x h;exact⟨n,rfl,hp⟩
theorem XsJ:∀(m:Nat)(ds:List D),Sh Tryz.prog m 36 ds->∃l:List UH,ds=[.isl 84 2 (l.map e84)]/\l.length*16<=Xp/\∀x∈l,(λx=>YS x) x
 |0,_,h=>h.elim
 |m+1,ds,h=>by rw[show Sh Tryz.prog (m+1) 36 ds=_ from Xdk m XrU ds]at h;obtain⟨es,rfl,_,hb,hs⟩:=h;obtain⟨l,rfl,hl⟩:=Kl (p:=(λx=>YS x)) (λx hx=>XqS m x (hs x hx));exact⟨l,by rw[Xsy],by rw[W4,Xfe]at hb;exact hb,hl⟩
theorem Xtz:∀(m:Nat)(ds:List D),Sh Tryz.prog m 38 ds->∃x:W9,ds=e38 x/\X7 x
 |0,_,h=>h.elim
 |m+1,ds,h=>by rw[show Sh Tryz.prog (m+1) 38 ds=_ from VY m XrV ds]at h;simp only[Ug,Uz,ShF]at h;obtain⟨c0,_,rfl,s0,⟨c1,_,rfl,s1,⟨c2,_,rfl,s2,⟨c3,_,rfl,s3,⟨c4,_,rfl,s4,⟨c5,_,rfl,s5,rfl⟩⟩⟩⟩⟩⟩:=h;obtain⟨x0,rfl,p0⟩:=XsB _ _ s0;obtain⟨x1,rfl,p1⟩:=XsG _ _ s1;obtain⟨x2,rfl,p2⟩:=Xpr _ _ s2;obtain⟨x3,rfl,p3⟩:=Xpr _ _ s3;obtain⟨x4,rfl,_,p4⟩:=XsJ _ _ s4;obtain⟨x5,rfl,_,p5⟩:=Xpq _ _ s5;exact⟨⟨x0,x1,x2,x3,x4,x5⟩,rfl,⟨p0,p1,p2,p3,p4,p5⟩⟩
open Go.Proofs
section
variable {α β:Type}{o:Option α}{y:α}{f:Nat}{a args:List D}{l:List Ob}{e:α->D}{l':α->List Ob}{G:Nat->Option (List D)}{K:D->List Ob->Prop}
theorem OK.t[h:OK o f a l e l'](ho:o=some y)(hw:GW G)(hf:ZK args a)(hK:K (e y) (l' y))(t:Prf args):CallG Tryz.prog G f args l K t:=CallG.ofE (h.h G hw y ho) hf hK t
end
open Go.Proofs
abbrev vi(x:Int):D:=.v (.int .i64 x)
abbrev vu(x:Int):D:=.v (.int .u64 x)
abbrev vw(x:Int):D:=.v (.int .u32 x)
abbrev s3(l:List Int):D:=.isl 3 1 (l.map e3)
abbrev s4(l:List Bool):D:=.isl 4 1 (l.map e4)
abbrev s24(l:List (List Int)):D:=.isl 24 1 (l.map e24)
abbrev s38(l:List W9):D:=.isl 38 13 (l.map e38)
abbrev s58(l:List Int):D:=.isl 58 1 (l.map e58)
abbrev s84(l:List UH):D:=.isl 84 2 (l.map e84)
abbrev XbD(l:List UM):D:=.isl 107 3 (l.map ZT)
abbrev K5(l:List W8):D:=.isl 109 3 (l.map Zv)
abbrev XbE(l:List UU):D:=.isl 111 3 (l.map K6)
abbrev Yg(l:List Wt):D:=.isl 175 4 (l.map XS)
abbrev XsK(l:List Ib):D:=.isl 258 4 (l.map Xbg)
abbrev XjY(l:List UJ):D:=.isl 281 4 (l.map Vw)
abbrev XmP(l:List U2):D:=.isl 313 2 (l.map XqF)
abbrev XmQ(l:List IY):D:=.isl 318 2 (l.map XhP)
abbrev XsL(l:List Il):D:=.isl 323 3 (l.map Xdx)
attribute [go_sem] vi vu vw s3 s4 s24 s38 s58 s84 XbD K5 XbE Yg XsK XjY XmP XmQ XsL
theorem lp{P:Program}{C:Cx}{R:St->Prop}{c:Code}{k:List It}{st:St}{α β:Type}{o:Option α}{f:α->Option β}{r:β}(I:(α->Prop)->Nat->St->Prop)(hr:bnd o f=some r)(n:Nat)(round:∀n st,I (λy=>f y=some r) n st->run P C R 1000 (.code c::.stop (λst'=>∃n',n'<n/\I (λy=>f y=some r) n' st')::k) st)(h0:∀ex,o=some ex->f ex=some r->I (λy=>f y=some r) n st)(t':Prf c):LoopG P C R c k st t':=
 Xk5 hr 1000 n h0 round t'
theorem rk{α:Type}{o:Option α}{f:Nat}{a:List D}{l:List Ob}{e:α->D}{l':α->List Ob}(fn:Func)(rs:List ResultVar)(fr:List Nat)(nt:Nat)(h:∀G,GW G->∀r,o=some r->∀(C:Cx)x,C.G=G->WfL Tryz.prog a->Fn f->run Tryz.prog (C.sub 0 x) (Jq Tryz.prog rs fr l.length (Eqs (e r) (l' r))) 1000 [.code (fn.body.get!)] (st0 a l nt))(hk:(Tryz.prog.funcs[f]?,fn.body,fn.name== "runtime.NumGoroutine",fn.results,fn.ntmps,a.length.ble nt)=(some fn,some (fn.body.get!),false,⟨rs⟩,nt,true):=by kernel_rfl):OK o f a l e l':=
 rn fn rs fr nt hk h
theorem dc{C:Cx}{R:St->Prop}{k:List It}{st:St}{l:List Oper}(f id:Nat)(hf:Fn f)(b:Nat)(aux:List (Nat×Nat×List (List Nat)))(h:dr Tryz.prog C ⟨l⟩ st.k (VR b 0 l aux) st λst'=>run Tryz.prog C R 1000 k ⟨st'.t,st'.s,st'.n,st.k+(VR b 0 l aux).length⟩){t:Prf (⟨l⟩:Array Oper)}(ho:(VR b 0 l aux).map (·.o)=l:=by rfl)(hi:(VR b 0 l aux).map (·.i)=List.range (VR b 0 l aux).length:=by rfl)(hc:Xkw (VR b 0 l aux)=true:=by kernel_rfl)(hrd:C.rd=none:=by rfl):DrawnG Tryz.prog C R id ⟨l⟩ k st t:=
 db f id hf b aux ho hi hc h t hrd
end Go.Sx
