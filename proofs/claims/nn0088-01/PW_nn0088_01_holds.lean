import PyProof.Rows.All
import Wide.All
import OpenK.AllK
import Wide.FinOn
import PyProof.AttrMissHeap
import PySem.Challenge.RW_nn0088_01
set_option Elab.async false
set_option maxRecDepth 100000
set_option maxHeartbeats 8000000
set_option linter.all false
set_option tactic.hygienic false
set_option genInjectivity false
set_option genSizeOf false
set_option genSizeOfSpec false
namespace Internal
theorem nB{n m:Nat}(h:Nat.ble n m=true):n≤m:=Nat.le_of_ble_eq_true h
open PySem PySem.W PyProof.Rows
section
noncomputable abbrev PW:Program:=PySem.Challenge.pw_nn0088_01
noncomputable abbrev FD:=Arguments×List Stmt×Scope
noncomputable abbrev fd0:FD:=(default,[],default)
noncomputable def DG(s:Option Stmt):FD:=s.elim fd0 fun s=>if h:s.ctorIdx=0 then Stmt.FunctionDef.elim s h fun q_ a b q_ q_ q_ sc q_ q_ q_=>(a,b,sc)else fd0
noncomputable def Yk(i:Nat):FD:=DG PySem.Challenge.pw_nn0088_01.main.body[i]?
noncomputable def ZJ(i j:Nat):FD:=PySem.Challenge.pw_nn0088_01.main.body[i]?.elim fd0 fun s=>if h:s.ctorIdx=2 then Stmt.ClassDef.elim s h fun q_ q_ q_ b q_ q_ q_ q_ q_ q_ q_=>DG b[j]? else fd0
noncomputable def fF(a:Addr)(n q:Str)(d:FD)(m:Value)(dv:Value:=.none):FuncData:=
 {name:=n,qualname:=q,params:=d.1,body:=.stmts d.2.1,scope:=d.2.2,globals:=3,closure:=[],defaults:=dv,kwdefaults:=.none,doc:=.none,pyModule:=m,annotations:=none,code:=.ref a,closureTuple:=.none,builtins:=0}
noncomputable def fG(a:Addr)(n:Str)(d:FD)(m:Value):FuncData:=fF a n n d m
noncomputable abbrev cpy(t:Tok):Value:=.str "/claim/cut.py" t
noncomputable def fn(z a t:Nat)(l:Int)(d:Nat)(f:FuncData)(r:Frag):Frag:=
 (a,{cls:=.type "code",data:=.fields #[.str f.name t,.str f.qualname (t+1),cpy (t+2),.int l 0,.int f.params.args.length 0,.int 0 0,.int 0 0,.int 3 0,.ref (a-z-2),.bool true,.int 181 0,.ref (a-z-1),.none,if z=1 then .none else .ref (a-3),if z=1 then .none else .ref (a-2),.ref (a-1),.int ((t+d-1:Nat):Int) 0,.int l 0,cpy (t+d)]})::
 (a+1,{cls:=.type "function",data:=.func f})::r
noncomputable def en(P:Params)(n:Str)(t:Tok)(v:Value):DictEntry:=⟨PyData.keyHash P n,.str n t,v⟩
noncomputable def er(P:Params)(l:List (Str×Tok×Addr)):List DictEntry:=l.map fun e=>en P e.1 e.2.1 (.ref e.2.2)
noncomputable def cl(P:Params)(a:Addr)(n:Str)(m:Value)(t:Nat)(l:Int)(ms ss:List Value)(w:Option Value)(nw:String)(es:List DictEntry)(td k:Nat)(r:Frag):Frag:=
 (a-1,{cls:=.type "dict",data:=.dict (en P "__module__" t m::en P "__firstlineno__" (t+4) (.int l (t+3))::(es++[en P "__doc__" td .none])).toArray k})::
 (a,{cls:=.type "type",data:=.cls {name:=n,bases:=ms.take 1,mro:=.ref a::ms,ns:=a-1,qualname:=n,subclasses:=ss},slots:= #[w,none,some (.str n (t-7)),some (.str n (t+1)),some (.builtin nw),some (.bool true)]})::r
noncomputable abbrev mo0:Value:=.str "octetmint.basics" 194
noncomputable abbrev mo1:Value:=.str "octetmint.debug" 306
noncomputable abbrev mo2:Value:=.str "octetmint.decoder" 493
noncomputable abbrev mo3:Value:=.str "octetmint.flags" 547
noncomputable abbrev mo4:Value:=.str "octetmint.registers" 716
noncomputable abbrev mo5:Value:=.str "octetmint.machine" 819
noncomputable abbrev mo6:Value:=.str "octetmint.operands" 1149
noncomputable abbrev mo7:Value:=.str "octetmint.transfers" 1415
noncomputable abbrev mo8:Value:=.str "law_nn0088_01" 1701
noncomputable def Z6:FuncData:=fF 35 "__init__" "MintError.__init__" (ZJ 2 0) mo0 (.ref 29)
noncomputable def Oo:FuncData:=fG 79 "mask" (Yk 5) mo0
noncomputable def On:FuncData:=fG 86 "wrap" (Yk 6) mo0
noncomputable def ZaO:FuncData:=fG 93 "bit" (Yk 7) mo0
noncomputable def QY:FuncData:=fF 121 "__init__" "Debugger.__init__" (ZJ 13 0) mo1
noncomputable def JC:FuncData:=fF 129 "break_at" "Debugger.break_at" (ZJ 13 1) mo1 (.ref 123)
noncomputable def UJ:FuncData:=fF 136 "clear" "Debugger.clear" (ZJ 13 2) mo1
noncomputable def UI:FuncData:=fF 143 "watch" "Debugger.watch" (ZJ 13 3) mo1
noncomputable def Ui:FuncData:=fF 150 "unwatch" "Debugger.unwatch" (ZJ 13 4) mo1
noncomputable def QE:FuncData:=fF 155 "seen" "Debugger.seen" (ZJ 13 5) mo1
noncomputable def U5:FuncData:=fF 162 "is_met" "Debugger.is_met" (ZJ 13 6) mo1
noncomputable def QX:FuncData:=fF 169 "returned" "Debugger.returned" (ZJ 13 7) mo1
noncomputable def Vq:FuncData:=fF 176 "step" "Debugger.step" (ZJ 13 8) mo1
noncomputable def VL:FuncData:=fF 183 "led" "Debugger.led" (ZJ 13 9) mo1
noncomputable def Wy:FuncData:=fF 190 "go" "Debugger.go" (ZJ 13 10) mo1
noncomputable def Qe:FuncData:=fF 197 "run_to" "Debugger.run_to" (ZJ 13 11) mo1
noncomputable def Ju:FuncData:=fF 204 "step_over" "Debugger.step_over" (ZJ 13 12) mo1
noncomputable def Qf:FuncData:=fF 211 "finish" "Debugger.finish" (ZJ 13 13) mo1
noncomputable def UH:FuncData:=fF 216 "where" "Debugger.where" (ZJ 13 14) mo1
noncomputable def QL:FuncData:=fF 223 "backtrace" "Debugger.backtrace" (ZJ 13 15) mo1
noncomputable def Jn:FuncData:=fF 228 "stack_rows" "Debugger.stack_rows" (ZJ 13 16) mo1
noncomputable def Uh:FuncData:=fF 249 "__init__" "Decoded.__init__" (ZJ 15 0) mo2
noncomputable def UG:FuncData:=fF 284 "__init__" "Flags.__init__" (ZJ 28 0) mo3
noncomputable def Xu:FuncData:=fF 291 "told" "Flags.told" (ZJ 28 1) mo3
noncomputable def Xv:FuncData:=fF 298 "pack" "Flags.pack" (ZJ 28 2) mo3
noncomputable def VK:FuncData:=fF 305 "unpack" "Flags.unpack" (ZJ 28 3) mo3
noncomputable def Xw:FuncData:=fF 319 "copy" "Flags.copy" (ZJ 28 5) mo3
noncomputable def QU:FuncData:=fF 396 "__init__" "Register.__init__" (ZJ 39 0) mo4
noncomputable def Ws:FuncData:=fG 445 "early_names" (Yk 40) mo4
noncomputable def ZaN:FuncData:=fG 459 "gpr" (Yk 42) mo4
noncomputable def U4:FuncData:=fF 473 "__init__" "Memory.__init__" (ZJ 46 0) mo5
noncomputable def VJ:FuncData:=fF 480 "octet" "Memory.octet" (ZJ 46 1) mo5
noncomputable def Ug:FuncData:=fF 487 "set_octet" "Memory.set_octet" (ZJ 46 2) mo5
noncomputable def Ww:FuncData:=fF 494 "read" "Memory.read" (ZJ 46 3) mo5
noncomputable def VI:FuncData:=fF 501 "write" "Memory.write" (ZJ 46 4) mo5
noncomputable def Qx:FuncData:=fF 518 "written" "Memory.written" (ZJ 46 7) mo5
noncomputable def Wx:FuncData:=fF 539 "copy" "Memory.copy" (ZJ 46 10) mo5
noncomputable def Wv:FuncData:=fF 546 "told" "Memory.told" (ZJ 46 11) mo5
noncomputable def Bt:FuncData:=fG 560 "joined" (Yk 47) mo5
noncomputable def UF:FuncData:=fF 574 "__init__" "State.__init__" (ZJ 49 0) mo5
noncomputable def XV:FuncData:=fF 581 "get" "State.get" (ZJ 49 1) mo5
noncomputable def XT:FuncData:=fF 588 "put" "State.put" (ZJ 49 2) mo5
noncomputable def Vp:FuncData:=fF 595 "put_low" "State.put_low" (ZJ 49 3) mo5
noncomputable def Vo:FuncData:=fF 621 "size_of" "State.size_of" (ZJ 49 7) mo5
noncomputable def Xq:FuncData:=fF 628 "read" "State.read" (ZJ 49 8) mo5
noncomputable def Wu:FuncData:=fF 635 "write" "State.write" (ZJ 49 9) mo5
noncomputable def Xr:FuncData:=fF 642 "push" "State.push" (ZJ 49 10) mo5
noncomputable def XU:FuncData:=fF 649 "pop" "State.pop" (ZJ 49 11) mo5
noncomputable def Xp:FuncData:=fF 656 "told" "State.told" (ZJ 49 12) mo5
noncomputable def Xs:FuncData:=fF 663 "copy" "State.copy" (ZJ 49 13) mo5
noncomputable def Oq:FuncData:=fG 677 "done" (Yk 50) mo5
noncomputable def He:FuncData:=fG 684 "proceed" (Yk 51) mo5
noncomputable def VF:FuncData:=fG 691 "need_running" (Yk 52) mo5
noncomputable def KV:FuncData:=fG 698 "step_row" (Yk 53) mo5
noncomputable def Uf:FuncData:=fF 712 "__init__" "Operand.__init__" (ZJ 55 0) mo6
noncomputable def VH:FuncData:=fF 754 "__init__" "Reg.__init__" (ZJ 56 0) mo6
noncomputable def QV:FuncData:=fF 788 "__init__" "Imm.__init__" (ZJ 57 0) mo6 (.ref 782)
noncomputable def QT:FuncData:=fF 822 "__init__" "Rel.__init__" (ZJ 58 0) mo6 (.ref 816)
noncomputable def Jb:FuncData:=fF 863 "__init__" "Instruction.__init__" (ZJ 59 0) mo6 (.ref 857)
noncomputable def QQ:FuncData:=fG 924 "move_deed" (Yk 75) mo7
noncomputable def VE:FuncData:=fG 931 "push_operand" (Yk 76) mo7
noncomputable def Wr:FuncData:=fG 938 "pop_operand" (Yk 77) mo7
noncomputable def Q7:FuncData:=fG 945 "stack_deed" (Yk 78) mo7
noncomputable def XQ:FuncData:=fG 952 "target_of" (Yk 79) mo7
noncomputable def Xn:FuncData:=fG 959 "count_down" (Yk 80) mo7
noncomputable def KW:FuncData:=fG 966 "is_taken" (Yk 81) mo7
noncomputable def QR:FuncData:=fG 973 "jump_deed" (Yk 82) mo7
noncomputable def Vj:FuncData:=fG 1095 "transfer_deed" (Yk 101) mo7
noncomputable def KZ:FuncData:=fG 1102 "_law_raw" (Yk 104) mo8
noncomputable def XR:FuncData:=fG 1109 "_law_draw" (Yk 105) mo8
noncomputable def KY:FuncData:=fG 1116 "_law_reg" (Yk 106) mo8
noncomputable def Vm:FuncData:=fG 1123 "_law_function" (Yk 107) mo8
noncomputable def XS:FuncData:=fG 1130 "_law_bent" (Yk 108) mo8
noncomputable def VG:FuncData:=fG 1137 "_law_program" (Yk 109) mo8
noncomputable def Vl:FuncData:=fG 1142 "_law_load" (Yk 110) mo8
noncomputable def Vk:FuncData:=fG 1149 "_law_recorded" (Yk 111) mo8
noncomputable def Xo:FuncData:=fG 1156 "_law_calls" (Yk 112) mo8
noncomputable def QS:FuncData:=fG 1161 "_law_changed" (Yk 113) mo8
noncomputable def Ga:FuncData:=fG 1168 "_law_led" (Yk 114) mo8
noncomputable def Wt:FuncData:=fG 1175 "_law_frames" (Yk 115) mo8
noncomputable def Uo:FuncData:=fG 1180 "_law_stands" (Yk 116) mo8
noncomputable def Wa:FuncData:=fG 1185 "_law_set" (Yk 117) mo8
noncomputable def Vn:FuncData:=fG 1192 "_law_deed" (Yk 118) mo8
noncomputable def Hf:FuncData:=fG 1199 "law" (Yk 119) mo8
noncomputable def KK(P:Params):Frag:=
 .cons (0,boot_o_0 P)<|
 .cons (2,{cls:=.none,data:=.dict ([en P "type.__subclasses__.Exception.0" 230 (.int 46 0)]++[en P "type.__subclasses__.Exception.n" 231 (.int 1 0)]).toArray 2})<|
 .cons (3,{cls:=.type "dict",data:=.dict ([en P "__name__" 165 (.str "law_nn0088_01" 1701)]++[en P "__doc__" 166 .none]++[en P "__package__" 167 .none]++[en P "__loader__" 168 (.builtin "__main__.__loader__#opaque")]++[en P "__spec__" 169 .none]++er P [("__annotations__",170,6),("__builtins__",171,4)]++[en P "__file__" 173 (.str "/claim/cut.py" 172)]++[en P "__cached__" 174 .none]++er P [("_wall",193,21),("MintError",233,46),("OperandError",249,59),("MachineError",265,71),("mask",272,80),("wrap",280,87),("bit",288,94),("ones",298,101),("parity",305,108)]++[en P "STACK_debug" 309 (.int 4 308)]++[en P "FRAME" 311 (.int 5 310)]++er P [("Debugger",492,232),("Decoded",536,260)]++[en P "CONDITIONS" 540 (.str "o no b ae e ne be a s ns p np l ge le g" 539)]++er P [("condition_names",546,271)]++[en P "CF" 550 (.int 0 549)]++[en P "PF" 552 (.int 2 551)]++[en P "AF" 554 (.int 4 553)]++[en P "ZF" 556 (.int 6 555)]++[en P "SF" 558 (.int 7 557)]++[en P "DF" 560 (.int 10 559)]++[en P "OF" 562 (.int 11 561)]++[en P "FLAG_NAMES" 564 (.str "cf pf af zf sf of df" 563)]++er P [("Flags",665,344),("condition_number",672,355),("holds_number",682,362),("holds",690,369),("szp",700,376),("sub_flags",715,383)]++[en P "NAMES_8" 719 (.str "al cl dl bl spl bpl sil dil" 718)]++[en P "NAMES_16" 721 (.str "ax cx dx bx sp bp si di" 720)]++[en P "NAMES_32" 723 (.str "eax ecx edx ebx esp ebp esi edi" 722)]++[en P "NAMES_64" 725 (.str "rax rcx rdx rbx rsp rbp rsi rdi" 724)]++er P [("Register",795,435),("early_names",802,446),("late_ending",809,453),("gpr",818,460)]++[en P "STACK_machine" 822 (.int 4 821)]++[en P "TRAPS" 824 (.str "ud2 int int3 syscall cpuid" 823)]++er P [("Memory",948,550),("joined",957,1049),("joined_machine",958,561),("State",1111,667),("done",1121,678),("proceed",1131,685),("need_running",1138,692),("step_row",1148,699),("Operand",1200,737),("Reg",1239,772),("Imm",1281,806),("Rel",1331,847),("Instruction",1404,900),("string_stem",1414,911)]++[en P "RAX" 1418 (.int 0 1417)]++[en P "RCX" 1420 (.int 1 1419)]++[en P "RSP" 1422 (.int 4 1421)]++[en P "RBP" 1424 (.int 5 1423)]++[en P "RSI" 1426 (.int 6 1425)]++[en P "RDI" 1428 (.int 7 1427)]++[en P "ALL_LANES" 1434 (.int 340282366920938463463374607431768211455 1433)]++[en P "LETTERS" 1436 (.str "bwdq" 1435)]++[en P "WHOLE_MOVES" 1438 (.str "movaps movups movdqa movdqu" 1437)]++[en P "ALIGNED_MOVES" 1440 (.str "movaps movdqa" 1439)]++[en P "BIT_NAMES" 1442 (.str "pxor por pand pandn xorps orps andps" 1441)]++er P [("exchange",1454,918),("move_deed",1466,925),("push_operand",1476,932),("pop_operand",1487,939),("stack_deed",1496,946),("target_of",1504,953),("count_down",1511,960),("is_taken",1519,967),("jump_deed",1529,974),("go_on",1539,981),("string_round",1551,988),("is_last",1560,995),("string_deed",1571,1002),("is_xmm",1578,1009),("need_aligned",1586,1016),("whole_move",1596,1023),("part_size",1603,1030),("part_move",1615,1037),("lanes",1621,1042),("joined_transfers",1632,1049),("lane_size",1642,1056),("lane_worth",1652,1063),("lane_result",1658,1068),("bit_result",1667,1075),("vector_move",1678,1082),("vector_deed",1692,1089),("transfer_deed",1700,1096)]++[en P "_law_most" 1704 (.int 22 1703)]++er P [("_law_raw",1712,1103),("_law_draw",1720,1110),("_law_reg",1727,1117),("_law_function",1739,1124),("_law_bent",1750,1131),("_law_program",1763,1138),("_law_load",1769,1143),("_law_recorded",1780,1150),("_law_calls",1794,1157),("_law_changed",1800,1162),("_law_led",1813,1169),("_law_frames",1824,1176),("_law_stands",1830,1181),("_law_set",1836,1186),("_law_deed",1857,1193),("law",1876,1200)]).toArray 117})<|
 .cons (4,{cls:=.type "module",dict:=some 0,data:=.plain})<|
 .cons (29,{cls:=.type "tuple",data:=.seq #[.none] 0})<|
 fn 3 35 208 7 7 Z6<|
 cl P 46 "MintError" mo0 203 5 [.type "Exception",.type "BaseException",.type "object"] [.ref 59,.ref 71] (some (.ref 22)) "Exception.__new__" (er P [("__init__",216,36),("told",223,43),("__static_attributes__",226,44),("__weakref__",228,47)]) 229 3<|
 cl P 59 "OperandError" mo0 241 16 [.ref 46,.type "Exception",.type "BaseException",.type "object"] [] (some (.ref 50)) "Exception.__new__" (er P [("__static_attributes__",246,57)]) 247 2<|
 cl P 71 "MachineError" mo0 257 18 [.ref 46,.type "Exception",.type "BaseException",.type "object"] [] (some (.ref 62)) "Exception.__new__" (er P [("__static_attributes__",262,69)]) 263 2<|
 fn 3 79 266 20 5 Oo<|
 fn 3 86 273 22 6 On<|
 fn 3 93 281 24 6 ZaO<|
 fn 3 121 324 40 7 QY<|
 .cons (123,{cls:=.type "tuple",data:=.seq #[.int 0 333] 0})<|
 fn 3 129 334 51 7 JC<|
 fn 3 136 343 54 9 UJ<|
 fn 3 143 354 63 7 UI<|
 fn 3 150 363 66 5 Ui<|
 fn 1 155 370 69 4 QE<|
 fn 3 162 376 72 6 U5<|
 fn 3 169 384 78 6 QX<|
 fn 3 176 392 84 9 Vq<|
 fn 3 183 403 102 9 VL<|
 fn 3 190 414 113 6 Wy<|
 fn 3 197 422 116 9 Qe<|
 fn 3 204 433 119 8 Ju<|
 fn 3 211 443 123 8 Qf<|
 fn 1 216 453 127 4 UH<|
 fn 3 223 459 130 9 QL<|
 fn 1 228 470 138 4 Jn<|
 cl P 232 "Debugger" mo1 319 38 [.type "object"] [] none "object.__new__" (er P [("__init__",332,122),("break_at",342,130),("clear",353,137),("watch",362,144),("unwatch",369,151),("seen",375,156),("is_met",383,163),("returned",391,170),("step",402,177),("led",413,184),("go",421,191),("run_to",432,198),("step_over",442,205),("finish",452,212),("where",458,217),("backtrace",469,224),("stack_rows",475,229),("__static_attributes__",485,230),("__dict__",487,233),("__weakref__",489,234)]) 490 4<|
 fn 3 249 507 144 9 Uh<|
 cl P 260 "Decoded" mo2 502 142 [.type "object"] [] none "object.__new__" (er P [("__init__",517,250),("told",524,257),("__static_attributes__",529,258),("__dict__",531,261),("__weakref__",533,262)]) 534 4<|
 fn 3 284 577 167 5 UG<|
 fn 3 291 584 176 5 Xu<|
 fn 3 298 591 179 6 Xv<|
 fn 3 305 599 183 6 VK<|
 fn 3 319 615 195 6 Xw<|
 cl P 344 "Flags" mo3 572 165 [.type "object"] [] none "object.__new__" (er P [("__init__",583,285),("told",590,292),("pack",598,299),("unpack",606,306),("unpack_low",614,313),("copy",622,320),("get",631,327),("put",643,334),("show",650,341),("__static_attributes__",658,342),("__dict__",660,345),("__weakref__",662,346)]) 663 4<|
 fn 3 396 738 262 9 QU<|
 cl P 435 "Register" mo4 733 260 [.type "object"] [] none "object.__new__" (er P [("__init__",748,397),("code",755,404),("is_extended",762,411),("is_high",769,418),("needs_rex",776,425),("told",783,432),("__static_attributes__",788,433),("__dict__",790,436),("__weakref__",792,437)]) 793 4<|
 fn 3 445 796 282 5 Ws<|
 fn 3 459 810 300 7 ZaN<|
 fn 3 473 837 312 5 U4<|
 fn 3 480 844 315 6 VJ<|
 fn 3 487 852 318 7 Ug<|
 fn 3 494 861 321 9 Ww<|
 fn 3 501 872 327 9 VI<|
 fn 1 518 900 338 4 Qx<|
 fn 3 539 924 350 7 Wx<|
 fn 3 546 933 356 5 Wv<|
 cl P 550 "Memory" mo5 832 310 [.type "object"] [] none "object.__new__" (er P [("__init__",843,474),("octet",851,481),("set_octet",860,488),("read",871,495),("write",882,502),("load",893,509),("octets",899,514),("written",905,519),("spans",912,526),("find",923,533),("copy",932,540),("told",939,547),("__static_attributes__",941,548),("__dict__",943,551),("__weakref__",945,552)]) 946 4<|
 fn 3 560 949 358 7 Bt<|
 fn 3 574 971 365 6 UF<|
 fn 3 581 979 376 6 XV<|
 fn 3 588 987 387 8 XT<|
 fn 3 595 997 399 9 Vp<|
 fn 3 621 1032 421 8 Vo<|
 fn 3 628 1042 429 7 Xq<|
 fn 3 635 1051 436 8 Wu<|
 fn 3 642 1061 444 7 Xr<|
 fn 3 649 1070 448 7 XU<|
 fn 3 656 1079 453 6 Xp<|
 fn 3 663 1087 457 6 Xs<|
 cl P 667 "State" mo5 966 363 [.type "object"] [] none "object.__new__" (er P [("__init__",978,575),("get",986,582),("put",996,589),("put_low",1007,596),("registers",1013,601),("offset",1022,608),("place",1031,615),("size_of",1041,622),("read",1050,629),("write",1060,636),("push",1069,643),("pop",1078,650),("told",1086,657),("copy",1094,664),("__static_attributes__",1104,665),("__dict__",1106,668),("__weakref__",1108,669)]) 1109 4<|
 fn 3 677 1112 468 8 Oq<|
 fn 3 684 1122 478 8 He<|
 fn 3 691 1132 486 5 VF<|
 fn 3 698 1139 489 8 KV<|
 fn 3 712 1163 499 6 Uf<|
 cl P 737 "Operand" mo6 1158 497 [.type "object"] [.ref 772,.ref 806,.ref 847] none "object.__new__" (er P [("__init__",1170,713),("told",1177,720),("symbol",1184,727),("registers",1191,734),("__static_attributes__",1193,735),("__dict__",1195,738),("__weakref__",1197,739)]) 1198 4<|
 fn 3 754 1213 512 6 VH<|
 cl P 772 "Reg" mo6 1208 510 [.ref 737,.type "object"] [] (some (.ref 742)) "object.__new__" (er P [("__init__",1220,755),("told",1227,762),("registers",1234,769),("__static_attributes__",1236,770)]) 1237 2<|
 .cons (782,{cls:=.type "tuple",data:=.seq #[.str "" 1252] 0})<|
 fn 3 788 1253 523 7 QV<|
 cl P 806 "Imm" mo6 1247 521 [.ref 737,.type "object"] [] (some (.ref 775)) "object.__new__" (er P [("__init__",1261,789),("told",1268,796),("symbol",1275,803),("__static_attributes__",1278,804)]) 1279 2<|
 .cons (816,{cls:=.type "tuple",data:=.seq #[.str "" 1294] 0})<|
 fn 3 822 1295 535 7 QT<|
 cl P 847 "Rel" mo6 1289 533 [.ref 737,.type "object"] [] (some (.ref 809)) "object.__new__" (er P [("__init__",1303,823),("told",1310,830),("symbol",1317,837),("target",1325,844),("__static_attributes__",1328,845)]) 1329 2<|
 .cons (857,{cls:=.type "tuple",data:=.seq #[.str "" 1344] 0})<|
 fn 3 863 1345 550 8 Jb<|
 cl P 900 "Instruction" mo6 1339 548 [.type "object"] [] none "object.__new__" (er P [("__init__",1354,864),("told",1360,869),("memory_at",1369,876),("memory",1377,883),("symbols",1384,890),("replaced",1393,897),("__static_attributes__",1397,898),("__dict__",1399,901),("__weakref__",1401,902)]) 1402 4<|
 fn 3 924 1455 599 10 QQ<|
 fn 3 931 1467 615 8 VE<|
 fn 3 938 1477 619 9 Wr<|
 fn 3 945 1488 624 7 Q7<|
 fn 3 952 1497 640 6 XQ<|
 fn 3 959 1505 646 5 Xn<|
 fn 3 966 1512 649 6 KW<|
 fn 3 973 1520 661 8 QR<|
 fn 3 1095 1693 803 6 Vj<|
 fn 3 1102 1705 811 6 KZ<|
 fn 3 1109 1713 817 6 XR<|
 fn 3 1116 1721 819 5 KY<|
 fn 3 1123 1728 821 10 Vm<|
 fn 3 1130 1740 835 9 XS<|
 fn 3 1137 1751 839 11 VG<|
 fn 1 1142 1764 848 4 Vl<|
 fn 3 1149 1770 851 9 Vk<|
 fn 3 1156 1781 860 12 Xo<|
 fn 1 1161 1795 873 4 QS<|
 fn 3 1168 1801 881 11 Ga<|
 fn 3 1175 1814 900 9 Wt<|
 fn 1 1180 1825 907 4 Uo<|
 fn 1 1185 1831 917 4 Wa<|
 fn 3 1192 1837 935 19 Vn<|
 fn 3 1199 1858 957 17 Hf<|
 []
noncomputable def Zcw:List Addr:=(KK {strHash:=fun q_=>0,shareClass:=id,mergeTok:=id,idOf:=fun q_=>0,idOfShared:=fun q_ q_=>0,followText:=fun q_=>true,idOfImm:=fun q_=>0}).map (·.1)
theorem ZdZ(P:Params):Zcw=(KK P).map (·.1):=by kernel_rfl
noncomputable def JY:List Addr:=[186,193,200,207,1188,1195]
noncomputable def KT(P:Params):Frag:=KK P++JY.map fun a=>(a,{cls:=.none,data:=.fields #[]})
noncomputable def KTas:List Addr:=Zcw++JY
noncomputable def H8(P:Params):Obj:={cls:=.type "dict",data:=.dict #[⟨PyData.keyHash P "builtins",.str "builtins" 162,.ref 4⟩,⟨PyData.keyHash P "__main__",.str "__main__" 163,.ref 5⟩] 2}
noncomputable def KU(P:Params):Frag:=KT P++[(1,H8 P)]
noncomputable def V0:List Addr:=KTas++[1]
theorem Qv(P:Params):V0=(KU P).map (·.1):=by kernel_rfl
end
end Internal
namespace Internal
open PySem PySem.W PyProof.Rows PySem.Calls PySem.Spec
section
abbrev pw:Program:=PySem.Challenge.pw_nn0088_01
noncomputable def bT(P:Params):BT:=
 .node (boot_o_0 P) (.node (boot_o_1 P) (.node (boot_o_3 P) (.node (boot_o_7 P) .nil .nil) .nil) (.node (boot_o_5 P) (.node (boot_o_9 P) .nil .nil) .nil))
  (.node (boot_o_2 P) (.node (boot_o_4 P) (.node (boot_o_8 P) .nil .nil) .nil) (.node (boot_o_6 P) (.node (boot_o_10 P) .nil .nil) .nil))
theorem ZeQ(P:Params):absHeap (bT P) 11 (boot_heap P).life=boot_heap P:=by kernel_rfl
noncomputable def S0(w:World)(os:OsState):SharedT:=⟨bT w.params,11,(boot_heap w.params).life, #[],boot_drawn,boot_toks,os⟩
theorem ZeW(w:World)(os:OsState):(S0 w os).abs=⟨boot_heap w.params, #[],boot_drawn,boot_toks,os⟩:=congrArg (fun h=>(⟨h, #[],boot_drawn,boot_toks,os⟩:Shared)) (ZeQ w.params)
theorem Zcn(P:Params):(boot_heap P).nsMap mainGlobals "__annotations__" =some (.ref 6):=by kernel_rfl
theorem NU{tb:String→Option Builtin}{p:Program}{w:World}{n₀:Nat}{ann:Option Value}:∀{n:Nat} {s s':Shared} {t:Thread} {f:Flow} {c:Code} {q:Pos},segRun tb p w n₀ ann 0 n s t=some (f,s',c,q)→topRun tb p w n₀ ann n s t=some s'
 |0,_,_,_,_,_,_,h=>by cases h
 |n+1,s,s',t,f,c,q,h=>by
  unfold segRun at h
  unfold topRun
  obtain⟨cur,code,pos,stack⟩:=t
  cases he:endAt 0 ⟨cur,code,pos,stack⟩with
  |some x=>
   rw[he]at h
   cases h
   have:through ⟨cur,code,pos,stack⟩=true:=by
    cases stack with
    |cons=>cases cur<;>simp[endAt]at he
    |nil=>
     cases cur with
     |pure f=>cases f<;>first|rfl|simp[endAt]at he
     |_=>simp[endAt]at he
   rw[this]
  |none=>
   rw[he]at h
   have:through ⟨cur,code,pos,stack⟩=false:=by
    cases stack with
    |cons=>rfl
    |nil=>
     cases cur with
     |pure f=>cases f<;>first|rfl|simp[endAt]at he
     |_=>rfl
   rw[this]
   cases hk:stepOk n₀ ann ⟨cur,code,pos,stack⟩with
   |false=>rw[hk]at h;cases h
   |true=>
    rw[hk]at h
    cases hs:step (denote tb) p w s ⟨cur,code,pos,stack⟩with
    |halt o s₂=>rw[hs]at h;cases h
    |go s₂ t₂=>rw[hs]at h;exact NU h
noncomputable def HP(x:SharedT)(a:Addr):Option Obj:=if a<x.n then alive ((x.tree.get a).getD default)else none
theorem Zd8(x:SharedT)(a:Addr):x.abs.heap.get? a=HP x a:=by
 unfold HP
 show(absHeap x.tree x.n x.life).get? a=_
 unfold Heap.get?
 rw[absHeap_at]
 by_cases h:a<x.n
 ·rw[if_pos h,if_pos h]
  generalize (x.tree.get a).getD default=o
  obtain⟨c,d,dt,sl⟩:=o
  cases dt<;>rfl
 ·rw[if_neg h,if_neg h]
noncomputable def fin(w:World)(os:OsState):Option SharedT:=(segRunT treeTable pw w 11 (some (.ref 6)) 0 7900 (S0 w os) (topStub pw)).map fun x=>x.2.1
noncomputable def ZbX(w:World)(os:OsState):Option SharedT:=(Fast.tw10110043849684766642 Fast.tw14364793385576792824 pw w 11 (some (.ref 6)) 0 7900 (S0 w os) (topStub pw)).map fun x=>x.2.1
theorem Zgq(w:World)(os:OsState):fin w os=ZbX w os:=by
 unfold fin ZbX
 rw[Fast.te10110043849684766642,Fast.te14364793385576792824]
noncomputable def qv:Program:=view pw [119]
noncomputable def loo:List Str:=(pw.main.scope.names.map Prod.fst).filter fun n=>n !="law"
theorem Zds{w:World}{os:OsState}{s:SharedT}(h:fin w os=some s):topRun treeTable pw w 11 (some (.ref 6)) 7900 ⟨boot_heap w.params, #[],boot_drawn,boot_toks,os⟩ (topStub pw)=some s.abs:=by
 unfold fin at h
 obtain⟨⟨f,s',c,q⟩,h1,rfl⟩:=Option.map_eq_some_iff.mp h
 have:=NU (segRun_of h1)
 rw[ZeW]at this
 exact this
noncomputable def Zc5(P:Params)(s:Shared):Bool:=staticsOk [] (boot_heap P) s.heap&&namesBound pw s.heap&&gensDone s&&laidKept (boot_heap P) s.heap
noncomputable def ovr(P:Params)(t:BT)(a:Addr):Obj:=((KU P).lookup a).getD ((t.get a).getD default)
noncomputable def hO(P:Params)(t:BT)(life:Life):Heap:=⟨((List.range 1201).map (ovr P t)).toArray,life⟩
theorem Zgm{P:Params}{x:SharedT}(n:x.n=1201)(m:V0.map (HP x)=(KU P).map fun p=>some p.2):x.abs.heap=hO P x.tree x.life:=by
 have h:∀p∈KU P,(x.tree.get p.1).getD default=p.2:=fun p hp=>by
  rw[Qv P,List.map_map]at m
  have g:HP x p.1=some p.2:=List.map_inj_left.mp m p hp
  unfold HP at g
  split at g
  ·revert g
   generalize (x.tree.get p.1).getD default=o
   obtain⟨c,d,dt,sl⟩:=o
   cases dt<;>intro g<;>first|exact Option.some.inj g|cases g
  ·cases g
 refine congrArg (fun o=>(⟨o,x.life⟩:Heap)) (Array.ext_getElem? fun i=>?_)
 show(absHeap x.tree x.n x.life).objs[i]? =_
 rw[absHeap_at,n,List.getElem?_toArray,List.getElem?_map]
 by_cases hi:i<1201
 ·rw[if_pos hi,List.getElem?_range hi]
  show _=some (ovr P x.tree i)
  unfold ovr
  cases hl:(KU P).lookup i with
  |none=>rfl
  |some o=>exact congrArg some (h (i,o) (kb_mem hl))
 ·rw[if_neg hi,List.getElem?_eq_none (by rw[List.length_range];exact Nat.le_of_not_lt hi)]
  rfl
theorem Zgx:PySem.Challenge.rw_nn0088_01.row.prog.bare:=⟨rfl,rfl,rfl,rfl,rfl,by decide+kernel⟩
theorem Zgo(w:World)(os:OsState):(ZbX w os).map (fun s=>(s.gens.size,s.n,V0.map (HP s)))=some (0,1201,(KU w.params).map fun p=>some p.2):=by kernel_rfl
theorem Zgp(P:Params)(t:BT)(life:Life)(d:Drawn)(k:Nat)(os:OsState):(Zc5 P ⟨hO P t life, #[],d,k,os⟩,Fast.tw4187177175401517315 qv loo [] (fun q_=>true) true ⟨hO P t life, #[],d,k,os⟩)=(true,openGood qv loo):=by kernel_rfl
theorem ZdA(w:World)(os:OsState):∃s,fin w os=some s∧Zc5 w.params s.abs=true∧openSeen qv loo [] (fun q_=>true) true s.abs=openGood qv loo∧(kHook KU V0 Qv).obs s.abs=(kHook KU V0 Qv).val w:=by
 have m:=Zgo w os
 rw[←Zgq]at m
 obtain⟨s,e,a⟩:=Option.map_eq_some_iff.mp m
 have a:=Prod.mk.inj a
 have b:=Prod.mk.inj a.2
 have z:s.abs=⟨hO w.params s.tree s.life, #[],s.drawn,s.toks,s.os⟩:=by
  rw[←Zgm b.1 b.2,←Array.eq_empty_of_size_eq_zero a.1]
  rfl
 have y:=Zgp w.params s.tree s.life s.drawn s.toks s.os
 rw[←Fast.te4187177175401517315,←z]at y
 have y:=Prod.mk.inj y
 exact⟨s,e,y.1,y.2,(List.map_congr_left fun a q_=>Zd8 s a).trans b.2⟩
theorem Zd3{p q:Program}{loose mods:List Str}{Xt:Shared→Bool}{α:Type}{Yf:Shared→α}{Ya:World→α}{N n₀:Nat}{H₀:Params→Heap}{d₀:Drawn}{k₀:Nat}{ann:Option Value}(hm:mods=importedModules p.main.body)
  (open_:∀w:World,(fencedOpening treeTable p w N).map (fun s=>(s.heap,s.gens,s.drawn,s.toks))=some (H₀ w.params,Array.mk [],d₀,k₀))
  (z0:∀P,(H₀ P).isNs mainGlobals=true) (z1:∀P,(H₀ P).objs.size=n₀) (z2:∀P,(H₀ P).nsMap mainGlobals "__annotations__" =ann)
  (run:∀(w:World) (os:OsState),∃s,topRun treeTable p w n₀ ann N ⟨H₀ w.params, #[],d₀,k₀,os⟩ (topStub p)=some s∧(staticsOk mods (H₀ w.params) s.heap&&namesBound p s.heap&&gensDone s&&laidKept (H₀ w.params) s.heap)=true∧
   openSeen q loose mods Xt true s=openGood q loose∧Yf s=Ya w):LeftO p q loose Xt Yf Ya N:=fun w=>by
 subst hm
 obtain⟨⟨h,gs,d,k,os⟩,e,e'⟩:=Option.map_eq_some_iff.mp (open_ w)
 obtain⟨rfl,rfl,rfl,rfl⟩:h=H₀ w.params∧gs= #[]∧d=d₀∧k=k₀:=by simpa using e'
 obtain⟨s,r,l1,l2,l3⟩:=run w os
 have t:topFrom treeTable p w N ⟨H₀ w.params, #[],d,k,os⟩=some s:=by
  unfold topFrom
  dsimp only
  rw[z0,z1,z2,r]
  show(match (staticsOk (importedModules p.main.body) (H₀ w.params) s.heap&&namesBound p s.heap&&gensDone s&&laidKept (H₀ w.params) s.heap)with|true=>some s|false=>none)=_
  rw[l1]
 unfold openEnds
 rw[e]
 show(topFrom treeTable p w N _).map _=_
 rw[t]
 exact congrArg some (Prod.ext l2 l3)
theorem Zgb:opening pw=plainProg pw.main.scope.names:=by kernel_rfl
theorem Zgr(s:Shared):fenceModules? pw s=some s:=by kernel_rfl
theorem Zgj:[]=importedModules pw.main.body:=by kernel_rfl
theorem ZdM(P:Params):(boot_heap P).isNs mainGlobals=true:=by kernel_rfl
theorem ZdL(P:Params):(boot_heap P).objs.size=11:=by kernel_rfl
theorem Zdw:∀w:World,(fencedOpening treeTable pw w 7900).map (fun s=>(s.heap,s.gens,s.drawn,s.toks))=some (boot_heap w.params,Array.mk [],boot_drawn,boot_toks):=boot_open Zgb rfl Zgr
theorem left:LeftO pw qv loo (fun q_=>true) (kHook KU V0 Qv).obs (kHook KU V0 Qv).val 7900:=
 Zd3 Zgj Zdw ZdM ZdL Zcn fun w os=>(ZdA w os).elim fun s h=>⟨s.abs,Zds h.1,h.2⟩
noncomputable def dl:DefRec:=((defOf qv "law").get (by kernel_rfl)).1
theorem lk5:Fast.tw8326940854005059898 {strict:= !R.allR (Fast.tw5923862056798008813 pw.main.body) (Fast.tw3471404346716756564 Fast.tw17691160309236699985),foot:=none,bare:=R.filterR (Fast.tw13343964577679436407 pw pw.main.body) [⟨⟨[118,97,114,115]⟩⟩,⟨⟨[100,105,114]⟩⟩,⟨⟨[108,111,99,97,108,115]⟩⟩]} pw.main.body=true:=by kernel_rfl
theorem lk:Fast.tw12908688711261696721 pw=true:=by
 unfold Fast.tw12908688711261696721
 exact look_both (look_both (by kernel_rfl) lk5) (by kernel_rfl)
theorem Zei:PySem.Challenge.rw_nn0088_01.wellSaid=true:=by
 rw[Fast.te9446332074065402090]
 unfold Fast.tw9446332074065402090 Fast.tw17960256430627541270 Fast.tw2436336058641802641
 rw[show Fast.tw12908688711261696721 (Fast.tw2368527892694137696 PySem.Challenge.rw_nn0088_01).toRowW.prog=true from lk]
 kernel_rfl
end
end Internal
namespace Internal
open PySem PySem.W PyProof.Rows PySem.Calls
section
inductive V where
 |none|bool (b:Bool)|int (i:Int)|str (s:Str)|ref (a:Addr)
 |tup (vs:List V)|lst (vs:List V)|obj (C:Addr) (fs:List (Str×V))|idict (kvs:List (Int×V))|sdict (kvs:List (Str×V))
 |lam (fd:FuncData)|bi (v:Value)
noncomputable def iAt(v:V):Int:=V.casesOn v 0 (fun q_=>0) id (fun q_=>0) (fun q_=>0) (fun q_=>0) (fun q_=>0) (fun q_ q_=>0) (fun q_=>0) (fun q_=>0) (fun q_=>0) (fun q_=>0)
noncomputable def tAt(i:Nat)(v:V):Option V:=V.casesOn v Option.none (fun q_=>Option.none) (fun q_=>Option.none) (fun q_=>Option.none) (fun q_=>Option.none) (fun vs=>vs[i]?) (fun q_=>Option.none) (fun q_ q_=>Option.none) (fun q_=>Option.none) (fun q_=>Option.none) (fun q_=>Option.none) (fun q_=>Option.none)
theorem sub1{a i t:Nat}(h:a-i=t+1):a-(i+1)=t:=congrArg Nat.pred h
theorem subS{a i:Nat}(h:i<a):a-i=(a-i-1)+1:=(Nat.succ_pred_eq_of_pos (Nat.sub_pos_of_lt h)).symm
theorem Zh5{a i:Nat}(h:i<a):a-(i+1)<a-i:=Nat.sub_lt_sub_left h (Nat.lt_succ_self i)
theorem Hr{x:Int}{n:Nat}(h0:0≤x)(h1:x<n)(hn:n≤2^64):x.natAbs<2^64:=Nat.lt_of_lt_of_le (Int.ofNat_lt.mp ((Int.natAbs_of_nonneg h0).symm▸h1)) hn
theorem absC{n:Nat}(h:n<2^64):((n:Nat):Int).natAbs<2^64:=h
theorem nA{i n:Nat}(h:i<n):(i:Int).natAbs<n:=by rw[Int.natAbs_natCast];exact h
theorem absN{i:Int}{n:Nat}(h:0≤i)(h':i<n):i.natAbs<n:=Int.ofNat_lt.mp (Int.natAbs_of_nonneg h▸h')
theorem nin{α:Type}{x:α}{P:Prop}(h:x∈([]:List α)):P:=nomatch h
theorem nos{α:Type}{v:α}{P:Prop}(e:Option.none=some v):P:=by cases e
noncomputable abbrev Frz:=Addr→Option Obj
noncomputable abbrev Qa(Vs:List Value):Obj:={cls:=.type "tuple",data:=.seq Vs.toArray}
noncomputable abbrev Zu(Vs:List Value)(n:Nat):Obj:={cls:=.type "list",data:=.seq Vs.toArray n}
section
variable{prog:Program}{w:World}{K:Type} [DecidableEq K]
noncomputable def Jx(knd:KeyKind prog w K)(o:Obj)(kvs:List (K×Value)):Prop:=
 ∃es ep,o.ExactDict∧o.data=.dict es ep∧KeysOf knd es∧Pairs knd es.toList kvs∧(kvs.map (·.1)).Nodup
theorem Jx.dictOf{knd:KeyKind prog w K}{h:Heap}{d:Addr}{o:Obj}{kvs:List (K×Value)}(e:h.get? d=some o)(x:Jx knd o kvs):h.DictOf knd d kvs:=⟨o,x.imp fun b h=>h.imp fun b h=>⟨e,h⟩⟩
theorem YQ{knd:KeyKind prog w K}{h:Heap}{d:Addr}{kvs:List (K×Value)}(x:h.DictOf knd d kvs):∃o,h.get? d=some o∧Jx knd o kvs:=
 x.imp fun b h=>h.elim fun es h=>h.elim fun ep h=>⟨h.1,es,ep,h.2⟩
theorem Jx.cls{knd:KeyKind prog w K}{o:Obj}{kvs:List (K×Value)}(x:Jx knd o kvs):o.cls=.type "dict" :=x.elim fun b h=>h.elim fun b h=>h.1.1
end
mutual
inductive VR(w:World)(g:Frz):V→Value→Prop
 |none:VR w g .none .none
 |bool (b):VR w g (.bool b) (.bool b)
 |int (i t):VR w g (.int i) (.int i t)
 |str (s t):VR w g (.str s) (.str s t)
 |ref (a):VR w g (.ref a) (.ref a)
 |tup (a vs Vs):g a=some (Qa Vs)→VRs w g vs Vs→VR w g (.tup vs) (.ref a)
 |lst (a vs Vs n):g a=some (Zu Vs n)→VRs w g vs Vs→VR w g (.lst vs) (.ref a)
 |obj (a C d o fs kvs):g a=some (instObj C d)→g d=some o→Jx (strKind PW w) o kvs→fs.map (·.1)=kvs.map (·.1)→VRs w g (fs.map (·.2)) (kvs.map (·.2))→VR w g (.obj C fs) (.ref a)
 |idict (a o fs kvs):g a=some o→Jx (intKind PW w) o kvs→fs.map (·.1)=kvs.map (·.1)→VRs w g (fs.map (·.2)) (kvs.map (·.2))→VR w g (.idict fs) (.ref a)
 |sdict (a o fs kvs):g a=some o→Jx (strKind PW w) o kvs→fs.map (·.1)=kvs.map (·.1)→VRs w g (fs.map (·.2)) (kvs.map (·.2))→VR w g (.sdict fs) (.ref a)
 |lam (a o fd c oc vs t):g a=some o→o.cls=.type "function" →o.data=.func fd→fd.code=.ref c→g c=some oc→oc.data=.fields vs→vs[1]? =some (.str fd.qualname t)→VR w g (.lam fd) (.ref a)
 |bi (v):VR w g (.bi v) v
inductive VRs(w:World)(g:Frz):List V→List Value→Prop
 |nil:VRs w g [] []
 |cons {v x vs xs}:VR w g v x→VRs w g vs xs→VRs w g (v::vs) (x::xs)
end
noncomputable abbrev Le(g g':Frz):Prop:=∀b o,g b=some o→g' b=some o
noncomputable def Kp(L:Option Addr)(k g':Frz):Prop:=∀b o,L≠some b→k b=some o→∃sl,g' b=some {o with slots:=sl}∧(o.cls≠.type "frame" →sl=o.slots)
theorem Le.refl(g:Frz):Le g g:=fun q_ q_ e=>e
theorem Le.trans{a b c:Frz}(x:Le a b)(y:Le b c):Le a c:=fun q_ q_ e=>y _ _ (x _ _ e)
theorem Kp.le{L:Option Addr}{k g g':Frz}(x:Kp L k g)(y:Le g g'):Kp L k g':=fun b o n e=>(x b o n e).imp fun b h=>⟨y _ _ h.1,h.2⟩
theorem Kp.down{L:Option Addr}{k k' g:Frz}(y:Le k' k)(x:Kp L k g):Kp L k' g:=fun b o n e=>x b o n (y _ _ e)
theorem Kp.at{L:Option Addr}{k g:Frz}(x:Kp L k g){b:Addr}{o:Obj}(m:L≠some b)(e:k b=some o)(n:o.cls≠.type "frame"):g b=some o:=by
 obtain⟨sl,e1,q⟩:=x b o m e
 rw[e1,q n]
section
variable{w:World}{g g':Frz}
theorem VR.mono(k:Le g g'){v:V}{x:Value}(h:VR w g v x):VR w g' v x:=
 VR.rec (motive_1:=fun v x q_=>VR w g' v x) (motive_2:=fun v x q_=>VRs w g' v x) .none .bool .int .str .ref
  (fun a vs Vs e q_ h=>.tup a vs Vs (k _ _ e) h) (fun a vs Vs n e q_ h=>.lst a vs Vs n (k _ _ e) h)
  (fun a C d o fs kvs e1 e2 e3 e4 q_ h=>.obj a C d o fs kvs (k _ _ e1) (k _ _ e2) e3 e4 h) (fun a o fs kvs e1 e3 e4 q_ h=>.idict a o fs kvs (k _ _ e1) e3 e4 h) (fun a o fs kvs e1 e3 e4 q_ h=>.sdict a o fs kvs (k _ _ e1) e3 e4 h)
  (fun a o fd c oc vs t e1 e2 e3 e4 e5 e6 e7=>.lam a o fd c oc vs t (k _ _ e1) e2 e3 e4 (k _ _ e5) e6 e7) .bi .nil (fun q_ q_ a b=>.cons a b) h
theorem VRs.ind{M:List V→List Value→Prop}{v:List V}{x:List Value}(h:VRs w g v x)(n:M [] [])(c:∀{v x vs xs},VR w g v x→VRs w g vs xs→M vs xs→M (v::vs) (x::xs)):M v x:=
 VRs.rec (motive_1:=fun q_ q_ q_=>True) (motive_2:=fun v x q_=>M v x) trivial (fun q_=>trivial) (fun q_ q_=>trivial) (fun q_ q_=>trivial) (fun q_=>trivial)
  (fun q_ q_ q_ q_ q_ q_=>trivial) (fun q_ q_ q_ q_ q_ q_ q_=>trivial) (fun q_ q_ q_ q_ q_ q_ q_ q_ q_ q_ q_ q_=>trivial) (fun q_ q_ q_ q_ q_ q_ q_ q_ q_=>trivial) (fun q_ q_ q_ q_ q_ q_ q_ q_ q_=>trivial)
  (fun q_ q_ q_ q_ q_ q_ q_ q_ q_ q_ q_ q_ q_ q_=>trivial) (fun q_=>trivial) n (fun a b q_ i=>c a b i) h
theorem VRs.mono(k:Le g g'){v:List V}{x:List Value}(h:VRs w g v x):VRs w g' v x:=h.ind .nil fun a q_ i=>.cons (a.mono k) i
noncomputable def vinv(w:World)(g:Frz)(x:Value)(v:V):Prop:=
 V.casesOn v (x=.none) (fun b=>x=.bool b) (fun i=>∃t,x=.int i t) (fun i=>∃t,x=.str i t) (fun a=>x=.ref a)
  (fun vs=>∃a Vs,x=.ref a∧g a=some (Qa Vs)∧VRs w g vs Vs) (fun vs=>∃a Vs n,x=.ref a∧g a=some (Zu Vs n)∧VRs w g vs Vs)
  (fun C fs=>∃a d o kvs,x=.ref a∧g a=some (instObj C d)∧g d=some o∧Jx (strKind PW w) o kvs∧fs.map (·.1)=kvs.map (·.1)∧VRs w g (fs.map (·.2)) (kvs.map (·.2)))
  (fun fs=>∃a o kvs,x=.ref a∧g a=some o∧Jx (intKind PW w) o kvs∧fs.map (·.1)=kvs.map (·.1)∧VRs w g (fs.map (·.2)) (kvs.map (·.2)))
  (fun fs=>∃a o kvs,x=.ref a∧g a=some o∧Jx (strKind PW w) o kvs∧fs.map (·.1)=kvs.map (·.1)∧VRs w g (fs.map (·.2)) (kvs.map (·.2)))
  (fun fd=>∃a o c oc vs t,x=.ref a∧g a=some o∧o.cls=.type "function" ∧o.data=.func fd∧fd.code=.ref c∧g c=some oc∧oc.data=.fields vs∧vs[1]? =some (.str fd.qualname t)) (fun v=>x=v)
theorem VR.inv{v:V}{x:Value}(h:VR w g v x):vinv w g x v:=
 VR.rec (motive_1:=fun v x q_=>vinv w g x v) (motive_2:=fun q_ q_ q_=>True) rfl (fun q_=>rfl) (fun q_ t=>⟨t,rfl⟩) (fun q_ t=>⟨t,rfl⟩) (fun q_=>rfl)
  (fun a vs Vs e h q_=>⟨a,Vs,rfl,e,h⟩) (fun a vs Vs n e h q_=>⟨a,Vs,n,rfl,e,h⟩) (fun a C d o fs kvs e1 e2 e3 e4 h q_=>⟨a,d,o,kvs,rfl,e1,e2,e3,e4,h⟩) (fun a o fs kvs e1 e3 e4 h q_=>⟨a,o,kvs,rfl,e1,e3,e4,h⟩) (fun a o fs kvs e1 e3 e4 h q_=>⟨a,o,kvs,rfl,e1,e3,e4,h⟩)
  (fun a o fd c oc vs t e1 e2 e3 e4 e5 e6 e7=>⟨a,o,c,oc,vs,t,rfl,e1,e2,e3,e4,e5,e6,e7⟩) (fun q_=>rfl) trivial (fun q_ q_ q_ q_=>trivial) h
noncomputable def vsinv(w:World)(g:Frz)(xs:List Value):List V→Prop
 | []=>xs=[]
 |v::vs=>∃x r,xs=x::r∧VR w g v x∧VRs w g vs r
theorem VRs.inv{vs:List V}{xs:List Value}(h:VRs w g vs xs):vsinv w g xs vs:=h.ind (M:=fun vs xs=>vsinv w g xs vs) rfl fun a b q_=>⟨_,_,rfl,a,b⟩
theorem VRs.length{vs:List V}{xs:List Value}(h:VRs w g vs xs):vs.length=xs.length:=h.ind (M:=fun vs xs=>vs.length=xs.length) rfl fun q_ q_ i=>congrArg Nat.succ i
theorem VRs.get{vs:List V}{xs:List Value}(h:VRs w g vs xs):∀{i:Nat} {v:V},vs[i]? =some v→∃x,xs[i]? =some x∧VR w g v x:=
 h.ind (M:=fun vs xs=>∀{i:Nat} {v:V},vs[i]? =some v→∃x,xs[i]? =some x∧VR w g v x) (fun e=>nomatch e) fun {v x vs xs} a _ ih {i u} e=>
  Nat.casesOn (motive:=fun i=>(v::vs)[i]? =some u→∃y,(x::xs)[i]? =some y∧VR w g u y) i (fun e=>⟨x,rfl,Option.some.inj e▸a⟩) (fun q_ e=>ih e) e
theorem VRs.append{vs us:List V}{xs ys:List Value}(h:VRs w g vs xs)(h':VRs w g us ys):VRs w g (vs++us) (xs++ys):=h.ind (M:=fun vs xs=>VRs w g (vs++us) (xs++ys)) h' fun a q_ i=>.cons a i
theorem VRs.snoc{vs:List V}{xs:List Value}{v:V}{x:Value}(h:VRs w g vs xs)(a:VR w g v x):VRs w g (vs++[v]) (xs++[x]):=h.append (.cons a .nil)
theorem VRs.take{vs:List V}{xs:List Value}(h:VRs w g vs xs):∀n:Nat,VRs w g (vs.take n) (xs.take n):=
 h.ind (M:=fun vs xs=>∀n:Nat,VRs w g (vs.take n) (xs.take n)) (fun n=>by rw[List.take_nil,List.take_nil];exact .nil) fun a q_ i n=>Nat.casesOn n .nil fun n=>.cons a (i n)
theorem VRs.drop{vs:List V}{xs:List Value}(h:VRs w g vs xs):∀n:Nat,VRs w g (vs.drop n) (xs.drop n):=
 h.ind (M:=fun vs xs=>∀n:Nat,VRs w g (vs.drop n) (xs.drop n)) (fun n=>by rw[List.drop_nil,List.drop_nil];exact .nil) fun a b i n=>Nat.casesOn n (.cons a b) i
theorem VRs.reverse{vs:List V}{xs:List Value}(h:VRs w g vs xs):VRs w g vs.reverse xs.reverse:=
 h.ind (M:=fun vs xs=>VRs w g vs.reverse xs.reverse) .nil fun a q_ i=>by rw[List.reverse_cons,List.reverse_cons];exact i.snoc a
theorem VRs.set{vs:List V}{xs:List Value}(h:VRs w g vs xs){v:V}{x:Value}(a:VR w g v x):∀{i:Nat},VRs w g (vs.set i v) (xs.set i x):=
 h.ind (M:=fun vs xs=>∀{i:Nat},VRs w g (vs.set i v) (xs.set i x)) .nil fun {v x vs xs} b c ih i=>Nat.casesOn i (.cons a c) fun q_=>.cons b ih
noncomputable def PR(w:World)(g:Frz){α:Type}(fs:List (α×V))(kvs:List (α×Value)):Prop:=fs.map (·.1)=kvs.map (·.1)∧VRs w g (fs.map (·.2)) (kvs.map (·.2))
theorem PR.mono{α:Type}{fs:List (α×V)}{kvs:List (α×Value)}(k:Le g g')(h:PR w g fs kvs):PR w g' fs kvs:=⟨h.1,h.2.mono k⟩
theorem PR.nil{α:Type}:PR w g ([]:List (α×V)) []:=⟨rfl,.nil⟩
theorem PR.cons{α:Type}{k:α}{v:V}{x:Value}{fs:List (α×V)}{kvs:List (α×Value)}(a:VR w g v x)(h:PR w g fs kvs):PR w g ((k,v)::fs) ((k,x)::kvs):=
 ⟨by simp[h.1],.cons a h.2⟩
theorem VRs.cons2{v:V}{x:Value}{vs:List V}{xs:List Value}(h:VRs w g (v::vs) (x::xs)):VR w g v x∧VRs w g vs xs:=by
 obtain⟨y,r,e,a,b⟩:=h.inv
 cases e
 exact⟨a,b⟩
theorem PR.ind{α:Type}{M:List (α×V)→List (α×Value)→Prop}{fs:List (α×V)}{kvs:List (α×Value)}(h:PR w g fs kvs)(n:M [] [])(c:∀{k v x fs kvs},VR w g v x→PR w g fs kvs→M fs kvs→M ((k,v)::fs) ((k,x)::kvs)):M fs kvs:=by
 induction fs generalizing kvs with
 |nil=>rw[List.map_eq_nil_iff.mp h.1.symm];exact n
 |cons p r ih=>
  cases kvs with
  |nil=>exact absurd h.1 (List.cons_ne_nil _ _)
  |cons q s=>
   have e:=List.cons.inj h.1
   have b:=h.2.cons2
   exact(show q=(p.1,q.2)from Prod.ext e.1.symm rfl)▸c b.1 ⟨e.2,b.2⟩ (ih ⟨e.2,b.2⟩)
theorem PR.length{α:Type}{fs:List (α×V)}{kvs:List (α×Value)}(h:PR w g fs kvs):fs.length=kvs.length:=by
 simpa using congrArg List.length h.1
noncomputable def aget{α β:Type} [DecidableEq α](l:List (α×β))(x:α):Option β:=List.rec Option.none (fun p q_ i=>if p.1=x then Option.some p.2 else i) l
noncomputable def aset{α β:Type} [DecidableEq α](l:List (α×β))(x:α)(u:β):List (α×β):=List.rec [(x,u)] (fun p r i=>if p.1=x then(p.1,u)::r else p::i) l
section
variable{α β γ:Type} [DecidableEq α]{x y:α}{u v:β}{p:α×β}{l r:List (α×β)}{P:β→Prop}
theorem Jh{M:Option β→Prop}(h1:p.1=x→M (some p.2))(h2:p.1≠x→M (aget r x)):M (aget (p::r) x):=
 if c:p.1=x then(show aget (p::r) x=_ from if_pos c)▸h1 c else(show aget (p::r) x=aget r x from if_neg c)▸h2 c
theorem Qr{M:List (α×β)→Prop}(h1:p.1=x→M ((p.1,u)::r))(h2:p.1≠x→M (p::aset r x u)):M (aset (p::r) x u):=
 if c:p.1=x then(show aset (p::r) x u=_ from if_pos c)▸h1 c else(show aset (p::r) x u=p::aset r x u from if_neg c)▸h2 c
theorem ZT(l:List (α×β))(x y:α)(v:β):aget (aset l x v) y=if y=x then some v else aget l y:=
 List.rec (ite_congr (propext eq_comm) (fun q_=>rfl) fun q_=>rfl) (fun p r i=>Qr (M:=fun l=>aget l y=if y=x then some v else aget (p::r) y)
  (fun c=>if d:y=x then(if_pos (c.trans d.symm)).trans (if_pos d).symm else have n:p.1≠y:=fun z=>d (z.symm.trans c);(if_neg n).trans ((if_neg n).symm.trans (if_neg d).symm))
  fun c=>if e:p.1=y then(if_pos e).trans ((if_pos e).symm.trans (if_neg fun z=>c (e.trans z)).symm)else(if_neg e).trans (i.trans (ite_congr rfl (fun q_=>rfl) fun q_=>(if_neg e).symm))) l
theorem BW(f:β→γ)(x:α)(l:List (α×β)):aget (l.map fun p=>(p.1,f p.2)) x=(aget l x).map f:=
 List.rec rfl (fun p r i=>Jh (M:=fun o=>aget ((p::r).map fun p=>(p.1,f p.2)) x=o.map f) (fun c=>if_pos c) fun c=>(if_neg c).trans i) l
theorem ZcN(f:β→γ)(x:α)(u:β)(l:List (α×β)):aset (l.map fun p=>(p.1,f p.2)) x (f u)=(aset l x u).map fun p=>(p.1,f p.2):=
 List.rec rfl (fun p r i=>Qr (M:=fun l=>aset ((p::r).map fun p=>(p.1,f p.2)) x (f u)=l.map fun p=>(p.1,f p.2)) (fun c=>if_pos c) fun c=>(if_neg c).trans (congrArg (List.cons _) i)) l
theorem Xe(h:∀q∈l,P q.2)(e:aget l x=some v):P v:=
 List.rec (motive:=fun l=>(∀q∈l,P q.2)→aget l x=some v→P v) (fun q_ e=>nos e) (fun p q_ i h=>Jh (M:=fun o=>o=some v→P v) (fun q_ e=>Option.some.inj e▸h p (.head _)) fun q_ e=>i (fun q m=>h q (.tail _ m)) e) l h e
theorem ZeS(h0:P v)(h:∀q∈l,P q.2)(x:α):P ((aget l x).getD v):=
 List.rec (motive:=fun(l:List (α×β))=>(∀q∈l,P q.2)→P ((aget l x).getD v)) (fun q_=>h0) (fun p q_ i h=>Jh (M:=fun o=>P (o.getD v)) (fun q_=>h p (.head _)) fun q_=>i fun q m=>h q (.tail _ m)) l h
theorem Vw(hu:P u)(h:∀q∈l,P q.2):∀q∈aset l x u,P q.2:=
 List.rec (motive:=fun l=>(∀q∈l,P q.2)→∀q∈aset l x u,P q.2) (fun q_ q m=>List.mem_singleton.mp m▸hu) (fun p q_ i h=>Qr (M:=fun l=>∀q∈l,P q.2) (fun q_=>List.forall_mem_cons.mpr ⟨hu,fun q m=>h q (.tail _ m)⟩) fun q_=>List.forall_mem_cons.mpr ⟨h p (.head _),i fun q m=>h q (.tail _ m)⟩) l h
theorem Q2(l:List (α×β))(x:α)(u:β):(aset l x u).length≤l.length+1:=
 List.rec (Nat.le_refl 1) (fun q_ r i=>Qr (M:=fun l=>l.length≤r.length+1+1) (fun q_=>Nat.le_succ _) fun q_=>Nat.succ_le_succ i) l
theorem Ge(e:aget l x=some v):(aset l x u).length=l.length:=
 List.rec (motive:=fun l=>aget l x=some v→(aset l x u).length=l.length) nos (fun p r i=>Qr (M:=fun l=>aget (p::r) x=some v→l.length=r.length+1) (fun q_ q_=>rfl) fun c e=>congrArg Nat.succ (i ((if_neg c).symm.trans e))) l e
theorem Bz(x:α)(u:β)(l:List (α×β)):(l.map (·.1)).Nodup→((aset l x u).map (·.1)).Nodup∧∀k∈(aset l x u).map (·.1),k=x∨k∈l.map (·.1):=
 List.rec (fun q_=>⟨List.nodup_cons.mpr ⟨nin,.nil⟩,fun q_ h=>.inl (List.mem_singleton.mp h)⟩) (fun p r i=>Qr (u:=u) (M:=fun l=>((p::r).map (·.1)).Nodup→(l.map (·.1)).Nodup∧∀k∈l.map (·.1),k=x∨k∈(p::r).map (·.1))
  (fun q_ h=>⟨h,fun q_ m=>.inr m⟩) fun c h=>have h:=List.nodup_cons.mp h;have z:=i h.2;⟨List.nodup_cons.mpr ⟨fun m=>(z.2 _ m).elim c h.1,z.1⟩,fun q_ m=>(List.mem_cons.mp m).elim (fun e=>.inr (e▸ .head _)) fun e=>(z.2 _ e).imp id (.tail _)⟩) l
theorem G0(h:x∈l.map (·.1)):∃v,aget l x=some v:=
 List.rec (motive:=fun l=>x∈l.map (·.1)→∃v,aget l x=some v) nin (fun p r i=>Jh (M:=fun o=>x∈(p::r).map (·.1)→∃v,o=some v) (fun q_ q_=>⟨_,rfl⟩) fun c h=>i ((List.mem_cons.mp h).resolve_left (Ne.symm c))) l h
theorem Hq(h:x∉l.map (·.1)):aget l x=Option.none:=
 List.rec (motive:=fun l=>x∉l.map (·.1)→aget l x=Option.none) (fun q_=>rfl) (fun p r i=>Jh (M:=fun o=>x∉(p::r).map (·.1)→o=Option.none) (fun c h=>absurd (c▸ .head _) h) fun q_ h=>i fun m=>h (.tail _ m)) l h
theorem ZdU(h:(l.map (·.1)).Nodup)(m:(x,v)∈l):aget l x=some v:=
 List.rec (motive:=fun l=>(l.map (·.1)).Nodup→(x,v)∈l→aget l x=some v) (fun q_ m=>nin m) (fun p r i h=>have h:=List.nodup_cons.mp h;Jh (M:=fun o=>(x,v)∈p::r→o=some v)
  (fun c m=>(List.mem_cons.mp m).elim (fun e=>e▸rfl) fun m=>absurd (List.mem_map.mpr ⟨_,m,c.symm⟩) h.1) fun c m=>(List.mem_cons.mp m).elim (fun e=>absurd (e▸rfl) c) (i h.2)) l h m
theorem Zaf(ps fs:List (α×β))(k:α)(h:(ps.map (·.1)).Nodup):aget (ps.foldl (fun m p=>aset m p.1 p.2) fs) k=(aget ps k).or (aget fs k):=by
 induction ps generalizing fs with
 |nil=>rfl
 |cons p r i=>
  have h:=List.nodup_cons.mp h
  exact(i _ h.2).trans (Jh (M:=fun o=>(aget r k).or (aget (aset fs p.1 p.2) k)=o.or (aget fs k)) (fun c=>by rw[Hq (c▸h.1),ZT,if_pos c.symm];rfl) fun c=>by rw[ZT,if_neg (Ne.symm c)])
theorem fmIf{α β:Type}(c:α→Bool)(g:α→β)(l:List α):l.filterMap (fun a=>if c a then some (g a)else Option.none)=(l.filter c).map g:=by
 rw[←List.filterMap_eq_map,List.filterMap_filter];rfl
end
theorem GI{α:Type} [DecidableEq α](k' k:α)(x:Value)(r:List (α×Value)):valueAt ((k',x)::r) k=if k'=k then some x else valueAt r k:=by
 unfold valueAt
 rw[List.find?_cons]
 by_cases h:k'=k
 ·rw[if_pos h,decide_eq_true h];rfl
 ·rw[if_neg h,decide_eq_false h]
theorem PR.get{α:Type} [DecidableEq α]{fs:List (α×V)}{kvs:List (α×Value)}(h:PR w g fs kvs){k:α}{v:V}(e:aget fs k=some v):∃x,valueAt kvs k=some x∧VR w g v x:=by
 refine h.ind (M:=fun fs kvs=>aget fs k=some v→∃x,valueAt kvs k=some x∧VR w g v x) (fun e=>nomatch e) (fun {k' u y r q} a _ ih e=>?_) e
 rw[GI]
 have e:(if k'=k then some u else aget r k)=some v:=e
 by_cases hk:k'=k
 ·rw[if_pos hk]at e⊢;cases e;exact⟨y,rfl,a⟩
 ·rw[if_neg hk]at e⊢;exact ih e
theorem PR.get_none{α:Type} [DecidableEq α]{fs:List (α×V)}{kvs:List (α×Value)}(h:PR w g fs kvs){k:α}(e:aget fs k=Option.none):valueAt kvs k=Option.none:=by
 refine h.ind (M:=fun fs kvs=>aget fs k=Option.none→valueAt kvs k=Option.none) (fun q_=>rfl) (fun {k' u y r q} a _ ih e=>?_) e
 rw[GI]
 have e:(if k'=k then some u else aget r k)=Option.none:=e
 by_cases hk:k'=k
 ·rw[if_pos hk]at e;cases e
 ·rw[if_neg hk]at e⊢;exact ih e
theorem Nl{α:Type} [DecidableEq α](k' k:α)(x y:Value)(r:List (α×Value))(hn:(((k',x)::r).map (·.1)).Nodup):
  stored ((k',x)::r) k y=if k'=k then(k',y)::r else(k',x)::stored r k y:=by
 unfold stored
 by_cases hk:k'=k
 ·subst hk
  simp only[List.map_cons,List.nodup_cons]at hn
  have:=map_store_of_not_mem r k' y hn.1
  simp[this]
 ·simp only[List.any_cons,hk,decide_false,Bool.false_or,if_false,List.map_cons,List.cons_append]
  split<;>rfl
theorem PR.set{α:Type} [DecidableEq α]{fs:List (α×V)}{kvs:List (α×Value)}(h:PR w g fs kvs)(hn:(kvs.map (·.1)).Nodup){k:α}{v:V}{x:Value}(a:VR w g v x):PR w g (aset fs k v) (stored kvs k x):=by
 refine h.ind (M:=fun fs kvs=>(kvs.map (·.1)).Nodup→PR w g (aset fs k v) (stored kvs k x)) (fun q_=>PR.cons a PR.nil) (fun {k' u y r q} b c ih hn=>?_) hn
 rw[Nl _ _ _ _ _ hn]
 show PR w g (if k'=k then(k',v)::r else(k',u)::aset r k v) _
 by_cases hk:k'=k
 ·rw[if_pos hk,if_pos hk];exact PR.cons a c
 ·rw[if_neg hk,if_neg hk];exact PR.cons b (ih (List.nodup_cons.mp hn).2)
noncomputable def OV(w:World)(g:Frz):Option V→Option Value→Prop
 |some v,some x=>VR w g v x
 |Option.none,_=>True
 |_,_=>False
theorem OV.mono(k:Le g g'){v:Option V}{x:Option Value}(h:OV w g v x):OV w g' v x:=by
 cases v<;>cases x<;>first|exact h|exact VR.mono k h
theorem OV.some{v:V}{x:Option Value}(h:OV w g (some v) x):∃y,x=some y∧VR w g v y:=by
 cases x with
 |none=>exact h.elim
 |some y=>exact⟨y,rfl,h⟩
end
structure Rec where
 x:Bool
 C:Addr
 d:Addr
 fs:List (Str×V)
noncomputable abbrev Yr(C d:Addr)(vs:Array Value):Obj:={cls:=.ref C,dict:=some d,data:=.fields vs}
noncomputable def JH(r:Rec)(o:Obj):Prop:=if r.x then ∃vs,o=Yr r.C r.d vs else o=instObj r.C r.d
structure Hp where
 ls:Addr→Option (List V)
 ds:Addr→Option (List (Int×V))
 ss:Addr→Option (List (Str×V))
 is:Addr→Option Rec
 cs:Addr→Option (Option V)
 ts:Addr→Option Str
noncomputable def Hp.emp:Hp:=⟨fun q_=>none,fun q_=>none,fun q_=>none,fun q_=>none,fun q_=>none,fun q_=>none⟩
noncomputable def up{α:Type}(f:Addr→Option α)(a:Addr)(x:Option α):Addr→Option α:=fun b=>if b=a then x else f b
@[simp] theorem up_self {α:Type} (f:Addr→Option α) (a:Addr) (x:Option α):up f a x a=x:=if_pos rfl
theorem Ze{α:Type}(f:Addr→Option α){a b:Addr}(x:Option α)(h:b≠a):up f a x b=f b:=if_neg h
theorem ZQ{α:Type}(f:Addr→Option α)(a:Addr)(x y:Option α):up (up f a x) a y=up f a y:=by
 funext b;unfold up;split<;>rfl
set_option tactic.hygienic true in
theorem YZ{α:Type}(f:Addr→Option α)(a:Addr)(x:Option α)(h:f a=x):up f a x=f:=by
 funext b;unfold up;split
 ·rename_i q;rw[q,h]
 ·rfl
structure Hp.Le(σ' σ:Hp):Prop where
 ls:∀a x,σ'.ls a=some x→σ.ls a=some x
 ds:∀a x,σ'.ds a=some x→σ.ds a=some x
 ss:∀a x,σ'.ss a=some x→σ.ss a=some x
 is:∀a x,σ'.is a=some x→σ.is a=some x
 cs:∀a x,σ'.cs a=some x→σ.cs a=some x
 ts:∀a x,σ'.ts a=some x→σ.ts a=some x
theorem Hp.Le.refl(σ:Hp):σ.Le σ:=⟨fun q_ q_ e=>e,fun q_ q_ e=>e,fun q_ q_ e=>e,fun q_ q_ e=>e,fun q_ q_ e=>e,fun q_ q_ e=>e⟩
theorem Hp.Le.trans{a b c:Hp}(x:a.Le b)(y:b.Le c):a.Le c:=
 ⟨fun q_ q_ e=>y.ls _ _ (x.ls _ _ e),fun q_ q_ e=>y.ds _ _ (x.ds _ _ e),fun q_ q_ e=>y.ss _ _ (x.ss _ _ e),fun q_ q_ e=>y.is _ _ (x.is _ _ e),fun q_ q_ e=>y.cs _ _ (x.cs _ _ e),fun q_ q_ e=>y.ts _ _ (x.ts _ _ e)⟩
theorem Zi{α:Type}{f g:Addr→Option α}(h:∀a x,f a=some x→g a=some x){a:Addr}(e:g a=none):f a=none:=by
 cases q:f a with
 |none=>rfl
 |some x=>rw[h _ _ q]at e;cases e
structure Lss(w:World)(g k:Frz)(h:Heap)(a:Addr)(vs:List V):Prop where
 gn:g a=none
 kn:k a=none
 at_:∃Vs n,h.get? a=some (Zu Vs n)∧VRs w g vs Vs
structure Dss(w:World){α:Type} [DecidableEq α](knd:KeyKind PW w α)(g k:Frz)(h:Heap)(a:Addr)(fs:List (α×V)):Prop where
 gn:g a=none
 kn:k a=none
 at_:∃kvs,h.DictOf knd a kvs∧PR w g fs kvs
structure Iss(w:World)(g k:Frz)(h:Heap)(a:Addr)(r:Rec):Prop where
 gn:g a=none
 kn:k a=none
 at_:∃o,h.get? a=some o∧JH r o
 d:Dss w (strKind PW w) g k h r.d r.fs
inductive CV(w:World)(g:Frz):Option V→Option Value→Prop
 |none:CV w g none none
 |some {v x}:VR w g v x→CV w g (some v) (some x)
theorem CV.mono{w:World}{g g':Frz}(k:Le g g'){v:Option V}{x:Option Value}(h:CV w g v x):CV w g' v x:=by
 cases h with
 |none=>exact .none
 |some r=>exact .some (r.mono k)
theorem ZaS{w:World}{g:Frz}{v:V}{x:Option Value}(h:CV w g (Option.some v) x):∃y,x=Option.some y∧VR w g v y:=by
 cases h with
 |some r=>exact⟨_,rfl,r⟩
structure Css(w:World)(g k:Frz)(h:Heap)(a:Addr)(v:Option V):Prop where
 gn:g a=none
 kn:k a=none
 at_:∃o x,h.get? a=some o∧o.data=.cell x∧CV w g v x
structure Tss(g k:Frz)(h:Heap)(a:Addr)(q:Str):Prop where
 gn:g a=none
 kn:k a=none
 at_:∃ps,h.get? a=some (tabObj ps)∧TriplesOk ps.toList∧∀pos cv,codeAmong pos ps.toList=some cv→∃c o vs t,cv=.ref c∧g c=some o∧o.data=.fields vs∧vs[1]? =some (.str q t)
structure St(w:World)(os₀:OsState)(L:Option Addr)(k g:Frz)(σ:Hp)(s:Shared):Prop where
 kp:Kp L k s.heap.get?
 lv:∀b,L=some b→(k b).isSome=true∧∃o,s.heap.get? b=some o
 fr:Le g s.heap.get?
 ls:∀a vs,σ.ls a=some vs→Lss w g k s.heap a vs
 ds:∀a fs,σ.ds a=some fs→Dss w (intKind PW w) g k s.heap a fs
 ss:∀a fs,σ.ss a=some fs→Dss w (strKind PW w) g k s.heap a fs
 is:∀a r,σ.is a=some r→Iss w g k s.heap a r
 cs:∀a v,σ.cs a=some v→Css w g k s.heap a v
 ts:∀a q,σ.ts a=some q→Tss g k s.heap a q
 sd:∀a fs,σ.ss a=some fs→σ.ds a=none
 id:∀a r,σ.is a=some r→σ.ds r.d=none∧σ.ss r.d=none∧∀b r',σ.is b=some r'→r'.d=r.d→b=a
 K:∀a o,(KK w.params).lookup a=some o→g a=some o
 nf:True
 kg:∀a o,k a=some o→g a=none
 m2:(k sysModules).isSome=true
 gens:s.gens= #[]
 os:s.os=os₀
section
variable{w:World}{os₀:OsState}{lv:Option Addr}{k k' g g':Frz}{σ σ':Hp}{s s':Shared}{h h':Heap}{a L:Addr}
theorem St.weaken(S:St w os₀ lv k g σ s)(q:σ'.Le σ):St w os₀ lv k g σ' s:=
 ⟨S.kp,S.lv,S.fr,fun a x e=>S.ls a x (q.ls _ _ e),fun a x e=>S.ds a x (q.ds _ _ e),fun a x e=>S.ss a x (q.ss _ _ e),fun a x e=>S.is a x (q.is _ _ e),fun a x e=>S.cs a x (q.cs _ _ e),fun a x e=>S.ts a x (q.ts _ _ e),
  fun a x e=>Zi q.ds (S.sd a x (q.ss _ _ e)),fun a r e=>have z:=S.id a r (q.is _ _ e);⟨Zi q.ds z.1,Zi q.ss z.2.1,fun b r' e'=>z.2.2 b r' (q.is _ _ e')⟩,S.K,S.nf,S.kg,S.m2,S.gens,S.os⟩
theorem St.m1(S:St w os₀ lv k g σ s):g sysModules=none:=by
 obtain⟨o,e⟩:=Option.isSome_iff_exists.mp S.m2
 exact S.kg _ _ e
theorem Lss.stay{vs:List V}(x:Lss w g k h a vs)(e:∀o,h.get? a=some o→h'.get? a=some o):Lss w g k h' a vs:=⟨x.gn,x.kn,x.at_.imp fun b h=>h.imp fun b h=>⟨e _ h.1,h.2⟩⟩
theorem Dss.stay{α:Type} [DecidableEq α]{knd:KeyKind PW w α}{fs:List (α×V)}(x:Dss w knd g k h a fs)(e:∀o,h.get? a=some o→h'.get? a=some o):Dss w knd g k h' a fs:=
 ⟨x.gn,x.kn,x.at_.imp fun b h=>⟨h.1.imp fun b h=>h.imp fun b h=>h.imp fun b h=>⟨e _ h.1,h.2⟩,h.2⟩⟩
theorem Iss.stay{r:Rec}(x:Iss w g k h a r)(e:∀o,h.get? a=some o→h'.get? a=some o)(e':∀o,h.get? r.d=some o→h'.get? r.d=some o):Iss w g k h' a r:=
 ⟨x.gn,x.kn,x.at_.imp fun b h=>⟨e _ h.1,h.2⟩,x.d.stay e'⟩
theorem Css.stay{v:Option V}(x:Css w g k h a v)(e:∀o,h.get? a=some o→h'.get? a=some o):Css w g k h' a v:=⟨x.gn,x.kn,x.at_.imp fun b h=>h.imp fun b h=>⟨e _ h.1,h.2⟩⟩
theorem Tss.stay{q:Str}(x:Tss g k h a q)(e:∀o,h.get? a=some o→h'.get? a=some o):Tss g k h' a q:=⟨x.gn,x.kn,x.at_.imp fun b h=>⟨e _ h.1,h.2⟩⟩
theorem Lss.more{vs:List V}(x:Lss w g k h a vs)(l:Le g g')(eg:g' a=none)(ek:k' a=none):Lss w g' k' h a vs:=⟨eg,ek,x.at_.imp fun b h=>h.imp fun b h=>⟨h.1,h.2.mono l⟩⟩
theorem Dss.more{α:Type} [DecidableEq α]{knd:KeyKind PW w α}{fs:List (α×V)}(x:Dss w knd g k h a fs)(l:Le g g')(eg:g' a=none)(ek:k' a=none):Dss w knd g' k' h a fs:=
 ⟨eg,ek,x.at_.imp fun b h=>⟨h.1,h.2.mono l⟩⟩
theorem Css.more{v:Option V}(x:Css w g k h a v)(l:Le g g')(eg:g' a=none)(ek:k' a=none):Css w g' k' h a v:=⟨eg,ek,x.at_.imp fun b h=>h.imp fun b h=>⟨h.1,h.2.1,h.2.2.mono l⟩⟩
theorem Tss.more{q:Str}(x:Tss g k h a q)(l:Le g g')(eg:g' a=none)(ek:k' a=none):Tss g' k' h a q:=
 ⟨eg,ek,x.at_.imp fun b h=>⟨h.1,h.2.1,fun pos cv e=>(h.2.2 pos cv e).imp fun b h=>h.imp fun b h=>h.imp fun b h=>h.imp fun b h=>⟨h.1,l _ _ h.2.1,h.2.2⟩⟩⟩
theorem Iss.more{r:Rec}(x:Iss w g k h a r)(l:Le g g')(eg:g' a=none)(ek:k' a=none)(dg:g' r.d=none)(dk:k' r.d=none):Iss w g' k' h a r:=
 ⟨eg,ek,x.at_,x.d.more l dg dk⟩
theorem Lss.cls{vs:List V}{o:Obj}(x:Lss w g k h a vs)(e:h.get? a=some o):o.cls=.type "list" :=by
 obtain⟨_,_,p,_⟩:=x.at_
 exact(congrArg Obj.cls (Option.some.inj (p.symm.trans e))).symm
theorem Dss.cls{α:Type} [DecidableEq α]{knd:KeyKind PW w α}{fs:List (α×V)}{o:Obj}(x:Dss w knd g k h a fs)(e:h.get? a=some o):o.cls=.type "dict" :=by
 obtain⟨_,⟨o',_,_,p,q,_⟩,_⟩:=x.at_
 exact(congrArg Obj.cls (Option.some.inj (e.symm.trans p))).trans q.1
theorem JH.cls{r:Rec}{o:Obj}(x:JH r o):o.cls=.ref r.C:=by
 unfold JH at x;split at x
 ·obtain⟨_,rfl⟩:=x;rfl
 ·rw[x]
theorem JH.dict{r:Rec}{o:Obj}(x:JH r o):o.dict=some r.d:=by
 unfold JH at x;split at x
 ·obtain⟨_,rfl⟩:=x;rfl
 ·rw[x]
theorem Iss.cls{r:Rec}{o:Obj}(x:Iss w g k h a r)(e:h.get? a=some o):o.cls=.ref r.C:=by
 obtain⟨_,p,q⟩:=x.at_
 exact(congrArg Obj.cls (Option.some.inj (e.symm.trans p))).trans q.cls
theorem Css.data{v:Option V}{o:Obj}(x:Css w g k h a v)(e:h.get? a=some o):∃y,o.data=.cell y:=by
 obtain⟨_,y,p,q,_⟩:=x.at_
 exact⟨y,(congrArg Obj.data (Option.some.inj (e.symm.trans p))).trans q⟩
theorem Tss.cls{q:Str}{o:Obj}(x:Tss g k h a q)(e:h.get? a=some o):o.cls=.none:=by
 obtain⟨_,p,_⟩:=x.at_
 exact congrArg Obj.cls (Option.some.inj (e.symm.trans p))
theorem Lss.nocell{vs:List V}{o:Obj}(x:Lss w g k h a vs)(e:h.get? a=some o):∀y,o.data≠.cell y:=by
 obtain⟨_,_,p,_⟩:=x.at_
 exact fun y z=>nomatch (congrArg Obj.data (Option.some.inj (p.symm.trans e))).trans z
theorem Dss.nocell{α:Type} [DecidableEq α]{knd:KeyKind PW w α}{fs:List (α×V)}{o:Obj}(x:Dss w knd g k h a fs)(e:h.get? a=some o):∀y,o.data≠.cell y:=by
 obtain⟨_,⟨o',_,_,p,_,q,_⟩,_⟩:=x.at_
 exact fun y z=>nomatch q.symm.trans ((congrArg Obj.data (Option.some.inj (p.symm.trans e))).trans z)
theorem JH.nocell{r:Rec}{o:Obj}(x:JH r o):∀y,o.data≠.cell y:=by
 unfold JH at x;split at x
 ·obtain⟨_,rfl⟩:=x;exact fun y q=>by cases q
 ·rw[x];exact fun y q=>by cases q
theorem Iss.nocell{r:Rec}{o:Obj}(x:Iss w g k h a r)(e:h.get? a=some o):∀y,o.data≠.cell y:=by
 obtain⟨_,p,q⟩:=x.at_
 exact Option.some.inj (p.symm.trans e)▸q.nocell
theorem Tss.nocell{q:Str}{o:Obj}(x:Tss g k h a q)(e:h.get? a=some o):∀y,o.data≠.cell y:=by
 obtain⟨_,p,_⟩:=x.at_
 exact fun y z=>nomatch (congrArg Obj.data (Option.some.inj (p.symm.trans e))).trans z
theorem Lss.there{vs:List V}(x:Lss w g k h a vs):∃o,h.get? a=some o:=x.at_.elim fun b h=>h.elim fun b h=>⟨_,h.1⟩
theorem Dss.there{α:Type} [DecidableEq α]{knd:KeyKind PW w α}{fs:List (α×V)}(x:Dss w knd g k h a fs):∃o,h.get? a=some o:=x.at_.elim fun b h=>h.1.imp fun b h=>h.elim fun b h=>h.elim fun b h=>h.1
theorem Iss.there{r:Rec}(x:Iss w g k h a r):∃o,h.get? a=some o:=x.at_.imp fun b h=>h.1
theorem Css.there{v:Option V}(x:Css w g k h a v):∃o,h.get? a=some o:=x.at_.imp fun b h=>h.elim fun b h=>h.1
theorem Tss.there{q:Str}(x:Tss g k h a q):∃o,h.get? a=some o:=x.at_.elim fun b h=>⟨_,h.1⟩
theorem St.keep(S:St w os₀ lv k g σ s)(e:∀b o,s.heap.get? b=some o→s'.heap.get? b=some o)(hg:s'.gens=s.gens)(ho:s'.os=s.os):St w os₀ lv k g σ s':=
 ⟨S.kp.le e,fun b q=>⟨(S.lv b q).1,(S.lv b q).2.imp fun q_ z=>e _ _ z⟩,fun b o q=>e _ _ (S.fr b o q),fun a x q=>(S.ls a x q).stay (e a),fun a x q=>(S.ds a x q).stay (e a),fun a x q=>(S.ss a x q).stay (e a),fun a x q=>(S.is a x q).stay (e a) (e x.d),
  fun a x q=>(S.cs a x q).stay (e a),fun a x q=>(S.ts a x q).stay (e a),S.sd,S.id,S.K,S.nf,S.kg,S.m2,hg.trans S.gens,ho.trans S.os⟩
theorem St.toks(S:St w os₀ lv k g σ s)(t:Nat):St w os₀ lv k g σ {s with toks:=t}:=S.keep (fun q_ q_ e=>e) rfl rfl
theorem St.push(S:St w os₀ lv k g σ s)(o:Obj):St w os₀ lv k g σ {s with heap:=s.heap.push o}:=S.keep (fun q_ q_ e=>Heap.get?_push_of_some _ e) rfl rfl
theorem JA{α:Type}{f:Addr→Option α}(h:Heap)(hf:∀a x,f a=some x→∃o,h.get? a=some o){a:Addr}(ha:h.objs.size≤a):f a=none:=by
 cases e:f a with
 |none=>rfl
 |some x=>obtain⟨o,p⟩:=hf a x e;exact absurd (Heap.lt_size p) (Nat.not_lt.mpr ha)
structure Fresh(k g:Frz)(σ:Hp)(a:Addr):Prop where
 kn:k a=none
 gn:g a=none
 ls:σ.ls a=none
 ds:σ.ds a=none
 ss:σ.ss a=none
 is:σ.is a=none
 cs:σ.cs a=none
 ts:σ.ts a=none
 d:∀b r,σ.is b=some r→r.d≠a
theorem St.fresh(S:St w os₀ lv k g σ s){a:Addr}(ha:s.heap.objs.size≤a):Fresh k g σ a where
 kn:=JA s.heap (fun a x e=>by
  by_cases z:lv=some a
  ·exact(S.lv a z).2
  ·obtain⟨_,q,_⟩:=S.kp a x z e;exact⟨_,q⟩) ha
 gn:=JA s.heap (fun a x e=>⟨_,S.fr a x e⟩) ha
 ls:=JA s.heap (fun a x e=>(S.ls a x e).there) ha
 ds:=JA s.heap (fun a x e=>(S.ds a x e).there) ha
 ss:=JA s.heap (fun a x e=>(S.ss a x e).there) ha
 is:=JA s.heap (fun a x e=>(S.is a x e).there) ha
 cs:=JA s.heap (fun a x e=>(S.cs a x e).there) ha
 ts:=JA s.heap (fun a x e=>(S.ts a x e).there) ha
 d:=fun b r e q=>by
  obtain⟨o,p⟩:=(S.is b r e).d.there
  rw[q]at p
  exact absurd (Heap.lt_size p) (Nat.not_lt.mpr ha)
end
section
variable{w:World}{g:Frz}{x:Value}
theorem VR.noneI(h:VR w g .none x):x=.none:=h.inv
theorem VR.boolI{b:Bool}(h:VR w g (.bool b) x):x=.bool b:=h.inv
theorem VR.intI{i:Int}(h:VR w g (.int i) x):∃t,x=.int i t:=h.inv
theorem VR.strI{i:Str}(h:VR w g (.str i) x):∃t,x=.str i t:=h.inv
theorem VR.refI{a:Addr}(h:VR w g (.ref a) x):x=.ref a:=h.inv
theorem VR.biI{v:Value}(h:VR w g (.bi v) x):x=v:=h.inv
end
end
section
section
variable{w:World}{os₀:OsState}{lv:Option Addr}{k k' g g':Frz}{σ σ':Hp}{s s':Shared}{h h':Heap}{a L:Addr}
theorem XE{o o':Obj}(e:h.get? a=some o)(e':h.get? L=some o')(n:o.cls≠o'.cls):a≠L:=fun q=>by
 subst q;rw[e]at e';cases e';exact n rfl
noncomputable abbrev But(L:Addr)(h h':Heap):Prop:=∀b o,b≠L→h.get? b=some o→h'.get? b=some o
theorem St.kdown(S:St w os₀ lv k g σ s)(y:Le k' k)(m:(k' sysModules).isSome=true)(ml:∀b,lv=some b→(k' b).isSome=true):St w os₀ lv k' g σ s:=by
 have dn:∀{b},k b=none→k' b=none:=fun {b} e=>Zi y e
 exact⟨S.kp.down y,fun b q=>⟨ml b q,(S.lv b q).2⟩,S.fr,fun a x q=>(S.ls a x q).more (Le.refl g) (S.ls a x q).gn (dn (S.ls a x q).kn),fun a x q=>(S.ds a x q).more (Le.refl g) (S.ds a x q).gn (dn (S.ds a x q).kn),
  fun a x q=>(S.ss a x q).more (Le.refl g) (S.ss a x q).gn (dn (S.ss a x q).kn),fun a x q=>(S.is a x q).more (Le.refl g) (S.is a x q).gn (dn (S.is a x q).kn) (S.is a x q).d.gn (dn (S.is a x q).d.kn),
  fun a x q=>(S.cs a x q).more (Le.refl g) (S.cs a x q).gn (dn (S.cs a x q).kn),fun a x q=>(S.ts a x q).more (Le.refl g) (S.ts a x q).gn (dn (S.ts a x q).kn),S.sd,S.id,S.K,S.nf,(fun a o e=>S.kg a o (y _ _ e)),m,S.gens,S.os⟩
structure Free(σ:Hp)(a:Addr):Prop where
 ls:σ.ls a=none
 ds:σ.ds a=none
 ss:σ.ss a=none
 is:σ.is a=none
 cs:σ.cs a=none
 ts:σ.ts a=none
 d:∀b r,σ.is b=some r→r.d≠a
theorem Fresh.free(F:Fresh k g σ a):Free σ a:=⟨F.ls,F.ds,F.ss,F.is,F.cs,F.ts,F.d⟩
noncomputable def put(f:Frz)(a:Addr)(o:Obj):Frz:=fun b=>if b=a then some o else f b
@[simp] theorem put_self (f:Frz) (a:Addr) (o:Obj):put f a o a=some o:=if_pos rfl
theorem Ye(f:Frz){a b:Addr}(o:Obj)(n:b≠a):put f a o b=f b:=if_neg n
set_option tactic.hygienic true in
theorem Js{f:Frz}{o:Obj}(e:f a=none∨f a=some o):Le f (put f a o):=fun b x q=>by
 unfold put;split
 ·rename_i z;subst z;rcases e with e|e<;>rw[e]at q<;>cases q;rfl
 ·exact q
theorem Free.ne{α:Type}{f:Addr→Option α}(e:f a=none){b:Addr}{x:α}(q:f b=some x):b≠a:=fun z=>by subst z;rw[e]at q;cases q
theorem QI(S:St w os₀ lv k g σ s)(hk:k a=none):a≠sysModules:=fun q=>by have:=S.m2;rw[←q,hk]at this;cases this
set_option tactic.hygienic true in
theorem St.hide(S:St w os₀ lv k g σ s)(F:Free σ a){o:Obj}(e:s.heap.get? a=some o)(hk:k a=none)(hg:g a=none):St w os₀ lv (put k a o) g σ s:=by
 have dn:∀{b},b≠a→k b=none→put k a o b=none:=fun {b} n e=>by rw[Ye _ _ n];exact e
 refine⟨fun b x n q=>?_,fun b q=>⟨?_,(S.lv b q).2⟩,S.fr,fun a x q=>(S.ls a x q).more (Le.refl g) (S.ls a x q).gn (dn (Free.ne F.ls q) (S.ls a x q).kn),fun a x q=>(S.ds a x q).more (Le.refl g) (S.ds a x q).gn (dn (Free.ne F.ds q) (S.ds a x q).kn),
  fun a x q=>(S.ss a x q).more (Le.refl g) (S.ss a x q).gn (dn (Free.ne F.ss q) (S.ss a x q).kn),fun a x q=>(S.is a x q).more (Le.refl g) (S.is a x q).gn (dn (Free.ne F.is q) (S.is a x q).kn) (S.is a x q).d.gn (dn (F.d a x q) (S.is a x q).d.kn),
  fun a x q=>(S.cs a x q).more (Le.refl g) (S.cs a x q).gn (dn (Free.ne F.cs q) (S.cs a x q).kn),fun a x q=>(S.ts a x q).more (Le.refl g) (S.ts a x q).gn (dn (Free.ne F.ts q) (S.ts a x q).kn),S.sd,S.id,S.K,S.nf,?_,?_,S.gens,S.os⟩
 rotate_left
 ·have:b≠a:=fun z=>by have:=(S.lv b q).1;rw[z,hk]at this;cases this
  rw[Ye _ _ this];exact(S.lv b q).1
 ·intro b x q;unfold put at q;split at q
  ·rename_i z;subst z;exact hg
  ·exact S.kg b x q
 ·rw[Ye _ _ (Ne.symm (QI S hk))];exact S.m2
 unfold put at q;split at q
 ·rename_i z;subst z;cases q;exact⟨o.slots,e,fun q_=>rfl⟩
 ·exact S.kp b x n q
set_option tactic.hygienic true in
theorem St.freezeAny(S:St w os₀ lv k g σ s)(F:Free σ a)(hk:k a=none){o:Obj}(e:s.heap.get? a=some o):St w os₀ lv k (put g a o) σ s∧Le g (put g a o):=by
 have l:Le g (put g a o):=Js (by
  cases q:g a with
  |none=>exact .inl rfl
  |some x=>have:=S.fr _ _ q;rw[e]at this;cases this;exact .inr rfl)
 have dn:∀{b},b≠a→g b=none→put g a o b=none:=fun {b} n e=>by rw[Ye _ _ n];exact e
 refine⟨⟨S.kp,S.lv,fun b x q=>?_,fun a x q=>(S.ls a x q).more l (dn (Free.ne F.ls q) (S.ls a x q).gn) (S.ls a x q).kn,fun a x q=>(S.ds a x q).more l (dn (Free.ne F.ds q) (S.ds a x q).gn) (S.ds a x q).kn,
  fun a x q=>(S.ss a x q).more l (dn (Free.ne F.ss q) (S.ss a x q).gn) (S.ss a x q).kn,fun a x q=>(S.is a x q).more l (dn (Free.ne F.is q) (S.is a x q).gn) (S.is a x q).kn (dn (F.d a x q) (S.is a x q).d.gn) (S.is a x q).d.kn,
  fun a x q=>(S.cs a x q).more l (dn (Free.ne F.cs q) (S.cs a x q).gn) (S.cs a x q).kn,fun a x q=>(S.ts a x q).more l (dn (Free.ne F.ts q) (S.ts a x q).gn) (S.ts a x q).kn,S.sd,S.id,fun b x q=>l _ _ (S.K b x q),trivial,fun b x q=>dn (fun z=>by rw[z,hk]at q;cases q) (S.kg b x q),S.m2,S.gens,S.os⟩,l⟩
 ·unfold put at q;split at q
  ·rename_i z;subst z;cases q;exact e
  ·exact S.fr b x q
theorem St.freeze(S:St w os₀ lv k g σ s)(F:Free σ a)(hk:k a=none){o:Obj}(e:s.heap.get? a=some o)(_:o.cls≠.type "frame"):St w os₀ lv k (put g a o) σ s∧Le g (put g a o):=S.freezeAny F hk e
theorem St.other(S:St w os₀ lv k g σ s)(F:Free σ L)(hk:k L=none)(hg:g L=none)(e:But L s.heap s'.heap)(hgen:s'.gens=s.gens)(hos:s'.os=s.os):St w os₀ lv k g σ s':=by
 have st:∀{b},b≠L→∀o,s.heap.get? b=some o→s'.heap.get? b=some o:=fun n o q=>e _ _ n q
 refine⟨fun b x n q=>?_,fun b q=>⟨(S.lv b q).1,let⟨o,z⟩:=(S.lv b q).2;⟨o,e b o (fun z=>by have:=(S.lv b q).1;rw[z,hk]at this;cases this) z⟩⟩,fun b x q=>e b x (Free.ne hg q) (S.fr b x q),fun a x q=>(S.ls a x q).stay (st (Free.ne F.ls q)),fun a x q=>(S.ds a x q).stay (st (Free.ne F.ds q)),fun a x q=>(S.ss a x q).stay (st (Free.ne F.ss q)),
  fun a x q=>(S.is a x q).stay (st (Free.ne F.is q)) (st (F.d a x q)),fun a x q=>(S.cs a x q).stay (st (Free.ne F.cs q)),fun a x q=>(S.ts a x q).stay (st (Free.ne F.ts q)),S.sd,S.id,S.K,S.nf,S.kg,S.m2,hgen.trans S.gens,hos.trans S.os⟩
 obtain⟨sl,z,y⟩:=S.kp b x n q
 exact⟨sl,e _ _ (Free.ne hk q) z,y⟩
theorem St.live(S:St w os₀ (some L) k g σ s)(e:But L s.heap s'.heap)(t:∃o,s'.heap.get? L=some o)(hgen:s'.gens=s.gens)(hos:s'.os=s.os):St w os₀ (some L) k g σ s':=by
 have kl:=(S.lv L rfl).1
 have ne:∀{b},k b=none→b≠L:=fun {b} q z=>by rw[←z,q]at kl;cases kl
 have st:∀{b},b≠L→∀o,s.heap.get? b=some o→s'.heap.get? b=some o:=fun n o q=>e _ _ n q
 have gl:g L=none:=by obtain⟨o,q⟩:=Option.isSome_iff_exists.mp kl;exact S.kg _ _ q
 refine⟨fun b x n q=>?_,fun b q=>⟨(S.lv b q).1,by cases q;exact t⟩,fun b x q=>e b x (fun z=>by rw[z,gl]at q;cases q) (S.fr b x q),fun a x q=>(S.ls a x q).stay (st (ne (S.ls a x q).kn)),fun a x q=>(S.ds a x q).stay (st (ne (S.ds a x q).kn)),fun a x q=>(S.ss a x q).stay (st (ne (S.ss a x q).kn)),
  fun a x q=>(S.is a x q).stay (st (ne (S.is a x q).kn)) (st (ne (S.is a x q).d.kn)),fun a x q=>(S.cs a x q).stay (st (ne (S.cs a x q).kn)),fun a x q=>(S.ts a x q).stay (st (ne (S.ts a x q).kn)),S.sd,S.id,S.K,S.nf,S.kg,S.m2,hgen.trans S.gens,hos.trans S.os⟩
 obtain⟨sl,z,y⟩:=S.kp b x n q
 exact⟨sl,e _ _ (fun w=>n (by rw[w])) z,y⟩
theorem Yz{f:Frz}{o:Obj}{a b:Addr}(e:f b=none)(n:b≠a):put f a o b=none:=(Ye _ _ n).trans e
set_option tactic.hygienic true in
theorem St.seal(S:St w os₀ (some L) k g σ s){o:Obj}(e:s.heap.get? L=some o):St w os₀ none (put k L o) g σ s:=by
 have kl:=(S.lv L rfl).1
 have dn:∀{b},k b=none→put k L o b=none:=fun {b} q=>Yz q fun z=>by rw[←z,q]at kl;cases kl
 have gl:g L=none:=by obtain⟨o,q⟩:=Option.isSome_iff_exists.mp kl;exact S.kg _ _ q
 refine⟨fun b x n q=>?_,(fun b q=>nomatch q),S.fr,fun a x q=>(S.ls a x q).more (Le.refl g) (S.ls a x q).gn (dn (S.ls a x q).kn),fun a x q=>(S.ds a x q).more (Le.refl g) (S.ds a x q).gn (dn (S.ds a x q).kn),
  fun a x q=>(S.ss a x q).more (Le.refl g) (S.ss a x q).gn (dn (S.ss a x q).kn),fun a x q=>(S.is a x q).more (Le.refl g) (S.is a x q).gn (dn (S.is a x q).kn) (S.is a x q).d.gn (dn (S.is a x q).d.kn),
  fun a x q=>(S.cs a x q).more (Le.refl g) (S.cs a x q).gn (dn (S.cs a x q).kn),fun a x q=>(S.ts a x q).more (Le.refl g) (S.ts a x q).gn (dn (S.ts a x q).kn),S.sd,S.id,S.K,S.nf,fun b x q=>?_,?_,S.gens,S.os⟩
 ·unfold put at q;split at q
  ·rename_i z;subst z;cases q;exact⟨o.slots,e,fun q_=>rfl⟩
  ·rename_i z;exact S.kp b x (fun y=>z (Option.some.inj y).symm) q
 ·unfold put at q;split at q
  ·rename_i z;subst z;exact gl
  ·exact S.kg b x q
 ·unfold put;split
  ·rfl
  ·exact S.m2
theorem St.unseal{o:Obj}(S:St w os₀ none (put k L o) g σ s)(hk:(k L).isSome=true)(hm:(k sysModules).isSome=true):St w os₀ (some L) k g σ s:=by
 have up:∀{b},put k L o b=none→k b=none:=fun {b} q=>by
  by_cases z:b=L
  ·rw[z,put_self]at q;cases q
  ·rwa [Ye _ _ z]at q
 refine⟨fun b x n q=>S.kp b x (by simp) (by rw[Ye _ _ (fun z=>n (by rw[z]))];exact q),(fun b q=>by cases q;exact⟨hk,let⟨_,z,_⟩:=S.kp L o (by simp) (put_self ..);⟨_,z⟩⟩),S.fr,fun a x q=>(S.ls a x q).more (Le.refl g) (S.ls a x q).gn (up (S.ls a x q).kn),fun a x q=>(S.ds a x q).more (Le.refl g) (S.ds a x q).gn (up (S.ds a x q).kn),
  fun a x q=>(S.ss a x q).more (Le.refl g) (S.ss a x q).gn (up (S.ss a x q).kn),fun a x q=>(S.is a x q).more (Le.refl g) (S.is a x q).gn (up (S.is a x q).kn) (S.is a x q).d.gn (up (S.is a x q).d.kn),
  fun a x q=>(S.cs a x q).more (Le.refl g) (S.cs a x q).gn (up (S.cs a x q).kn),fun a x q=>(S.ts a x q).more (Le.refl g) (S.ts a x q).gn (up (S.ts a x q).kn),S.sd,S.id,S.K,S.nf,fun b x q=>?_,hm,S.gens,S.os⟩
 by_cases z:b=L
 ·rw[z];exact S.kg L o (put_self ..)
 ·exact S.kg b x (by rw[Ye _ _ z];exact q)
set_option tactic.hygienic true in
theorem YR{α:Type}{f:Addr→Option α}{a b:Addr}{x y:α}(e:up f a (some x) b=some y):(b=a∧x=y)∨(b≠a∧f b=some y):=by
 unfold up at e;split at e
 ·rename_i z;exact .inl ⟨z,Option.some.inj e⟩
 ·rename_i z;exact .inr ⟨z,e⟩
theorem St.addL(S:St w os₀ lv k g σ s){vs:List V}(x:Lss w g k s.heap a vs):St w os₀ lv k g {σ with ls:=up σ.ls a (some vs)} s:=
 {S with ls:=fun b y q=>(YR q).elim (fun z=>by obtain⟨rfl,rfl⟩:=z;exact x) (fun z=>S.ls b y z.2)}
theorem St.addC(S:St w os₀ lv k g σ s){v:Option V}(x:Css w g k s.heap a v):St w os₀ lv k g {σ with cs:=up σ.cs a (some v)} s:=
 {S with cs:=fun b y q=>(YR q).elim (fun z=>by obtain⟨rfl,rfl⟩:=z;exact x) (fun z=>S.cs b y z.2)}
theorem St.addT(S:St w os₀ lv k g σ s){q':Str}(x:Tss g k s.heap a q'):St w os₀ lv k g {σ with ts:=up σ.ts a (some q')} s:=
 {S with ts:=fun b y q=>(YR q).elim (fun z=>by obtain⟨rfl,rfl⟩:=z;exact x) (fun z=>S.ts b y z.2)}
theorem St.addD(S:St w os₀ lv k g σ s){fs:List (Int×V)}(x:Dss w (intKind PW w) g k s.heap a fs)(n1:σ.ss a=none)(n2:∀b r,σ.is b=some r→r.d≠a):St w os₀ lv k g {σ with ds:=up σ.ds a (some fs)} s:=
 {S with
  ds:=fun b y q=>(YR q).elim (fun z=>by obtain⟨rfl,rfl⟩:=z;exact x) (fun z=>S.ds b y z.2)
  sd:=fun b y q=>(Ze _ _ (Free.ne n1 q)).trans (S.sd b y q)
  id:=fun b r q=>let⟨x1,x2,x3⟩:=S.id b r q;⟨(Ze _ _ (n2 b r q)).trans x1,x2,x3⟩}
theorem St.addS(S:St w os₀ lv k g σ s){fs:List (Str×V)}(x:Dss w (strKind PW w) g k s.heap a fs)(n1:σ.ds a=none)(n2:∀b r,σ.is b=some r→r.d≠a):St w os₀ lv k g {σ with ss:=up σ.ss a (some fs)} s:=
 {S with
  ss:=fun b y q=>(YR q).elim (fun z=>by obtain⟨rfl,rfl⟩:=z;exact x) (fun z=>S.ss b y z.2)
  sd:=fun b y q=>(YR q).elim (fun z=>by obtain⟨rfl,rfl⟩:=z;exact n1) (fun z=>S.sd b y z.2)
  id:=fun b r q=>let⟨x1,x2,x3⟩:=S.id b r q;⟨x1,(Ze _ _ (n2 b r q)).trans x2,x3⟩}
theorem St.addI(S:St w os₀ lv k g σ s){r:Rec}(x:Iss w g k s.heap a r)(n1:σ.ds r.d=none)(n2:σ.ss r.d=none)(n3:∀b r',b≠a→σ.is b=some r'→r'.d≠r.d):St w os₀ lv k g {σ with is:=up σ.is a (some r)} s:=
 {S with
  is:=fun b y q=>(YR q).elim (fun z=>by obtain⟨rfl,rfl⟩:=z;exact x) (fun z=>S.is b y z.2)
  id:=fun b r' q=>(YR q).elim
   (fun z=>by
    obtain⟨rfl,rfl⟩:=z
    exact⟨n1,n2,fun c r' q e=>(YR q).elim (fun z=>z.1) (fun z=>absurd e (n3 c r' z.1 z.2))⟩)
   (fun z=>let⟨x1,x2,x3⟩:=S.id b r' z.2
    ⟨x1,x2,fun c r'' q' e=>(YR q').elim (fun y=>absurd (by rw[y.2];exact e.symm) (n3 b r' z.1 z.2)) (fun y=>x3 c r'' y.2 e)⟩)}
theorem Qk{α:Type}{f:Addr→Option α}{a b:Addr}{x:α}(e:up f a none b=some x):f b=some x:=by
 simp only[up]at e;split at e
 ·cases e
 ·exact e
noncomputable def Hp.dropL(σ:Hp)(a:Addr):Hp:={σ with ls:=up σ.ls a none}
noncomputable def Hp.dropD(σ:Hp)(a:Addr):Hp:={σ with ds:=up σ.ds a none}
noncomputable def Hp.dropS(σ:Hp)(a:Addr):Hp:={σ with ss:=up σ.ss a none}
noncomputable def Hp.dropI(σ:Hp)(a:Addr):Hp:={σ with is:=up σ.is a none}
theorem Hp.dropL_le(σ:Hp)(a:Addr):(σ.dropL a).Le σ:={Hp.Le.refl σ with ls:=fun q_ q_ e=>Qk e}
theorem Hp.dropD_le(σ:Hp)(a:Addr):(σ.dropD a).Le σ:={Hp.Le.refl σ with ds:=fun q_ q_ e=>Qk e}
theorem Hp.dropS_le(σ:Hp)(a:Addr):(σ.dropS a).Le σ:={Hp.Le.refl σ with ss:=fun q_ q_ e=>Qk e}
theorem Hp.dropI_le(σ:Hp)(a:Addr):(σ.dropI a).Le σ:={Hp.Le.refl σ with is:=fun q_ q_ e=>Qk e}
theorem Yi{α:Type}{f:Addr→Option α}(hf:∀x,f a=some x→False):f a=none:=by
 cases e:f a with
 |none=>rfl
 |some x=>exact(hf x e).elim
theorem St.free_of(S:St w os₀ lv k g σ s){o:Obj}(e:s.heap.get? a=some o)(nl:o.cls=.type "list" →σ.ls a=none)(nd:o.cls=.type "dict" →σ.ds a=none∧σ.ss a=none∧∀b r,σ.is b=some r→r.d≠a)
  (ni:∀C,o.cls=.ref C→σ.is a=none) (nc:∀x,o.data=.cell x→σ.cs a=none) (nt:o.cls=.none→σ.ts a=none):Free σ a:=by
 refine⟨Yi fun x q=>?_,Yi fun x q=>?_,Yi fun x q=>?_,Yi fun x q=>?_,Yi fun x q=>?_,Yi fun x q=>?_,fun b r q z=>?_⟩
 ·have:=nl ((S.ls a x q).cls e);rw[q]at this;cases this
 ·have:=(nd ((S.ds a x q).cls e)).1;rw[q]at this;cases this
 ·have:=(nd ((S.ss a x q).cls e)).2.1;rw[q]at this;cases this
 ·have:=ni _ ((S.is a x q).cls e);rw[q]at this;cases this
 ·obtain⟨y,z⟩:=(S.cs a x q).data e;have:=nc y z;rw[q]at this;cases this
 ·have:=nt ((S.ts a x q).cls e);rw[q]at this;cases this
 ·subst z;exact(nd ((S.is b r q).d.cls e)).2.2 b r q rfl
theorem St.freeL(S:St w os₀ lv k g σ s){vs:List V}(e:σ.ls a=some vs):Free (σ.dropL a) a:=by
 obtain⟨o,p⟩:=(S.ls a vs e).there
 have hc:=(S.ls a vs e).cls p
 exact(S.weaken (σ.dropL_le a)).free_of p (fun q_=>up_self ..) (fun q=>by rw[hc]at q;simp at q) (fun C q=>by rw[hc]at q;simp at q) (fun y q=>((S.ls a vs e).nocell p y q).elim) (fun q=>by rw[hc]at q;simp at q)
theorem St.freeD(S:St w os₀ lv k g σ s){fs:List (Int×V)}(e:σ.ds a=some fs):Free (σ.dropD a) a:=by
 obtain⟨o,p⟩:=(S.ds a fs e).there
 have hc:=(S.ds a fs e).cls p
 refine(S.weaken (σ.dropD_le a)).free_of p (fun q=>by rw[hc]at q;simp at q) (fun q_=>⟨up_self ..,Yi fun x q=>?_,fun b r q z=>?_⟩) (fun C q=>by rw[hc]at q;simp at q) (fun y q=>((S.ds a fs e).nocell p y q).elim) (fun q=>by rw[hc]at q;simp at q)
 ·have:=S.sd a x q;rw[e]at this;cases this
 ·have:=(S.id b r q).1;rw[z,e]at this;cases this
theorem St.freeS(S:St w os₀ lv k g σ s){fs:List (Str×V)}(e:σ.ss a=some fs):Free (σ.dropS a) a:=by
 obtain⟨o,p⟩:=(S.ss a fs e).there
 have hc:=(S.ss a fs e).cls p
 refine(S.weaken (σ.dropS_le a)).free_of p (fun q=>by rw[hc]at q;simp at q) (fun q_=>⟨S.sd a fs e,up_self ..,fun b r q z=>?_⟩) (fun C q=>by rw[hc]at q;simp at q) (fun y q=>((S.ss a fs e).nocell p y q).elim) (fun q=>by rw[hc]at q;simp at q)
 have:=(S.id b r q).2.1;rw[z,e]at this;cases this
set_option tactic.hygienic true in
theorem St.freeI(S:St w os₀ lv k g σ s){r:Rec}(e:σ.is a=some r):Free (σ.dropI a) a∧Free (σ.dropI a) r.d:=by
 have I:=S.is a r e
 obtain⟨o,p,ro⟩:=I.at_
 obtain⟨od,pd⟩:=I.d.there
 have hc:=ro.cls
 have hd:=I.d.cls pd
 have S':=S.weaken (σ.dropI_le a)
 obtain⟨i1,i2,i3⟩:=S.id a r e
 refine⟨S'.free_of p (fun q=>by rw[hc]at q;simp at q) (fun q=>by rw[hc]at q;simp at q) (fun q_ q_=>up_self ..) (fun y q=>(ro.nocell y q).elim) (fun q=>by rw[hc]at q;simp at q),
  S'.free_of pd (fun q=>by rw[hd]at q;simp at q) (fun q_=>⟨i1,i2,fun b r' q z=>?_⟩) (fun C q=>by rw[hd]at q;simp at q) (fun y q=>(I.d.nocell pd y q).elim) (fun q=>by rw[hd]at q;simp at q)⟩
 simp only[Hp.dropI,up]at q
 split at q
 ·cases q
 ·rename_i n;exact n (i3 b r' q z)
theorem St.setL(S:St w os₀ lv k g σ s){vs vs':List V}(e:σ.ls L=some vs)(b:But L s.heap s'.heap){Vs:List Value}{n:Nat}(p:s'.heap.get? L=some (Zu Vs n))(r:VRs w g vs' Vs)(hgen:s'.gens=s.gens)(hos:s'.os=s.os):
  St w os₀ lv k g {σ with ls:=up σ.ls L (some vs')} s':=by
 have x:=S.ls L vs e
 have S1:=(S.weaken (σ.dropL_le L)).other (S.freeL e) x.kn x.gn b hgen hos
 have:=S1.addL (a:=L) (vs:=vs') ⟨x.gn,x.kn,Vs,n,p,r⟩
 simpa [Hp.dropL,ZQ]using this
theorem St.setD(S:St w os₀ lv k g σ s){vs vs':List (Int×V)}(e:σ.ds L=some vs)(b:But L s.heap s'.heap){kvs:List (Int×Value)}(p:s'.heap.DictOf (intKind PW w) L kvs)(r:PR w g vs' kvs)(hgen:s'.gens=s.gens)(hos:s'.os=s.os):
  St w os₀ lv k g {σ with ds:=up σ.ds L (some vs')} s':=by
 have x:=S.ds L vs e
 have F:=S.freeD e
 have S1:=(S.weaken (σ.dropD_le L)).other F x.kn x.gn b hgen hos
 have:=S1.addD (a:=L) (fs:=vs') ⟨x.gn,x.kn,kvs,p,r⟩ F.ss F.d
 simpa [Hp.dropD,ZQ]using this
theorem St.setS(S:St w os₀ lv k g σ s){vs vs':List (Str×V)}(e:σ.ss L=some vs)(b:But L s.heap s'.heap){kvs:List (Str×Value)}(p:s'.heap.DictOf (strKind PW w) L kvs)(r:PR w g vs' kvs)(hgen:s'.gens=s.gens)(hos:s'.os=s.os):
  St w os₀ lv k g {σ with ss:=up σ.ss L (some vs')} s':=by
 have x:=S.ss L vs e
 have F:=S.freeS e
 have S1:=(S.weaken (σ.dropS_le L)).other F x.kn x.gn b hgen hos
 have:=S1.addS (a:=L) (fs:=vs') ⟨x.gn,x.kn,kvs,p,r⟩ F.ds F.d
 simpa [Hp.dropS,ZQ]using this
theorem St.setI(S:St w os₀ lv k g σ s){r:Rec}{fs':List (Str×V)}(e:σ.is a=some r)(b:But r.d s.heap s'.heap){kvs:List (Str×Value)}(p:s'.heap.DictOf (strKind PW w) r.d kvs)(q:PR w g fs' kvs)(hgen:s'.gens=s.gens)(hos:s'.os=s.os):
  St w os₀ lv k g {σ with is:=up σ.is a (some {r with fs:=fs'})} s':=by
 have x:=S.is a r e
 obtain⟨F,Fd⟩:=S.freeI e
 have S1:=(S.weaken (σ.dropI_le a)).other Fd x.d.kn x.d.gn b hgen hos
 obtain⟨o,po,ro⟩:=x.at_
 obtain⟨od,pd⟩:=x.d.there
 have ne:a≠r.d:=XE po pd (by rw[ro.cls,x.d.cls pd];simp)
 have:=S1.addI (a:=a) (r:={r with fs:=fs'}) ⟨x.gn,x.kn,⟨o,b _ _ ne po,ro⟩,⟨x.d.gn,x.d.kn,kvs,p,q⟩⟩ Fd.ds Fd.ss (fun b r' nb q=>Fd.d b r' q)
 simpa [Hp.dropI,ZQ]using this
theorem St.free_cell(S:St w os₀ lv k g σ s){o:Obj}{y:Option Value}(e:s.heap.get? a=some o)(hd:o.data=.cell y)(n:σ.cs a=none):Free σ a:=
 ⟨Yi fun x q=>(S.ls a x q).nocell e _ hd,Yi fun x q=>(S.ds a x q).nocell e _ hd,Yi fun x q=>(S.ss a x q).nocell e _ hd,Yi fun x q=>(S.is a x q).nocell e _ hd,n,Yi fun x q=>(S.ts a x q).nocell e _ hd,
  fun b r q z=>by subst z;exact(S.is b r q).d.nocell e _ hd⟩
theorem St.setC(S:St w os₀ lv k g σ s){v v':Option V}(e:σ.cs L=some v)(b:But L s.heap s'.heap){o:Obj}{x:Option Value}(p:s'.heap.get? L=some o)(hd:o.data=.cell x)(r:CV w g v' x)(hgen:s'.gens=s.gens)(hos:s'.os=s.os):
  St w os₀ lv k g {σ with cs:=up σ.cs L (some v')} s':=by
 have y:=S.cs L v e
 obtain⟨o,z,po,hz,_⟩:=y.at_
 have le:({σ with cs:=up σ.cs L none}:Hp).Le σ:={Hp.Le.refl σ with cs:=fun q_ q_ e=>Qk e}
 have F:Free ({σ with cs:=up σ.cs L none}:Hp) L:=(S.weaken le).free_cell po hz (up_self ..)
 have S1:=(S.weaken le).other F y.kn y.gn b hgen hos
 have:=S1.addC (a:=L) (v:=v') ⟨y.gn,y.kn,_,x,p,hd,r⟩
 simpa [ZQ]using this
theorem St.newL(S:St w os₀ lv k g σ s){vs:List V}{Vs:List Value}{n:Nat}(r:VRs w g vs Vs):
  St w os₀ lv k g {σ with ls:=up σ.ls s.heap.objs.size (some vs)} {s with heap:=s.heap.push (Zu Vs n)}:=
 let F:=S.fresh (Nat.le_refl _)
 (S.push _).addL ⟨F.gn,F.kn,Vs,n,Heap.get?_push_size _ rfl,r⟩
theorem St.newTup(S:St w os₀ lv k g σ s){vs:List V}{Vs:List Value}(r:VRs w g vs Vs):
  St w os₀ lv k (put g s.heap.objs.size (Qa Vs)) σ {s with heap:=s.heap.push (Qa Vs)}∧Le g (put g s.heap.objs.size (Qa Vs))∧VR w (put g s.heap.objs.size (Qa Vs)) (.tup vs) (.ref s.heap.objs.size):=by
 have F:=S.fresh (Nat.le_refl _)
 obtain⟨S1,l⟩:=(S.push (Qa Vs)).freeze F.free F.kn (Heap.get?_push_size _ rfl) (by simp)
 exact⟨S1,l,.tup _ _ _ (put_self ..) (r.mono l)⟩
theorem St.fixL(S:St w os₀ lv k g σ s){vs:List V}(e:σ.ls a=some vs):∃g',St w os₀ lv k g' (σ.dropL a) s∧Le g g'∧VR w g' (.lst vs) (.ref a):=by
 obtain⟨Vs,n,p,r⟩:=(S.ls a vs e).at_
 obtain⟨S1,l⟩:=(S.weaken (σ.dropL_le a)).freeze (S.freeL e) (S.ls a vs e).kn p (by simp)
 exact⟨_,S1,l,.lst _ _ _ n (put_self ..) (r.mono l)⟩
theorem St.fixD(S:St w os₀ lv k g σ s){vs:List (Int×V)}(e:σ.ds a=some vs):∃g',St w os₀ lv k g' (σ.dropD a) s∧Le g g'∧VR w g' (.idict vs) (.ref a):=by
 obtain⟨kvs,p,r⟩:=(S.ds a vs e).at_
 obtain⟨o,po,D⟩:=YQ p
 obtain⟨S1,l⟩:=(S.weaken (σ.dropD_le a)).freeze (S.freeD e) (S.ds a vs e).kn po (by rw[D.cls];simp)
 exact⟨_,S1,l,.idict _ _ _ _ (put_self ..) D r.1 (r.2.mono l)⟩
theorem St.fixI(S:St w os₀ lv k g σ s){r:Rec}(e:σ.is a=some r)(hx:r.x=false):∃g',St w os₀ lv k g' (σ.dropI a) s∧Le g g'∧VR w g' (.obj r.C r.fs) (.ref a):=by
 have I:=S.is a r e
 obtain⟨o,p,ro⟩:=I.at_
 obtain⟨kvs,pd,q⟩:=I.d.at_
 obtain⟨od,pod,D⟩:=YQ pd
 obtain⟨F,Fd⟩:=S.freeI e
 have ro':o=instObj r.C r.d:=by unfold JH at ro;rw[hx]at ro;exact ro
 subst ro'
 obtain⟨S1,l1⟩:=(S.weaken (σ.dropI_le a)).freeze F I.kn p (by simp)
 obtain⟨S2,l2⟩:=S1.freeze Fd I.d.kn pod (by rw[D.cls];simp)
 exact⟨_,S2,l1.trans l2,.obj _ _ _ _ _ _ (l2 _ _ (put_self ..)) (put_self ..) D q.1 (q.2.mono (l1.trans l2))⟩
end
end
section
noncomputable abbrev Loc:=List (Str×V)
structure Ctx where
 scope:Scope
 cells:List (Str×Addr)
 qual:Str
 code:Value
 hd:Option Addr
 lty:String:="frame"
 pin:List (Addr×List (Int×V)):=[]
structure Room(d:Nat)(A:Around):Prop where
 depth:A.depth+8*d≤900
 units:A.units+64*d≤9000
theorem Room.dlt{d:Nat}{A:Around}(R:Room d A):A.depth<recursionLimit:=Nat.lt_of_le_of_lt (Nat.le_trans (Nat.le_add_right _ _) R.depth) (show 900<1000 by decide)
theorem Room.u64{d:Nat}{A:Around}(R:Room d A):A.units+64<cLine:=Nat.lt_of_le_of_lt (Nat.add_le_add_right (Nat.le_trans (Nat.le_add_right _ _) R.units) 64) (show 9000+64<9900 by decide)
theorem Room.le{d d':Nat}{A:Around}(R:Room d A)(h:d'≤d):Room d' A:=⟨Nat.le_trans (Nat.add_le_add_left (Nat.mul_le_mul_left 8 h) _) R.depth,Nat.le_trans (Nat.add_le_add_left (Nat.mul_le_mul_left 64 h) _) R.units⟩
theorem Room.deeper{d:Nat}{A:Around}{env:Env}(R:Room (d+1) A):Room d (A.deeper env):=
 ⟨Nat.le_trans (Nat.le_of_eq (Nat.add_right_comm A.depth 1 (8*d))) (Nat.le_trans (Nat.add_le_add_left (show 1≤8 by decide) _) R.depth),by rw[Around.deeper_units];exact Nat.le_trans (Nat.le_of_eq (Nat.add_right_comm A.units 3 (64*d))) (Nat.le_trans (Nat.add_le_add_left (show 3≤64 by decide) _) R.units)⟩
noncomputable def FrIn(k:Frz)(e:Env):Prop:=e.scope.kind≠.module∧∃F o,e.frame=some F∧k F=some o∧o.cls=.type "frame" ∧∀vs,o.data≠.fields vs
noncomputable def Zfb(k:Frz)(lty:String)(env e:Env):Prop:=e.scope.kind≠.module∧∃F,e.frame=some F∧((F=env.locals∧lty="frame")∨F≠env.locals∧∃o,k F=some o∧o.cls=.type "frame" ∧∀vs,o.data≠.fields vs)
noncomputable def Frames(k:Frz)(A:Around):Prop:=∃fr,A.frames=some fr∧∀e∈fr,FrIn k e
noncomputable def Jc(k:Frz)(lty:String)(A:Around)(env:Env):Prop:=∃top fr,A.frames=some (top::fr)∧(env.frame=top.frame∧(lty="frame" →top=env∧env.frame=some env.locals))∧∀e∈top::fr,Zfb k lty env e
noncomputable def JI(w:World)(l:List (Addr×List (Int×V)))(k g:Frz):Prop:=∀p∈l,∃o kvs,k p.1=some o∧Jx (intKind PW w) o kvs∧PR w g p.2 kvs
theorem JI.mono{w:World}{l:List (Addr×List (Int×V))}{k k' g g':Frz}(h:JI w l k g)(a:Le k k')(b:Le g g'):JI w l k' g':=fun p m=>(h p m).imp fun q_ h=>h.imp fun q_ h=>⟨a _ _ h.1,h.2.1,h.2.2.mono b⟩
theorem JI.nil{w:World}{k g:Frz}:JI w [] k g:=fun q_ m=>nomatch m
structure ZU(w:World)(os₀:OsState)(c:Ctx)(env:Env)(k g:Frz)(ρ:Loc)(σ:Hp)(s:Shared):Prop where
 st:St w os₀ (some env.locals) k g σ s
 scope:env.scope=c.scope
 kind:c.scope.kind=.function
 cells:env.cells=c.cells
 glob:env.globals=mainGlobals
 blt:env.builtins=builtinsNs
 qual:env.qual=c.qual
 code:env.code=c.code
 ns:∃m,s.heap.Ns env.locals m∧∀x,OV w g (aget ρ x) (m x)
 lc:∃o,s.heap.get? env.locals=some o∧o.cls=.type c.lty
 pins:JI w c.pin k g
 pinL:∀p∈c.pin,p.1≠env.locals
structure Sit(w:World)(os₀:OsState)(d:Nat)(c:Ctx)(A:Around)(env:Env)(k g:Frz)(ρ:Loc)(σ:Hp)(s:Shared):Prop extends ZU w os₀ c env k g ρ σ s where
 room:Room d A
 hd:A.handled=c.hd.map .ref
 frs:Jc k c.lty A env
noncomputable def Head(k g:Frz)(σ:Hp)(s:Shared)(a T:Addr)(fl:Value→Prop):Prop:=
 T≠a∧k T=none∧g T=none∧Free σ T∧∃oT ts x,s.heap.get? T=some oT∧oT.cls=.type "traceback" ∧oT.data=.fields ts∧ts[3]? =some x∧fl x
noncomputable def Fly(k g:Frz)(σ:Hp)(s:Shared)(a:Addr):Prop:=
 ∃oe vs T,s.heap.get? a=some oe∧oe.data=.fields vs∧vs[1]? =some (.ref T)∧Head k g σ s a T (· =.none)
noncomputable def Flies(k g:Frz)(σ:Hp)(s:Shared)(a L:Addr):Prop:=
 ∃oe vs,s.heap.get? a=some oe∧oe.data=.fields vs∧(vs[1]? =some .none∨∃T,vs[1]? =some (.ref T)∧Head k g σ s a T fun x=>x=.none∨x=rawInt L)
theorem Head.mono{k g:Frz}{σ:Hp}{s:Shared}{a T:Addr}{f f':Value→Prop}(h:Head k g σ s a T f)(q:∀x,f x→f' x):Head k g σ s a T f':=
 ⟨h.1,h.2.1,h.2.2.1,h.2.2.2.1,h.2.2.2.2.imp fun q_ h=>h.imp fun q_ h=>h.imp fun q_ h=>⟨h.1,h.2.1,h.2.2.1,h.2.2.2.1,q _ h.2.2.2.2⟩⟩
theorem Fly.flies{k g:Frz}{σ:Hp}{s:Shared}{a:Addr}(L:Addr)(h:Fly k g σ s a):Flies k g σ s a L:=
 h.imp fun q_ h=>h.imp fun q_ h=>h.elim fun T h=>⟨h.1,h.2.1,.inr ⟨T,h.2.2.1,h.2.2.2.mono fun q_ e=>.inl e⟩⟩
noncomputable def Yu(w:World)(os₀:OsState)(d:Nat)(c:Ctx)(A:Around)(env:Env)(k g:Frz)(X:Addr→Loc→Hp→Prop)(E':Value→Shared→Prop):Prop:=
 ∀a ρ' σ' g' s',Le g g'→Sit w os₀ d c A env k g' ρ' σ' s'→Flies k g' σ' s' a env.locals→X a ρ' σ'→E' (.ref a) s'
theorem Yu.mono{w os₀ d c A env k g g' X E'}(h:Yu w os₀ d c A env k g X E')(l:Le g g'):Yu w os₀ d c A env k g' X E':=
 fun a ρ σ g'' s l' S F x=>h a ρ σ g'' s (l.trans l') S F x
structure WG{α β:Type}(rel:World→Frz→β→α→Prop)(t:Env→Sem α)(c:Ctx)(d:Nat)(ρ:Loc)(σ:Hp)(Q:β→Loc→Hp→Prop)(X:Addr→Loc→Hp→Prop):Prop where
 run:∀(w:World) (os₀:OsState) (A:Around) (env:Env) (k g:Frz) (s:Shared) (Q':α→Shared→Prop) (E':Value→Shared→Prop),Sit w os₀ d c A env k g ρ σ s→
  (∀v ρ' σ' x g' s',Le g g'→rel w g' v x→Sit w os₀ d c A env k g' ρ' σ' s'→Q v ρ' σ'→Q' x s')→Yu w os₀ d c A env k g X E'→wpAny (model PW w) A (t env) Q' E' s
noncomputable abbrev ZcH(α:Type):World→Frz→α→α→Prop:=fun q_ q_ b x=>x=b
noncomputable def WE(c:Ctx)(d:Nat)(e:Expr)(ρ:Loc)(σ:Hp)(Q:V→Hp→Prop)(X:Addr→Loc→Hp→Prop):Prop:=WG VR (eval e) c d ρ σ (fun v ρ' σ'=>ρ'=ρ∧Q v σ') X
noncomputable def WT(c:Ctx)(d:Nat)(e:Expr)(ρ:Loc)(σ:Hp)(Q:Bool→Hp→Prop)(X:Addr→Loc→Hp→Prop):Prop:=WG (ZcH Bool) (fun env=>isTrue e env (eval e env)) c d ρ σ (fun v ρ' σ'=>ρ'=ρ∧Q v σ') X
noncomputable def WL(c:Ctx)(d:Nat)(es:List Expr)(ρ:Loc)(σ:Hp)(Q:List V→Hp→Prop)(X:Addr→Loc→Hp→Prop):Prop:=∀pos,WG VRs (fun env=>spliced (backTo pos (starEach es env))) c d ρ σ (fun v ρ' σ'=>ρ'=ρ∧Q v σ') X
inductive FR(w:World)(g:Frz):Option V→Flow→Prop
 |next:FR w g none .next
 |ret (v x):VR w g v x→FR w g (some v) (.ret x)
noncomputable def nrP(N:Loc→Hp→Prop)(R:V→Hp→Prop)(v:Option V)(ρ:Loc)(σ:Hp):Prop:=match v with
 |none=>N ρ σ
 |some v=>R v σ
noncomputable def WX(c:Ctx)(d:Nat)(st:Stmt)(ρ:Loc)(σ:Hp)(N:Loc→Hp→Prop)(R:V→Hp→Prop)(X:Addr→Loc→Hp→Prop):Prop:=WG FR (exec st) c d ρ σ (nrP N R) X
noncomputable def WS(c:Ctx)(d:Nat)(st:List Stmt)(ρ:Loc)(σ:Hp)(N:Loc→Hp→Prop)(R:V→Hp→Prop)(X:Addr→Loc→Hp→Prop):Prop:=WG FR (execs st) c d ρ σ (nrP N R) X
section
variable{w:World}{os₀:OsState}{d:Nat}{c:Ctx}{A:Around}{env:Env}{k g g':Frz}{ρ ρ':Loc}{σ σ':Hp}{s s':Shared}{X:Addr→Loc→Hp→Prop}
theorem ZU.keep(S:ZU w os₀ c env k g ρ σ s)(e:∀b o,s.heap.get? b=some o→s'.heap.get? b=some o)(hg:s'.gens=s.gens)(ho:s'.os=s.os):ZU w os₀ c env k g ρ σ s':=
 {S with st:=S.st.keep e hg ho,ns:=S.ns.imp fun q_ h=>⟨h.1.keeps e,h.2⟩,lc:=S.lc.imp fun q_ h=>⟨e _ _ h.1,h.2⟩}
theorem Sit.mk'(S:Sit w os₀ d c A env k g ρ σ s)(F:ZU w os₀ c env k g' ρ' σ' s'):Sit w os₀ d c A env k g' ρ' σ' s':=⟨F,S.room,S.hd,S.frs⟩
theorem Sit.keep(S:Sit w os₀ d c A env k g ρ σ s)(e:∀b o,s.heap.get? b=some o→s'.heap.get? b=some o)(hg:s'.gens=s.gens)(ho:s'.os=s.os):Sit w os₀ d c A env k g ρ σ s':=S.mk' (S.toZU.keep e hg ho)
theorem Sit.toks(S:Sit w os₀ d c A env k g ρ σ s)(t:Nat):Sit w os₀ d c A env k g ρ σ {s with toks:=t}:=S.keep (fun q_ q_ e=>e) rfl rfl
theorem Sit.KIn(S:Sit w os₀ d c A env k g ρ σ s):(KK w.params).In s.heap:=fun a o e=>S.st.fr a o (S.st.K a o e)
theorem St.KIn{lv:Option Addr}(S:St w os₀ lv k g σ s):(KK w.params).In s.heap:=fun a o e=>S.fr a o (S.K a o e)
theorem ZU.kl(S:ZU w os₀ c env k g ρ σ s):(k env.locals).isSome=true:=(S.st.lv _ rfl).1
theorem ZU.lne(S:ZU w os₀ c env k g ρ σ s){a:Addr}(h:k a=none):env.locals≠a:=fun q=>by have:=S.kl;rw[q,h]at this;exact nomatch this
theorem Sit.kl(S:Sit w os₀ d c A env k g ρ σ s):(k env.locals).isSome=true:=S.toZU.kl
theorem Sit.lne(S:Sit w os₀ d c A env k g ρ σ s){a:Addr}(h:k a=none):env.locals≠a:=S.toZU.lne h
theorem ZU.turn(S:ZU w os₀ c env k g ρ σ s)(l:Le g g')(S':St w os₀ (some env.locals) k g' σ' s')(e:∀o,s.heap.get? env.locals=some o→s'.heap.get? env.locals=some o):ZU w os₀ c env k g' ρ σ' s':=by
 exact {S with st:=S',ns:=S.ns.imp fun q_ h=>⟨h.1.imp fun q_ h=>h.imp fun q_ h=>h.imp fun q_ h=>⟨e _ h.1,h.2⟩,fun x=>(h.2 x).mono l⟩,lc:=S.lc.imp fun q_ h=>⟨e _ h.1,h.2⟩,pins:=S.pins.mono (Le.refl k) l}
theorem Sit.turn(S:Sit w os₀ d c A env k g ρ σ s)(l:Le g g')(S':St w os₀ (some env.locals) k g' σ' s')(e:∀o,s.heap.get? env.locals=some o→s'.heap.get? env.locals=some o):Sit w os₀ d c A env k g' ρ σ' s':=S.mk' (S.toZU.turn l S' e)
theorem Sit.weaken(S:Sit w os₀ d c A env k g ρ σ s)(q:σ'.Le σ):Sit w os₀ d c A env k g ρ σ' s:={S with st:=S.st.weaken q}
theorem Sit.llt(S:Sit w os₀ d c A env k g ρ σ s):env.locals<s.heap.objs.size:=S.lc.elim fun q_ h=>Heap.lt_size h.1
theorem WG.mono{α β:Type}{rel:World→Frz→β→α→Prop}{t:Env→Sem α}{Q Q':β→Loc→Hp→Prop}(h:WG rel t c d ρ σ Q X)(q:∀b ρ' σ',Q b ρ' σ'→Q' b ρ' σ'):WG rel t c d ρ σ Q' X:=
 ⟨fun w os₀ A env k g s P E S hQ hE=>h.run w os₀ A env k g s P E S (fun v ρ' σ' x g' s' l r S' z=>hQ v ρ' σ' x g' s' l r S' (q _ _ _ z)) hE⟩
theorem WE.use{e:Expr}{Q:V→Hp→Prop}{Q':Value→Shared→Prop}{E':Value→Shared→Prop}(h:WE c d e ρ σ Q X)(S:Sit w os₀ d c A env k g ρ σ s)(hE:Yu w os₀ d c A env k g X E')
  (hQ:∀v σ' x g' s',Le g g'→VR w g' v x→Sit w os₀ d c A env k g' ρ σ' s'→Yu w os₀ d c A env k g' X E'→Q v σ'→Q' x s'):wpAny (model PW w) A (eval e env) Q' E' s:=
 h.run w os₀ A env k g s Q' E' S (fun v ρ' σ' x g' s' l r S' q=>hQ v σ' x g' s' l r (q.1▸S') (hE.mono l) q.2) hE
theorem WT.use{e:Expr}{Q:Bool→Hp→Prop}{Q':Bool→Shared→Prop}{E':Value→Shared→Prop}(h:WT c d e ρ σ Q X)(S:Sit w os₀ d c A env k g ρ σ s)(hE:Yu w os₀ d c A env k g X E')
  (hQ:∀b σ' g' s',Le g g'→Sit w os₀ d c A env k g' ρ σ' s'→Yu w os₀ d c A env k g' X E'→Q b σ'→Q' b s'):wpAny (model PW w) A (isTrue e env (eval e env)) Q' E' s:=
 h.run w os₀ A env k g s Q' E' S (fun v ρ' σ' x g' s' l r S' q=>(show v=x from r.symm)▸hQ v σ' g' s' l (q.1▸S') (hE.mono l) q.2) hE
theorem WL.use{es:List Expr}{pos:Pos}{Q:List V→Hp→Prop}{Q':List Value→Shared→Prop}{E':Value→Shared→Prop}(h:WL c d es ρ σ Q X)(S:Sit w os₀ d c A env k g ρ σ s)(hE:Yu w os₀ d c A env k g X E')
  (hQ:∀vs σ' xs g' s',Le g g'→VRs w g' vs xs→Sit w os₀ d c A env k g' ρ σ' s'→Yu w os₀ d c A env k g' X E'→Q vs σ'→Q' xs s'):wpAny (model PW w) A (spliced (backTo pos (starEach es env))) Q' E' s:=
 (h pos).run w os₀ A env k g s Q' E' S (fun v ρ' σ' x g' s' l r S' q=>hQ v σ' x g' s' l r (q.1▸S') (hE.mono l) q.2) hE
theorem WE.mk{e:Expr}{Q:V→Hp→Prop}(h:∀(w:World) (os₀:OsState) (A:Around) (env:Env) (k g:Frz) (s:Shared) (Q':Value→Shared→Prop) (E':Value→Shared→Prop),Sit w os₀ d c A env k g ρ σ s→Yu w os₀ d c A env k g X E'→
  (∀v σ' x g' s',Le g g'→VR w g' v x→Sit w os₀ d c A env k g' ρ σ' s'→Q v σ'→Q' x s')→wpAny (model PW w) A (eval e env) Q' E' s):WE c d e ρ σ Q X:=
 ⟨fun w os₀ A env k g s Q' E' S hQ hE=>h w os₀ A env k g s Q' E' S hE fun v σ' x g' s' l r S' q=>hQ v ρ σ' x g' s' l r S' ⟨rfl,q⟩⟩
theorem WT.mk{e:Expr}{Q:Bool→Hp→Prop}(h:∀(w:World) (os₀:OsState) (A:Around) (env:Env) (k g:Frz) (s:Shared) (Q':Bool→Shared→Prop) (E':Value→Shared→Prop),Sit w os₀ d c A env k g ρ σ s→Yu w os₀ d c A env k g X E'→
  (∀b σ' g' s',Le g g'→Sit w os₀ d c A env k g' ρ σ' s'→Q b σ'→Q' b s')→wpAny (model PW w) A (isTrue e env (eval e env)) Q' E' s):WT c d e ρ σ Q X:=
 ⟨fun w os₀ A env k g s Q' E' S hQ hE=>h w os₀ A env k g s Q' E' S hE fun v σ' g' s' l S' q=>hQ v ρ σ' v g' s' l rfl S' ⟨rfl,q⟩⟩
theorem WE.mono{e:Expr}{Q Q':V→Hp→Prop}(h:WE c d e ρ σ Q X)(q:∀b σ',Q b σ'→Q' b σ'):WE c d e ρ σ Q' X:=WG.mono h fun b ρ' σ' z=>⟨z.1,q _ _ z.2⟩
theorem WT.mono{e:Expr}{Q Q':Bool→Hp→Prop}(h:WT c d e ρ σ Q X)(q:∀b σ',Q b σ'→Q' b σ'):WT c d e ρ σ Q' X:=WG.mono h fun b ρ' σ' z=>⟨z.1,q _ _ z.2⟩
theorem W7{i:Int}{n:Nat}{pos:Pos}{Q:V→Hp→Prop}(h:Q (.int i) σ):WE c d (.Constant (.int i) n pos) ρ σ Q X:=
 WE.mk fun w os₀ A env k g s Q' E' S hE hQ=>wpAny_Constant_int (hQ _ _ _ g _ (Le.refl g) (.int _ _) (S.toks _) h)
theorem ZeU{x:Str}{n:Nat}{pos:Pos}{Q:V→Hp→Prop}(h:Q (.str x) σ):WE c d (.Constant (.str x) n pos) ρ σ Q X:=
 WE.mk fun w os₀ A env k g s Q' E' S hE hQ=>wpAny_Constant_str (hQ _ _ _ g _ (Le.refl g) (.str _ _) (S.toks _) h)
theorem Bb{b:Bool}{n:Nat}{pos:Pos}{Q:V→Hp→Prop}(h:Q (.bool b) σ):WE c d (.Constant (.bool b) n pos) ρ σ Q X:=
 WE.mk fun w os₀ A env k g s Q' E' S hE hQ=>wpAny_Constant_bool (hQ _ _ _ g _ (Le.refl g) (.bool _) S h)
theorem ZdY{n:Nat}{pos:Pos}{Q:V→Hp→Prop}(h:Q .none σ):WE c d (.Constant .none n pos) ρ σ Q X:=
 WE.mk fun w os₀ A env k g s Q' E' S hE hQ=>wpAny_Constant_none (hQ _ _ _ g _ (Le.refl g) .none S h)
theorem ZU.kindOf(S:ZU w os₀ c env k g ρ σ s)(x:Str):env.kindOf x=c.scope.names.lookup x:=by unfold Env.kindOf;rw[S.scope]
theorem ZU.fn(S:ZU w os₀ c env k g ρ σ s):env.scope.kind=.function:=by rw[S.scope];exact S.kind
theorem Sit.kindOf(S:Sit w os₀ d c A env k g ρ σ s)(x:Str):env.kindOf x=c.scope.names.lookup x:=S.toZU.kindOf x
theorem Sit.fn(S:Sit w os₀ d c A env k g ρ σ s):env.scope.kind=.function:=S.toZU.fn
theorem YW{x:Str}{pos:Pos}{v:V}{Q:V→Hp→Prop}(hk:c.scope.names.lookup x=some .local)(hv:aget ρ x=some v)(hd:(x==("__debug__" :Str))=false)(h:Q v σ):WE c d (.Name x pos) ρ σ Q X:=
 WE.mk fun w os₀ A env k g s Q' E' S hE hQ=>by
  obtain⟨m,a,b⟩:=S.ns
  have q:=b x
  rw[hv]at q
  obtain⟨y,e,r⟩:=q.some
  exact wpAny_Name (wpAny_loadName_local S.fn ((S.kindOf x).trans hk) a e (hQ _ _ _ g _ (Le.refl g) r S h)) hd
theorem Zo{x:Str}{pos:Pos}{a:Addr}{v:V}{Q:V→Hp→Prop}(hk:c.scope.names.lookup x=some .cell)(hc:c.cells.lookup x=some a)(hv:σ.cs a=some (some v))(hd:(x==("__debug__" :Str))=false)(h:Q v σ):WE c d (.Name x pos) ρ σ Q X:=
 WE.mk fun w os₀ A env k g s Q' E' S hE hQ=>by
  exact(S.st.cs a _ hv).at_.elim fun o h1=>h1.elim fun q_ h1=>(ZaS h1.2.2).elim fun y r=>wpAny_Name (wpAny_loadName_cell S.fn ((S.kindOf x).trans hk) (by rw[S.cells];exact hc) ⟨_,h1.1,h1.2.1.trans (congrArg _ r.1)⟩ (hQ _ _ _ g _ (Le.refl g) r.2 S h)) hd
theorem Y6{x:Str}{pos:Pos}{a:Addr}{v:V}{Q:V→Hp→Prop}(hk:c.scope.names.lookup x=some .free)(hc:c.cells.lookup x=some a)(hv:σ.cs a=some (some v))(hd:(x==("__debug__" :Str))=false)(hn:(x==("__classdict__" :Str))=false)(h:Q v σ):WE c d (.Name x pos) ρ σ Q X:=
 WE.mk fun w os₀ A env k g s Q' E' S hE hQ=>by
  exact(S.st.cs a _ hv).at_.elim fun o h1=>h1.elim fun q_ h1=>(ZaS h1.2.2).elim fun y r=>wpAny_Name (wpAny_loadName_free S.fn ((S.kindOf x).trans hk) (by rw[S.cells];exact hc) ⟨_,h1.1,h1.2.1.trans (congrArg _ r.1)⟩ (hQ _ _ _ g _ (Le.refl g) r.2 S h) hn) hd
end
end
section
theorem ffalse{P:Prop}(h:false=true):P:=Bool.noConfusion h
theorem We(i:Expr)(o x:Value):∃ops,subscripted i false o x=operate ops (getItem o x):=by
 cases i with
 |Slice l u st p=>cases st<;>exact⟨_,rfl⟩
 |_=>exact⟨_,rfl⟩
theorem Bi{e:Expr}{es:List Expr}{env:Env}(h:(e.ctorIdx !=22)=true):starEach (e::es) env=(false,eval e env)::starEach es env:=by
 cases e<;>first|rfl|exact ffalse h
noncomputable abbrev JM(es:List Expr):Bool:=es.all fun e=>e.ctorIdx !=22
theorem Jj{es:List Expr}{env:Env}(h:JM es=true):starEach es env=es.map fun e=>(false,eval e env):=by
 induction es with
 |nil=>rfl
 |cons e es ih=>
  have h:=Bool.and_eq_true_iff.mp h
  exact(Bi h.1).trans (congrArg _ (ih h.2))
noncomputable abbrev Zae(o:Expr):Bool:=o.ctorIdx !=16
theorem Bx{o:Expr}{name:Str}{env:Env}{m:Sem Value}(h:Zae o=true):attributeBase o name env m=m:=by
 cases o<;>first|rfl|exact ffalse h
theorem W9(e:Expr):(∀t l env,swapsWith e t l env=pure false)∨∃s p,∀t l env,swapsWith e t l env=swapsWith (.ListComp default [] s p) t l env:=by
 cases e<;>first|exact .inl fun q_ q_ q_=>rfl|exact .inr ⟨_,_,fun q_ q_ q_=>rfl⟩
theorem NT{e o:Expr}{n:Str}{p:Pos}{l:Nat}{env:Env}:swapsWith e (some (.Attribute o n p)) l env=pure false:=(W9 e).elim (fun h=>h _ _ _) fun h=>h.elim fun q_ h=>h.elim fun q_ h=>h _ _ _
theorem Zb1{e o i:Expr}{p:Pos}{l:Nat}{env:Env}:swapsWith e (some (.Subscript o i p)) l env=pure false:=(W9 e).elim (fun h=>h _ _ _) fun h=>h.elim fun q_ h=>h.elim fun q_ h=>h _ _ _
theorem Db{e:Expr}{es:List Expr}{n:Nat}{p:Pos}{l:Nat}{env:Env}:swapsWithSole [.Tuple es n p] e l env=pure false:=show swapsWith e (some (.Tuple es n p)) l env=_ from(W9 e).elim (fun h=>h _ _ _) fun h=>h.elim fun q_ h=>h.elim fun q_ h=>h _ _ _
theorem NS{e:Expr}{t:Option Expr}{l:Nat}{env:Env}(h:(Nat.ble e.ctorIdx 7||Nat.ble 11 e.ctorIdx)=true):swapsWith e t l env=pure false:=by
 cases e<;>first|rfl|exact ffalse h
theorem Zbx{e:Expr}{env:Env}{m:Sem Value}(h:(e.ctorIdx !=0&&e.ctorIdx !=3&&e.ctorIdx !=5&&e.ctorIdx !=15)=true):isTrue e env m=(do let v←m;standAt e.pos;holding [v] (truthy v)):=by
 cases e<;>first|rfl|exact ffalse h
theorem Ys{α:Type}{x:α}{P:Prop}(h:none=some x):P:=nomatch h
noncomputable def gval(v:Value):Option V:=Value.casesOn v (some .none) none none (fun b=>some (.bool b)) (fun i q_=>some (.int i)) (fun q_ q_=>none) (fun x q_=>some (.str x)) (fun q_ q_=>none) (fun q_=>none) (fun q_=>none) fun a=>some (.ref a)
theorem Zd6{w:World}{g:Frz}{v:Value}{x:V}(e:gval v=some x):VR w g x v:=by
 cases v with
 |none=>exact Option.some.inj e▸ .none
 |bool b=>exact Option.some.inj e▸ .bool b
 |int i t=>exact Option.some.inj e▸ .int i t
 |str i t=>exact Option.some.inj e▸ .str i t
 |ref a=>exact Option.some.inj e▸ .ref a
 |_=>exact Ys e
theorem Zea(P:Params):nsOkIn (KK P) mainGlobals=true:=by kernel_rfl
theorem ZeZ(P:Params):nsOkIn (KK P) builtinsNs=true:=by kernel_rfl
section
variable{w:World}{os₀:OsState}{lv:Option Addr}{d:Nat}{c:Ctx}{A:Around}{env:Env}{k g g':Frz}{ρ ρ':Loc}{σ σ':Hp}{s s':Shared}{X:Addr→Loc→Hp→Prop}
theorem St.main(S:St w os₀ lv k g σ s):s.heap.Ns mainGlobals (s.heap.nsMap mainGlobals):=.of_isNs (isNs_of_in S.KIn (Zea _))
theorem St.bltns(S:St w os₀ lv k g σ s):s.heap.Ns builtinsNs (s.heap.nsMap builtinsNs):=.of_isNs (isNs_of_in S.KIn (ZeZ _))
theorem Zge{K:Frag}{h:Heap}{D:Addr}{mb:Str→Option Value}{n:Str}{v:Option Value}(X:K.In h)(G:h.Ns D mb)(e:nsIn K D n=some v):mb n=v:=by
 obtain⟨⟨_,_,_,_⟩,es,ep,ho,hd,_,hf⟩:=G
 cases hd
 unfold nsIn at e
 cases q:K.lookup D with
 |none=>rw[q]at e;exact Ys e
 |some o=>
  rw[q,←Option.some.inj (ho.symm.trans (X _ _ q))]at e
  dsimp only at e
  rw[Array.find?_toList]at e
  refine(hf n).symm.trans (?_:(es.find? fun e=>e.key.isStr n).map (·.val)=v)
  cases r:es.find? fun e=>e.key.isStr n with
  |some z=>rw[r]at e;exact Option.some.inj e
  |none=>
   rw[r]at e
   dsimp only at e
   by_cases c:(es.toList.any fun e=>e.refKey)=true
   ·rw[if_pos c]at e;exact Ys e
   ·rw[if_neg c]at e;exact Option.some.inj e
theorem Zw{x:Str}{pos:Pos}{v:Value}{y:V}{Q:V→Hp→Prop}(hk:c.scope.names.lookup x=some .globalImplicit)(hn:∀P,nsIn (KK P) mainGlobals x=some (some v))(hv:gval v=some y)(hd:(x==("__debug__" :Str))=false)(h:Q y σ):WE c d (.Name x pos) ρ σ Q X:=
 WE.mk fun w os₀ A env k g s Q' E' S hE hQ=>
  Name_function_global S.fn ((S.kindOf x).trans hk) (loadGlobal_global (by rw[S.glob];exact S.st.main) (mg_of S.KIn S.st.main (hn _)) (hQ _ _ _ g _ (Le.refl g) (Zd6 hv) S h)) hd
theorem YH{x:Str}{pos:Pos}{v:Value}{Q:V→Hp→Prop}(hk:c.scope.names.lookup x=some .globalImplicit)(hn:∀P,nsIn (KK P) mainGlobals x=some none)(hb:∀P,nsIn (KK P) builtinsNs x=some (some v))(hd:(x==("__debug__" :Str))=false)(h:Q (.bi v) σ):WE c d (.Name x pos) ρ σ Q X:=
 WE.mk fun w os₀ A env k g s Q' E' S hE hQ=>
  Name_function_global S.fn ((S.kindOf x).trans hk) (loadGlobal_builtin (by rw[S.glob];exact S.st.main) (mg_none_of S.KIn S.st.main (hn _)) (by rw[S.blt];exact S.st.bltns) (Zge S.KIn S.st.bltns (hb _)) (hQ _ _ _ g _ (Le.refl g) (.bi _) S h)) hd
noncomputable abbrev K8D1(d:Nat)(c:Ctx)(ρ:Loc)(X:Addr→Loc→Hp→Prop)(r:Expr)(B:V→V→Hp→Prop)(a:V)(σ1:Hp):Prop:=WE c d r ρ σ1 (fun b σ2=>B a b σ2) X
theorem Hw{l r:Expr}{op:Operator}{pos:Pos}{Q:V→Hp→Prop}{B:V→V→Hp→Prop}
  (h:WE c d l ρ σ (K8D1 d c ρ X r B) X)
  (hB:∀a b σ w os₀ A env k g s (Q':Value→Shared→Prop) (E':Value→Shared→Prop) x y,B a b σ→Sit w os₀ d c A env k g ρ σ s→VR w g a x→VR w g b y→(∀v σ' x g' s',Le g g'→VR w g' v x→Sit w os₀ d c A env k g' ρ σ' s'→Q v σ'→Q' x s')→wpAny (model PW w) A (binaryOp op x y) Q' E' s):
  WE c d (.BinOp l op r pos) ρ σ Q X:=
 WE.mk fun w os₀ A env k g s Q' E' S hE hQ=>
  wpAny_BinOp (h.use S hE fun a σ1 x g1 s1 l1 va S1 hE1 h1=>h1.use S1 hE1 fun b σ2 y g2 s2 l2 vb S2 hE2 h2=>
   hB a b σ2 w os₀ A env k g2 s2 Q' E' x y h2 S2 (va.mono l2) vb fun v σ' x g' s' l r S' q=>hQ v σ' x g' s' ((l1.trans l2).trans l) r S' q)
noncomputable def iop(op:Operator)(a b:Int):Option Int:=Operator.casesOn op (some (a+b)) (some (a-b)) (if a.natAbs<2^64∧b.natAbs<2^64 then some (a*b)else none) none none (if 0<b then some (a % b)else none) none
 (if 0≤b∧b≤1000000∧a.natAbs<2^64 then some (a*2^b.toNat)else none) (if 0≤b then some (a/2^b.toNat)else none) (some (Builtin.bitOr a b)) none (some (Builtin.bitAnd a b)) (if 0<b∧b.natAbs<2^64 then some (a/b)else none)
theorem Wn{c:Prop} [Decidable c]{α:Type}{x y:α}(e:(if c then some x else none)=some y):c∧x=y:=by
 by_cases h:c
 ·rw[if_pos h]at e;exact⟨h,Option.some.inj e⟩
 ·rw[if_neg h]at e;exact Ys e
theorem Zbn{i:Int}(h:i.natAbs<2^64): -(2^64)<i∧i<2^64:=
 have z:(i.natAbs:Int)<2^64:=Int.ofNat_lt.mpr h
 ⟨Int.neg_lt_of_neg_lt (Int.lt_of_le_of_lt (Int.natAbs_neg i▸Int.le_natAbs) z),Int.lt_of_le_of_lt Int.le_natAbs z⟩
set_option tactic.hygienic true in
theorem Ze7{op:Operator}{i j v:Int}{t u:Tok}{Q':Value→Shared→Prop}{E':Value→Shared→Prop}(e:iop op i j=some v)(h:∀t' n,Q' (.int v t') {s with toks:=n}):wpAny (model PW w) A (binaryOp op (.int i t) (.int j u)) Q' E' s:=by
 cases op
 case Add=>exact add_int ((Option.some.inj e).symm▸h _ _)
 case Sub=>exact sub_int ((Option.some.inj e).symm▸h _ _)
 case Mult=>
  have z:=Wn e
  exact mul_int (z.2.symm▸h _ _) (IntMulOk.of_left (PySem.intBits_le_64 (Zbn z.1.1).1 (Zbn z.1.1).2))
 case Mod=>
  have z:=Wn e
  exact mod_int' (Int.ne_of_gt z.1) (by rw[Int.fmod_eq_emod_of_nonneg _ (Int.le_of_lt z.1),z.2];exact h _ _)
 case LShift=>
  have z:=Wn e
  exact lshift_int_small z.1.1 z.1.2.1 z.1.2.2 (z.2.symm▸h _ _)
 case RShift=>
  have z:=Wn e
  exact rshift_int z.1 (by rw[Int.fdiv_eq_ediv_of_nonneg _ (Int.le_of_lt (Int.pow_pos (by decide))),z.2];exact h _ _)
 case BitOr=>exact or_int ((Option.some.inj e).symm▸h _ _)
 case BitAnd=>exact and_int ((Option.some.inj e).symm▸h _ _)
 case FloorDiv=>
  have z:=Wn e
  refine floordiv_int (Int.ne_of_gt z.1.1) (by rw[Int.fdiv_eq_ediv_of_nonneg _ (Int.le_of_lt z.1.1),z.2];exact h _ _) (.inl (PyProof.noPylong_of_log2 (Nat.lt_of_lt_of_le ((Nat.log2_lt (Nat.ne_of_gt (Int.natAbs_pos.mpr (Int.ne_of_gt z.1.1)))).mpr z.1.2) (by decide))))
 all_goals exact Ys e
theorem Zgi{op:Operator}{i j v:Int}{x y:Value}{Q':Value→Shared→Prop}{E':Value→Shared→Prop}(hx:VR w g (.int i) x)(hy:VR w g (.int j) y)(e:iop op i j=some v)(h:∀t' n,Q' (.int v t') {s with toks:=n}):wpAny (model PW w) A (binaryOp op x y) Q' E' s:=
 hx.intI.elim fun t e1=>hy.intI.elim fun u e2=>e1▸e2▸Ze7 e h
inductive ZfS(op:Operator)(Q:V→Hp→Prop)(a:V)(b:V)(σ2:Hp):Prop
 |mk (i:_) (j:_) (v:_) (h1:a=.int i) (h2:b=.int j) (h3:iop op i j=some v) (h4:Q (.int v) σ2):ZfS op Q a b σ2
noncomputable abbrev K8D2(d:Nat)(c:Ctx)(ρ:Loc)(X:Addr→Loc→Hp→Prop)(r:Expr)(op:Operator)(Q:V→Hp→Prop)(a:V)(σ1:Hp):Prop:=WE c d r ρ σ1 (ZfS op Q a) X
theorem JL{l r:Expr}{op:Operator}{pos:Pos}{Q:V→Hp→Prop}
  (h:WE c d l ρ σ (K8D2 d c ρ X r op Q) X):WE c d (.BinOp l op r pos) ρ σ Q X:=
 Hw h fun a b σ w os₀ A env k g s Q' E' x y hB S va vb hQ=>by
  obtain⟨i,j,v,e1,e2,e,q⟩:=hB
  exact Zgi (e1▸va) (e2▸vb) e fun t n=>hQ _ _ _ g _ (Le.refl g) (.int _ _) (S.toks _) q
noncomputable def ZV(σ:Hp)(v:V):Option (List V):=V.casesOn v none (fun q_=>none) (fun q_=>none) (fun q_=>none) σ.ls (fun q_=>none) some (fun q_ q_=>none) (fun q_=>none) (fun q_=>none) (fun q_=>none) (fun q_=>none)
inductive ZfR(w:World)(g:Frz)(s:Shared)(x:Value)(vs:List V):Prop
 |mk (a:_) (Vs:_) (n:_) (h1:x=.ref a) (h2:s.heap.get? a=some (Zu Vs n)) (h3:VRs w g vs Vs):ZfR w g s x vs
theorem St.list(S:St w os₀ lv k g σ s){v:V}{x:Value}{vs:List V}(e:ZV σ v=some vs)(r:VR w g v x):ZfR w g s x vs:=by
 cases v with
 |ref a=>exact(S.ls a vs e).at_.elim fun Vs h=>h.elim fun n h=>⟨a,Vs,n,r.refI,h.1,h.2⟩
 |lst us=>exact r.inv.elim fun a h=>h.elim fun Vs h=>h.elim fun n h=>⟨a,Vs,n,h.1,S.fr _ _ h.2.1,Option.some.inj e▸h.2.2⟩
 |_=>exact Ys e
theorem ZM{h:Heap}{a:Addr}{Vs:List Value}{n:Nat}(e:h.get? a=some (Zu Vs n)):h.IsList a Vs.toArray:=⟨_,e,rfl,n,rfl⟩
theorem WM{h:Heap}{a:Addr}{Vs:List Value}(e:h.get? a=some (Qa Vs)):h.IsTuple a Vs.toArray:=⟨_,e,rfl,0,rfl⟩
theorem Dy{l b:Addr}{vs ws:List Value}{n n2:Nat}{Q':Value→Shared→Prop}{E':Value→Shared→Prop}(ho:s.heap.get? l=some (Zu vs n))(ho2:s.heap.get? b=some (Zu ws n2))(hsz:vs.length+ws.length≤sizeLine)
  (h:Q' (.ref s.heap.objs.size) {s with heap:=s.heap.push (Zu (vs++ws) 0)}):wpAny (model PW w) A (binaryOp .Add (.ref l) (.ref b)) Q' E' s:=by
 have e:vs.toArray++ws.toArray=(vs++ws).toArray:=List.append_toArray ..
 refine concat_meets ⟨_,ho,rfl⟩ ⟨_,ho2,rfl⟩ noFill_list_add seq_list_add PySem.F.slot_list_add PySem.F.entry_list_add (PySem.F.args_list_add_2 _ _) (list_addW l b vs.toArray ws.toArray n n2 none none #[] #[] hsz) ⟨ho,ho2,?_⟩
 rw[e]
 exact h
theorem St.newFixL(S:St w os₀ lv k g σ s){vs:List V}{Vs:List Value}{n:Nat}(r:VRs w g vs Vs):
  ∃g',St w os₀ lv k g' σ {s with heap:=s.heap.push (Zu Vs n)}∧Le g g'∧VR w g' (.lst vs) (.ref s.heap.objs.size):=by
 have F:=S.fresh (Nat.le_refl _)
 obtain⟨S1,l⟩:=(S.push (Zu Vs n)).freeze F.free F.kn (Heap.get?_push_size _ rfl) (show Value.type "list" ≠.type "frame" by decide)
 exact⟨_,S1,l,.lst _ _ _ n (put_self ..) (r.mono l)⟩
theorem Sit.pushed(S:Sit w os₀ d c A env k g ρ σ s)(l:Le g g'){o:Obj}(S':St w os₀ (some env.locals) k g' σ' {s with heap:=s.heap.push o}):Sit w os₀ d c A env k g' ρ σ' {s with heap:=s.heap.push o}:=
 S.turn l S' fun q_ e=>Heap.get?_push_of_some _ e
inductive ZfQ(Q:V→Hp→Prop)(a:V)(b:V)(σ2:Hp):Prop
 |mk (vs:_) (us:_) (h1:ZV σ2 a=some vs) (h2:ZV σ2 b=some us) (h3:vs.length+us.length≤100000) (h4:Q (.lst (vs++us)) σ2):ZfQ Q a b σ2
noncomputable abbrev K8D3(d:Nat)(c:Ctx)(ρ:Loc)(X:Addr→Loc→Hp→Prop)(r:Expr)(Q:V→Hp→Prop)(a:V)(σ1:Hp):Prop:=WE c d r ρ σ1 (ZfQ Q a) X
theorem Qt{l r:Expr}{pos:Pos}{Q:V→Hp→Prop}
  (h:WE c d l ρ σ (K8D3 d c ρ X r Q) X):WE c d (.BinOp l .Add r pos) ρ σ Q X:=
 Hw h fun a b σ w os₀ A env k g s Q' E' x y hB S va vb hQ=>by
  obtain⟨vs,us,e1,e2,hz,q⟩:=hB
  obtain⟨a,Vs,n,f1,p1,r1⟩:=S.st.list e1 va
  obtain⟨b,Us,m,f2,p2,r2⟩:=S.st.list e2 vb
  have z:=S.st.newFixL (n:=0) (r1.append r2)
  rw[f1,f2]
  exact Dy p1 p2 (by rw[←r1.length,←r2.length];exact Nat.le_trans hz (by decide)) (z.elim fun g' h=>hQ _ _ _ g' _ h.2.1 h.2.2 (S.pushed h.2.1 h.1) q)
theorem Zey{n:Nat}(h:n≤1000):¬(!Builtin.List.listFitsIndex (n:Int))=true:=by
 have:Builtin.List.listFitsIndex (n:Int)=true:=by
  unfold Builtin.List.listFitsIndex
  rw[decide_eq_true (by exact Int.natCast_nonneg _),decide_eq_true (by lia)];rfl
 rw[this];decide
theorem Zex{n:Nat}{x:Value}(h:n≤1000):¬[x].toArray.size*((n:Int)).toNat>(2^63-1)/8:=by
 rw[Int.toNat_natCast]
 exact Nat.not_lt.mpr (Nat.le_trans (Nat.le_of_eq (Nat.one_mul n)) (Nat.le_trans h (by decide)))
theorem Zew{n:Nat}{x:Value}(h:n≤1000):¬Builtin.List.listTooLong ([x].toArray.size*((n:Int)).toNat)=true:=by
 rw[Int.toNat_natCast,List.size_toArray,List.length_singleton,Nat.one_mul]
 unfold Builtin.List.listTooLong
 rw[decide_eq_false (Nat.not_lt.mpr (Nat.le_trans h (by decide)))];decide
theorem ZbW(x:Value):∀(m:Nat) (a:Array Value),List.foldl (fun x1 x2=>x1++x2) a (List.replicate m [x].toArray)=a++(List.replicate m x).toArray:=by
 intro m
 induction m with
 |zero=>exact fun a=>(Array.append_empty).symm
 |succ m ih=>intro a;rw[List.replicate_succ,List.foldl_cons,ih,List.replicate_succ];apply Array.toList_inj.mp;simp
theorem ZbV(x:Value)(n:Nat):(List.foldl (fun x1 x2=>x1++x2) #[] (List.replicate (if([x].toArray).isEmpty=true then 0 else((n:Int)).toNat) [x].toArray))=(List.replicate n x).toArray:=by
 rw[if_neg (by simp),Int.toNat_natCast,ZbW,Array.empty_append]
theorem VRs.rep{v:V}{x:Value}(r:VR w g v x)(n:Nat):VRs w g (List.replicate n v) (List.replicate n x):=Nat.rec (motive:=fun n=>VRs w g (List.replicate n v) (List.replicate n x)) .nil (fun q_ ih=>.cons r ih) n
theorem Zdy{a:Addr}{x:Value}{m n:Nat}{t:Tok}{Q':Value→Shared→Prop}{E':Value→Shared→Prop}(hl:s.heap.get? a=some (Zu [x] m))(hz:n≤1000)(h:Q' (.ref s.heap.objs.size) {s with heap:=s.heap.push (Zu (List.replicate n x) 0)}):wpAny (model PW w) A (binaryOp .Mult (.ref a) (.int n t)) Q' E' s:=by
 have h:Q' (.ref s.heap.objs.size) {s with heap:=s.heap.push {cls:=.type "list",data:=.seq (List.replicate n x).toArray 0}}:=h
 rw[←ZbV x n]at h
 have m1:=Zey hz
 have m2:=Zex (x:=x) hz
 have m3:=Zew (x:=x) hz
 have hl:s.heap.get? a=some {cls:=.type "list",dict:=none,data:=.seq [x].toArray m,slots:= #[]}:=hl
 revert h m1 m2 m3 hl
 generalize (n:Int)=N
 generalize [x].toArray=I
 intro h m1 m2 m3 hl
 exact wpAny_binaryOp_repeat_ref (T:="list") (U:="int") (by decide) ⟨_,hl,rfl⟩ (fun s'=>typeIs_int s' N t) noFill_list_mul PySem.F.fills_int_mul PySem.F.slot_int_rmul repeat_list PySem.F.slot_int_index.lookup
   (call_meets PySem.F.slot_int_rmul (typeIs_int s N t) PySem.F.entry_int_rmul (PySem.F.args_int_rmul_2 _ _) (int___rmul___int_list N t a I m)
    ⟨hl,rfl,⟨_,hl,rfl⟩,call_meets PySem.F.slot_list_mul ⟨_,hl,rfl⟩ PySem.F.entry_list_mul (PySem.F.args_list_mul_2 _ _)
     (AutoListH.list___mul___list_int_3 a I m N t m1 m2 m3)
     ⟨hl,h⟩⟩)
inductive ZfP(Q:V→Hp→Prop)(a:V)(b:V)(σ2:Hp):Prop
 |mk (v:_) (n:_) (h1:a=.lst [v]) (h2:b=.int (n:Nat)) (h3:n≤1000) (h4:∀D,σ2.ls D=none→Q (.ref D) {σ2 with ls:=up σ2.ls D (some (List.replicate n v))}):ZfP Q a b σ2
noncomputable abbrev K8D4(d:Nat)(c:Ctx)(ρ:Loc)(X:Addr→Loc→Hp→Prop)(r:Expr)(Q:V→Hp→Prop)(a:V)(σ1:Hp):Prop:=WE c d r ρ σ1 (ZfP Q a) X
theorem Oz{l r:Expr}{pos:Pos}{Q:V→Hp→Prop}
  (h:WE c d l ρ σ (K8D4 d c ρ X r Q) X):WE c d (.BinOp l .Mult r pos) ρ σ Q X:=
 Hw h fun a b σ w os₀ A env k g s Q' E' x y hB S va vb hQ=>by
  obtain⟨v,n,e1,e2,hz,q⟩:=hB
  obtain⟨t,f2⟩:=(show VR w g (.int n) y from e2▸vb).intI
  obtain⟨a,Vs,m,f1,p,r⟩:=(show VR w g (.lst [v]) x from e1▸va).inv
  obtain⟨z,r',f3,r0,r1⟩:=r.inv
  rw[f1,f2]
  rw[f3,show r'=[]from r1.inv]at p
  exact Zdy (S.st.fr _ _ p) hz (hQ _ _ _ g _ (Le.refl g) (.ref _) (S.pushed (Le.refl g) (S.st.newL (n:=0) (VRs.rep r0 n))) (q _ (S.st.fresh (Nat.le_refl _)).ls))
end
end
end Internal
namespace Internal
open PySem PySem.W PyProof.Rows PySem.Calls PySem.Spec
section
noncomputable def V.toD:V→PyData:=
 V.rec (motive_1:=fun q_=>PyData) (motive_2:=fun q_=>List PyData) (motive_3:=fun q_=>Unit) (motive_4:=fun q_=>Unit) (motive_5:=fun q_=>Unit) (motive_6:=fun q_=>Unit) .none .bool .int .str (fun q_=>.none) (fun q_ d=>.tuple d) (fun q_ d=>.list d)
  (fun q_ q_ q_=>.none) (fun q_ q_=>.none) (fun q_ q_=>.none) (fun q_=>.none) (fun q_=>.none) [] (fun q_ q_ d ds=>d::ds) () (fun q_ q_ q_ q_=>()) () (fun q_ q_ q_ q_=>()) (fun q_ q_ q_=>()) (fun q_ q_ q_=>())
noncomputable def V.toDs:List V→List PyData:=
 V.rec_1 (motive_1:=fun q_=>PyData) (motive_2:=fun q_=>List PyData) (motive_3:=fun q_=>Unit) (motive_4:=fun q_=>Unit) (motive_5:=fun q_=>Unit) (motive_6:=fun q_=>Unit) .none .bool .int .str (fun q_=>.none) (fun q_ d=>.tuple d) (fun q_ d=>.list d)
  (fun q_ q_ q_=>.none) (fun q_ q_=>.none) (fun q_ q_=>.none) (fun q_=>.none) (fun q_=>.none) [] (fun q_ q_ d ds=>d::ds) () (fun q_ q_ q_ q_=>()) () (fun q_ q_ q_ q_=>()) (fun q_ q_ q_=>()) (fun q_ q_ q_=>())
noncomputable def V.isG(t:List V→Bool)(v:V):Bool:=V.casesOn v true (fun q_=>true) (fun q_=>true) PyData.strOk (fun q_=>false) t t (fun q_ q_=>false) (fun q_=>false) (fun q_=>false) (fun q_=>false) (fun q_=>false)
noncomputable def V.isDs:Nat→List V→Bool:=Nat.rec (fun q_=>false) fun q_ t vs=>vs.all (V.isG t)
noncomputable def V.isD(n:Nat):V→Bool:=V.isG (V.isDs n)
theorem Um{α:Type}{f:α→V}{n:Nat}(h:∀x,V.isD n (f x)=true)(l:List α):V.isD (n+1) (.lst (l.map f))=true:=List.all_eq_true.mpr fun v m=>(List.mem_map.mp m).elim fun x e=>e.2▸h x
theorem XK{w:World}{g:Frz}{h:Heap}(l:∀b o,g b=some o→h.get? b=some o){v:V}{x:Value}(r:VR w g v x):∀n:Nat,V.isD n v=true→∃as,Reads h x v.toD as:=
 VR.rec (motive_1:=fun v x q_=>∀n:Nat,V.isD n v=true→∃as,Reads h x v.toD as) (motive_2:=fun vs xs q_=>∀n:Nat,vs.all (V.isD n)=true→∃as,ReadsAll h xs (V.toDs vs) as)
  (fun q_ q_=>⟨_,.none⟩) (fun b q_ q_=>⟨_,.bool b⟩) (fun i t q_ q_=>⟨_,.int i t⟩) (fun s t q_ q_=>⟨_,.str s t⟩) (fun q_ q_ d=>nomatch d)
  (fun a vs Vs e q_ ih n=>Nat.casesOn n (fun d=>nomatch d) fun n d=>(ih n d).elim fun as z=>⟨_,.tuple (l _ _ e) rfl rfl z⟩) (fun a vs Vs m e q_ ih n=>Nat.casesOn n (fun d=>nomatch d) fun n d=>(ih n d).elim fun as z=>⟨_,.list (l _ _ e) rfl rfl z⟩)
  (fun q_ q_ q_ q_ q_ q_ q_ q_ q_ q_ q_ q_ q_ d=>nomatch d) (fun q_ q_ q_ q_ q_ q_ q_ q_ q_ q_ d=>nomatch d) (fun q_ q_ q_ q_ q_ q_ q_ q_ q_ q_ d=>nomatch d) (fun q_ q_ q_ q_ q_ q_ q_ q_ q_ q_ q_ q_ q_ q_ q_ d=>nomatch d) (fun q_ q_ d=>nomatch d)
  (fun q_ q_=>⟨_,.nil⟩) (fun q_ q_ iha ihb n d=>have d:=Bool.and_eq_true_iff.mp d;(iha n d.1).elim fun as z=>(ihb n d.2).elim fun bs y=>⟨_,.cons z y⟩) r
theorem GX{w:World}{g:Frz}{h:Heap}(l:∀b o,g b=some o→h.get? b=some o){vs:List V}{xs:List Value}(r:VRs w g vs xs)(n:Nat):vs.all (V.isD n)=true→∃as,ReadsAll h xs (V.toDs vs) as:=
 r.ind (M:=fun vs xs=>vs.all (V.isD n)=true→∃as,ReadsAll h xs (V.toDs vs) as) (fun q_=>⟨_,.nil⟩) fun a q_ ih d=>have d:=Bool.and_eq_true_iff.mp d;(XK l a n d.1).elim fun as z=>(ih d.2).elim fun bs y=>⟨_,.cons z y⟩
theorem Kl(v:V):∀n:Nat,V.isD n v=true→v.toD.canLay0=true∧v.toD.depth≤n:=by
 have z:∀n,PyData.none.canLay0=true∧PyData.none.depth≤n:=fun n=>⟨by simp only[PyData.canLay0],by simp only[PyData.depth];exact Nat.zero_le n⟩
 refine V.rec (motive_1:=fun v=>∀n:Nat,V.isD n v=true→v.toD.canLay0=true∧v.toD.depth≤n) (motive_2:=fun vs=>∀n:Nat,vs.all (V.isD n)=true→PyData.canLayAll0 (V.toDs vs)=true∧PyData.depthAll (V.toDs vs)≤n) (motive_3:=fun q_=>True) (motive_4:=fun q_=>True) (motive_5:=fun q_=>True) (motive_6:=fun q_=>True)
  (fun n q_=>z n) (fun b n q_=>⟨?_,?_⟩) (fun i n q_=>⟨?_,?_⟩) (fun s n d=>⟨?_,?_⟩) (fun q_ q_ d=>nomatch d) (fun vs ih n=>Nat.casesOn n (fun d=>nomatch d) fun n d=>?_) (fun vs ih n=>Nat.casesOn n (fun d=>nomatch d) fun n d=>?_)
  (fun q_ q_ q_ q_ d=>nomatch d) (fun q_ q_ q_ d=>nomatch d) (fun q_ q_ q_ d=>nomatch d) (fun q_ q_ d=>nomatch d) (fun q_ q_ d=>nomatch d) (fun n q_=>⟨by simp only[V.toDs,PyData.canLayAll0],Nat.zero_le _⟩)
  (fun v vs iha ihb n d=>have d:=Bool.and_eq_true_iff.mp d;⟨?_,?_⟩) trivial (fun q_ q_ q_ q_=>trivial) trivial (fun q_ q_ q_ q_=>trivial) (fun q_ q_ q_=>trivial) (fun q_ q_ q_=>trivial) v
 ·show PyData.canLay0 (.bool b)=true;simp only[PyData.canLay0]
 ·show PyData.depth (.bool b)≤n;simp only[PyData.depth];exact Nat.zero_le n
 ·show PyData.canLay0 (.int i)=true;simp only[PyData.canLay0]
 ·show PyData.depth (.int i)≤n;simp only[PyData.depth];exact Nat.zero_le n
 ·show PyData.canLay0 (.str s)=true;simp only[PyData.canLay0];exact d
 ·show PyData.depth (.str s)≤n;simp only[PyData.depth];exact Nat.zero_le n
 ·show PyData.canLay0 (.tuple (V.toDs vs))=true∧PyData.depth (.tuple (V.toDs vs))≤n+1
  simp only[PyData.canLay0,PyData.depth];exact⟨(ih n d).1,Nat.succ_le_succ (ih n d).2⟩
 ·show PyData.canLay0 (.list (V.toDs vs))=true∧PyData.depth (.list (V.toDs vs))≤n+1
  simp only[PyData.canLay0,PyData.depth];exact⟨(ih n d).1,Nat.succ_le_succ (ih n d).2⟩
 ·show PyData.canLayAll0 (v.toD::V.toDs vs)=true
  simp only[PyData.canLayAll0];rw[(iha n d.1).1,(ihb n d.2).1];rfl
 ·show PyData.depthAll (v.toD::V.toDs vs)≤n
  simp only[PyData.depthAll];exact Nat.max_le.mpr ⟨(iha n d.1).2,(ihb n d.2).2⟩
noncomputable def deref(σ:Hp)(v:V):V:=V.casesOn v .none .bool .int .str (fun a=>(σ.ls a).elim (.ref a) .lst) .tup .lst .obj .idict .sdict .lam .bi
section
variable{w:World}{os₀:OsState}{lv:Option Addr}{d:Nat}{c:Ctx}{A:Around}{env:Env}{k g g':Frz}{ρ ρ':Loc}{σ σ':Hp}{s s':Shared}{X:Addr→Loc→Hp→Prop}
theorem St.data(S:St w os₀ lv k g σ s){n:Nat}{v:V}{x:Value}(r:VR w g v x)(e:V.isD n (deref σ v)=true):∃as,Reads s.heap x (deref σ v).toD as:=by
 have k:deref σ v=v→∃as,Reads s.heap x (deref σ v).toD as:=fun z=>by
  rw[z]at e⊢;exact XK S.fr r n e
 cases v with
 |ref a=>
  have e:V.isD n ((σ.ls a).elim (.ref a) .lst)=true:=e
  show ∃as,Reads s.heap x ((σ.ls a).elim (V.ref a) .lst).toD as
  cases q:σ.ls a with
  |none=>rw[q]at e;exact nomatch e
  |some vs=>
   rw[q]at e
   obtain⟨Vs,m,p,z⟩:=(S.ls a vs q).at_
   rw[r.refI]
   cases n with
   |zero=>exact nomatch e
   |succ n=>exact(GX S.fr z n e).elim fun as y=>⟨_,.list p rfl rfl y⟩
 |_=>exact k rfl
noncomputable abbrev K8E1(d:Nat)(c:Ctx)(ρ:Loc)(X:Addr→Loc→Hp→Prop)(r:Expr)(B:V→V→Hp→Prop)(a:V)(σ1:Hp):Prop:=WE c d r ρ σ1 (fun b σ2=>B a b σ2) X
theorem Ke{l r:Expr}{op:CmpOp}{pos:Pos}{Q:V→Hp→Prop}{B:V→V→Hp→Prop}
  (h:WE c d l ρ σ (K8E1 d c ρ X r B) X) (hm:behindInMarks op r=false)
  (hB:∀a b σ w os₀ A env k g s (Q':Value→Shared→Prop) (E':Value→Shared→Prop) x y,B a b σ→Sit w os₀ d c A env k g ρ σ s→VR w g a x→VR w g b y→(∀v σ' x g' s',Le g g'→VR w g' v x→Sit w os₀ d c A env k g' ρ σ' s'→Q v σ'→Q' x s')→wpAny (model PW w) A (compareOp op x y) Q' E' s):
  WE c d (.Compare l [op] [r] pos) ρ σ Q X:=
 WE.mk fun w os₀ A env k g s Q' E' S hE hQ=>
  wpAny_Compare1 (h.use S hE fun a σ1 x g1 s1 l1 va S1 hE1 h1=>h1.use S1 hE1 fun b σ2 y g2 s2 l2 vb S2 hE2 h2=>
   hB a b σ2 w os₀ A env k g2 s2 Q' E' x y h2 S2 (va.mono l2) vb fun v σ' x g' s' l r S' q=>hQ v σ' x g' s' ((l1.trans l2).trans l) r S' q) hm
theorem Gg{b:Bool}{x:Value}{Q':Bool→Shared→Prop}{E':Value→Shared→Prop}(r:VR w g (.bool b) x)(h:Q' b s):wpAny (model PW w) A (truthy x) Q' E' s:=r.boolI▸wpAny_truthy_bool h
inductive Zcy(Q:Bool→Hp→Prop)(v:V)(σ1:Hp):Prop
 |mk (b:_) (h1:v=.bool b) (h2:Q b σ1):Zcy Q v σ1
theorem Yl{e:Expr}{Q:Bool→Hp→Prop}(h:WE c d e ρ σ (Zcy Q) X)(he:(e.ctorIdx !=0&&e.ctorIdx !=3&&e.ctorIdx !=5&&e.ctorIdx !=15)=true):WT c d e ρ σ Q X:=
 WT.mk fun w os₀ A env k g s Q' E' S hE hQ=>
  wpAny_isTrue_value (h.use S hE fun v σ1 x g1 s1 l1 va S1 hE1 h1=>by
   obtain⟨b,e,q⟩:=h1
   exact Gg (e▸va) (hQ _ _ g1 _ l1 S1 q)) (Zbx he)
theorem Zq{l r:Expr}{op:CmpOp}{pos:Pos}{Q:Bool→Hp→Prop}(h:WE c d (.Compare l [op] [r] pos) ρ σ (Zcy Q) X)(hm:behindInMarks op r=false):WT c d (.Compare l [op] [r] pos) ρ σ Q X:=
 WT.mk fun w os₀ A env k g s Q' E' S hE hQ=>by
  have h1:=h.use (Q':=fun x s'=>wpAny (model PW w) A (truthy x) Q' E' s') (E':=E') S hE fun v σ1 x g1 s1 l1 va S1 hE1 h1=>by
   obtain⟨b,e,q⟩:=h1
   exact Gg (e▸va) (hQ _ _ g1 _ l1 S1 q)
  intro Γ p hΓ
  have h2:=h1 Γ p hΓ
  simp only[isTrue_Compare1,eval_Compare1,markedBehindIn_of_false hm,Sem.wp_bind',Sem.wp_holding,Sem.wp_cmd_standAt,Sem.wp_operate]at h2⊢
  refine Sem.wp_mono _ Γ _ (fun a p₁ s₁ h₁=>Sem.wp_mono _ Γ _ (fun b p₂ s₂ h₂=>Sem.wp_mono _ Γ _ (fun c p₃ s₃ h₃=>h₃ Γ _ hΓ) (fun q_ q_ q_ h'=>h') _ _ h₂) (fun q_ q_ q_ h'=>h') _ _ h₁) (fun q_ q_ q_ h'=>h') _ _ h2
noncomputable def icmp(op:CmpOp)(a b:Int):Option Bool:=CmpOp.casesOn op (some (a==b)) (some (a !=b)) (some (decide (a<b))) (some (decide (a≤b))) (some (decide (b<a))) (some (decide (b≤a))) none none none none
theorem HJ{op:CmpOp}{i j:Int}{b:Bool}{t u:Tok}{Q':Value→Shared→Prop}{E':Value→Shared→Prop}(e:icmp op i j=some b)(h:Q' (.bool b) s):wpAny (model PW w) A (compareOp op (.int i t) (.int j u)) Q' E' s:=by
 cases op
 ·exact eq_int ((Option.some.inj e).symm▸h)
 ·exact ne_int ((Option.some.inj e).symm▸h)
 ·exact lt_int ((Option.some.inj e).symm▸h)
 ·exact le_int ((Option.some.inj e).symm▸h)
 ·exact gt_int ((Option.some.inj e).symm▸h)
 ·exact ge_int ((Option.some.inj e).symm▸h)
 all_goals exact Ys e
theorem ZeB{op:CmpOp}{i j:Int}{b:Bool}{x y:Value}{Q':Value→Shared→Prop}{E':Value→Shared→Prop}(hx:VR w g (.int i) x)(hy:VR w g (.int j) y)(e:icmp op i j=some b)(h:Q' (.bool b) s):wpAny (model PW w) A (compareOp op x y) Q' E' s:=
 hx.intI.elim fun t e1=>hy.intI.elim fun u e2=>e1▸e2▸HJ e h
inductive ZfO(op:CmpOp)(Q:V→Hp→Prop)(a:V)(b:V)(σ2:Hp):Prop
 |mk (i:_) (j:_) (v:_) (h1:a=.int i) (h2:b=.int j) (h3:icmp op i j=some v) (h4:Q (.bool v) σ2):ZfO op Q a b σ2
noncomputable abbrev K8E2(d:Nat)(c:Ctx)(ρ:Loc)(X:Addr→Loc→Hp→Prop)(r:Expr)(op:CmpOp)(Q:V→Hp→Prop)(a:V)(σ1:Hp):Prop:=WE c d r ρ σ1 (ZfO op Q a) X
theorem Zl{l r:Expr}{op:CmpOp}{pos:Pos}{Q:V→Hp→Prop}
  (h:WE c d l ρ σ (K8E2 d c ρ X r op Q) X) (hm:behindInMarks op r=false):WE c d (.Compare l [op] [r] pos) ρ σ Q X:=
 Ke h hm fun a b σ w os₀ A env k g s Q' E' x y hB S va vb hQ=>by
  obtain⟨i,j,v,e1,e2,e,q⟩:=hB
  exact ZeB (e1▸va) (e2▸vb) e (hQ _ _ _ g _ (Le.refl g) (.bool _) S q)
inductive ZfN(ne:Bool)(Q:V→Hp→Prop)(a:V)(b:V)(σ2:Hp):Prop
 |mk (i:_) (j:_) (h1:a=.str i) (h2:b=.str j) (h3:Q (.bool (if ne then i !=j else i==j)) σ2):ZfN ne Q a b σ2
noncomputable abbrev K8E3(d:Nat)(c:Ctx)(ρ:Loc)(X:Addr→Loc→Hp→Prop)(r:Expr)(ne:Bool)(Q:V→Hp→Prop)(a:V)(σ1:Hp):Prop:=WE c d r ρ σ1 (ZfN ne Q a) X
theorem JU{l r:Expr}{pos:Pos}{ne:Bool}{Q:V→Hp→Prop}
  (h:WE c d l ρ σ (K8E3 d c ρ X r ne Q) X) (hm:behindInMarks (if ne then .NotEq else .Eq) r=false):WE c d (.Compare l [if ne then .NotEq else .Eq] [r] pos) ρ σ Q X:=
 Ke h hm fun a b σ w os₀ A env k g s Q' E' x y hB S va vb hQ=>by
  obtain⟨i,j,e1,e2,q⟩:=hB
  obtain⟨_,f1⟩:=(show VR w g (.str i) x from e1▸va).strI
  obtain⟨_,f2⟩:=(show VR w g (.str j) y from e2▸vb).strI
  rw[f1,f2]
  cases ne
  ·exact PyProof.Rows.eq_str (hQ _ _ _ g _ (Le.refl g) (.bool _) S q)
  ·exact PyProof.Rows.ne_str (hQ _ _ _ g _ (Le.refl g) (.bool _) S q)
theorem GY{v:V}(i:V.isD 20 v=true):SeqAt.shaped v.toD=true:=by
 unfold SeqAt.shaped;rw[(Kl _ _ i).1,Bool.true_and];exact decide_eq_true (Nat.le_trans (Kl _ _ i).2 (by decide))
noncomputable abbrev K8E4(d:Nat)(c:Ctx)(ρ:Loc)(X:Addr→Loc→Hp→Prop)(r:Expr)(ne:Bool)(Q:V→Hp→Prop)(a:V)(σ1:Hp):Prop:=WE c d r ρ σ1 (fun b σ2=>V.isD 20 (deref σ2 a)=true∧V.isD 20 (deref σ2 b)=true∧Q (.bool (if ne then !PyData.eqv (deref σ2 a).toD (deref σ2 b).toD else PyData.eqv (deref σ2 a).toD (deref σ2 b).toD)) σ2) X
theorem UX{l r:Expr}{pos:Pos}{ne:Bool}{Q:V→Hp→Prop}
  (h:WE c d l ρ σ (K8E4 d c ρ X r ne Q) X) (hm:behindInMarks (if ne then .NotEq else .Eq) r=false):WE c d (.Compare l [if ne then .NotEq else .Eq] [r] pos) ρ σ Q X:=
 Ke h hm fun a b σ w os₀ A env k g s Q' E' x y hB S va vb hQ=>by
  obtain⟨i,j,q⟩:=hB
  obtain⟨as,ra⟩:=S.st.data va i
  obtain⟨bs,rb⟩:=S.st.data vb j
  have sa:=GY i
  have sb:=GY j
  have hu:A.units+64<cLine:=S.room.u64
  cases ne
  ·exact eq_dataH ra rb sa sb hu (hQ _ _ _ g _ (Le.refl g) (.bool _) S q)
  ·exact ne_dataH ra rb sa sb hu (hQ _ _ _ g _ (Le.refl g) (.bool _) S q)
inductive ZfM(ne:Bool)(Q:V→Hp→Prop)(a:V)(b:V)(σ2:Hp):Prop
 |mk (vs:_) (h1:ZV σ2 b=some vs) (h2:V.isD 20 a=true) (h3:V.isD 20 (.lst vs)=true) (h4:Q (.bool (if ne then !(V.toDs vs).any fun y=>PyData.eqv y a.toD else(V.toDs vs).any fun y=>PyData.eqv y a.toD)) σ2):ZfM ne Q a b σ2
noncomputable abbrev K8E5(d:Nat)(c:Ctx)(ρ:Loc)(X:Addr→Loc→Hp→Prop)(r:Expr)(ne:Bool)(Q:V→Hp→Prop)(a:V)(σ1:Hp):Prop:=WE c d r ρ σ1 (ZfM ne Q a) X
theorem ZeV{l r:Expr}{pos:Pos}{ne:Bool}{Q:V→Hp→Prop}
  (h:WE c d l ρ σ (K8E5 d c ρ X r ne Q) X) (hm:behindInMarks (if ne then .NotIn else .In) r=false):WE c d (.Compare l [if ne then .NotIn else .In] [r] pos) ρ σ Q X:=
 Ke h hm fun a b σ w os₀ A env k g s Q' E' x y hB S va vb hQ=>by
  obtain⟨vs,e,i,j,q⟩:=hB
  obtain⟨as,ra⟩:=XK S.st.fr va _ i
  have la:=Kl _ _ i
  have lb:=Kl _ _ j
  obtain⟨b',Vs,n,rfl,p,rr⟩:=S.st.list e vb
  obtain⟨bs,rb⟩:=GX S.st.fr rr 19 j
  have rb':Reads s.heap (.ref b') (.list (V.toDs vs)) (b'::bs):=.list p rfl rfl rb
  have lb:=lb.1
  simp only[V.toD,PyData.canLay0]at lb
  have hu:A.units+1+min (PyData.depthAll (V.toDs vs)) a.toD.depth<cLine:=Nat.lt_of_le_of_lt (Nat.add_le_add_left (Nat.le_trans (Nat.min_le_right _ _) la.2) (A.units+1)) (Nat.lt_of_le_of_lt (show A.units+21≤A.units+64 from Nat.add_le_add_left (by decide) A.units) S.room.u64)
  cases ne
  ·exact SeqAt.in_list_reads rb' ra lb la.1 hu (hQ _ _ _ g _ (Le.refl g) (.bool _) S q)
  ·exact SeqAt.notIn_list_reads rb' ra lb la.1 hu (hQ _ _ _ g _ (Le.refl g) (.bool _) S q)
theorem St.notMods(S:St w os₀ lv k g σ s){a:Addr}{o:Obj}(e:g a=some o):(a==sysModules)=false:=by
 exact beq_eq_false_iff_ne.mpr fun q=>nomatch S.m1.symm.trans ((congrArg g q.symm).trans e)
noncomputable def Wo(σ:Hp)(v:V):Option (List (Int×V)):=V.casesOn v none (fun q_=>none) (fun q_=>none) (fun q_=>none) σ.ds (fun q_=>none) (fun q_=>none) (fun q_ q_=>none) some (fun q_=>none) (fun q_=>none) (fun q_=>none)
noncomputable def NV(σ:Hp)(v:V):Option (List (Str×V)):=V.casesOn v none (fun q_=>none) (fun q_=>none) (fun q_=>none) σ.ss (fun q_=>none) (fun q_=>none) (fun q_ q_=>none) (fun q_=>none) some (fun q_=>none) (fun q_=>none)
inductive ZfL(w:World)(g:Frz)(s:Shared)(x:Value)(vs:List (Int×V)):Prop
 |mk (a:_) (kvs:_) (h1:x=.ref a) (h2:s.heap.DictOf (intKind PW w) a kvs) (h3:PR w g vs kvs) (h4:(a==sysModules)=false):ZfL w g s x vs
theorem St.idict(S:St w os₀ lv k g σ s){v:V}{x:Value}{vs:List (Int×V)}(e:Wo σ v=some vs)(r:VR w g v x):ZfL w g s x vs:=by
 cases v with
 |ref a=>exact(S.ds a vs e).at_.elim fun kvs h=>⟨a,kvs,r.refI,h.1,h.2,beq_eq_false_iff_ne.mpr (QI S (S.ds a vs e).kn)⟩
 |idict fs=>exact r.inv.elim fun a h=>h.elim fun o h=>h.elim fun kvs h=>⟨a,kvs,h.1,h.2.2.1.dictOf (S.fr _ _ h.2.1),Option.some.inj e▸h.2.2.2,S.notMods h.2.1⟩
 |_=>exact Ys e
inductive ZfK(w:World)(g:Frz)(s:Shared)(x:Value)(vs:List (Str×V)):Prop
 |mk (a:_) (kvs:_) (h1:x=.ref a) (h2:s.heap.DictOf (strKind PW w) a kvs) (h3:PR w g vs kvs) (h4:(a==sysModules)=false):ZfK w g s x vs
theorem St.sdict(S:St w os₀ lv k g σ s){v:V}{x:Value}{vs:List (Str×V)}(e:NV σ v=some vs)(r:VR w g v x):ZfK w g s x vs:=by
 cases v with
 |ref a=>exact(S.ss a vs e).at_.elim fun kvs h=>⟨a,kvs,r.refI,h.1,h.2,beq_eq_false_iff_ne.mpr (QI S (S.ss a vs e).kn)⟩
 |sdict fs=>exact r.inv.elim fun a h=>h.elim fun o h=>h.elim fun kvs h=>⟨a,kvs,h.1,h.2.2.1.dictOf (S.fr _ _ h.2.1),Option.some.inj e▸h.2.2.2,S.notMods h.2.1⟩
 |_=>exact Ys e
end
end
section
section
variable{w:World}{os₀:OsState}{lv:Option Addr}{d:Nat}{c:Ctx}{A:Around}{env:Env}{k g g':Frz}{ρ ρ':Loc}{σ σ':Hp}{s s':Shared}{X:Addr→Loc→Hp→Prop}
theorem ZW{Q:List V→Hp→Prop}(h:Q [] σ):WL c d [] ρ σ Q X:=
 fun pos=>⟨fun w os₀ A env k g s Q' E' S hQ hE=>spliced_nil (hQ [] ρ σ [] g s (Le.refl g) .nil S ⟨rfl,h⟩)⟩
noncomputable abbrev K8F1(Q:List V→Hp→Prop)(v:V)(vs:List V)(σ2:Hp):Prop:=Q (v::vs) σ2
noncomputable abbrev K8F2(d:Nat)(c:Ctx)(ρ:Loc)(X:Addr→Loc→Hp→Prop)(es:List Expr)(Q:List V→Hp→Prop)(v:V)(σ1:Hp):Prop:=WL c d es ρ σ1 (K8F1 Q v) X
theorem Zh{e:Expr}{es:List Expr}{Q:List V→Hp→Prop}(h:WE c d e ρ σ (K8F2 d c ρ X es Q) X)
  (hs:(e.ctorIdx !=22)=true):WL c d (e::es) ρ σ Q X:=
 fun pos=>⟨fun w os₀ A env k g s Q' E' S hQ hE=>by
  show wpAny _ A (spliced (backTo pos (starEach (e::es) env))) Q' E' s
  rw[Bi hs]
  exact spliced_cons (h.use S hE fun v σ1 x g1 s1 l1 r1 S1 hE1 h1=>h1.use S1 hE1 fun vs σ2 xs g2 s2 l2 r2 S2 hE2 h2=>hQ _ ρ σ2 _ g2 s2 (l1.trans l2) (.cons (r1.mono l2) r2) S2 ⟨rfl,h2⟩)⟩
noncomputable def Zep:NameKind→Bool→Option V→Option V
 | .local,false,r=>r
 |_,_,_=>none
noncomputable def pevC:Const→Option V
 | .int i=>some (.int i)
 | .str i=>some (.str i)
 | .bool i=>some (.bool i)
 | .none=>some .none
 |_=>none
noncomputable def pev(c:Ctx)(ρ:Loc):Expr→Option V
 | .Name x _=>(c.scope.names.lookup x).elim none fun k=>Zep k (x==("__debug__" :Str)) (aget ρ x)
 | .Constant k _ _=>pevC k
 |_=>none
noncomputable def O9(c:Ctx)(ρ:Loc):List Expr→Option (List V)
 | []=>some []
 |e::es=>(pev c ρ e).elim none fun v=>(O9 c ρ es).elim none fun vs=>some (v::vs)
theorem ZbA{P:V→Prop}{x:Str}{pos:Pos}{v:V}(h:pev c ρ (.Name x pos)=some v)(h1:c.scope.names.lookup x=some .local→aget ρ x=some v→(x==("__debug__" :Str))=false→P v):P v:=by
 have h:(c.scope.names.lookup x).elim none (fun k=>Zep k (x==("__debug__" :Str)) (aget ρ x))=some v:=h
 revert h h1
 generalize (x==("__debug__" :Str))=b
 generalize c.scope.names.lookup x=o
 intro h1 h
 cases o with
 |none=>exact Ys h
 |some k=>
  cases b with
  |true=>cases k<;>exact Ys h
  |false=>
   cases k with
   |«local»=>exact h1 rfl h rfl
   |_=>exact Ys h
theorem Za0{P:Expr→V→Prop}(h1:∀x pos v,c.scope.names.lookup x=some .local→aget ρ x=some v→(x==("__debug__" :Str))=false→P (.Name x pos) v)
  (h2:∀i n pos,P (.Constant (.int i) n pos) (.int i)) (h3:∀i n pos,P (.Constant (.str i) n pos) (.str i)) (h4:∀i n pos,P (.Constant (.bool i) n pos) (.bool i)) (h5:∀n pos,P (.Constant .none n pos) .none) {e:Expr} {v:V} (h:pev c ρ e=some v):P e v:=by
 cases e with
 |Name x pos=>exact ZbA h (h1 x pos v)
 |Constant k n pos=>
  cases k with
  |int i=>exact Option.some.inj h▸h2 i n pos
  |str i=>exact Option.some.inj h▸h3 i n pos
  |bool i=>exact Option.some.inj h▸h4 i n pos
  |none=>exact Option.some.inj h▸h5 n pos
  |_=>exact Ys h
 |_=>exact Ys h
theorem Zah{e:Expr}{v:V}{Q:V→Hp→Prop}(he:pev c ρ e=some v)(h:Q v σ):WE c d e ρ σ Q X:=
 Za0 (P:=fun e v=>Q v σ→WE c d e ρ σ Q X) (fun q_ q_ q_ a b c=>YW a b c) (fun q_ q_ q_=>W7) (fun q_ q_ q_=>ZeU) (fun q_ q_ q_=>Bb) (fun q_ q_=>ZdY) he h
theorem Zcs{es:List Expr}{vs:List V}{Q:List V→Hp→Prop}(he:O9 c ρ es=some vs)(h:Q vs σ):WL c d es ρ σ Q X:=by
 induction es generalizing vs Q with
 |nil=>exact ZW (Option.some.inj he▸h)
 |cons e es ih=>
  have he:(pev c ρ e).elim none (fun v=>(O9 c ρ es).elim none fun vs=>some (v::vs))=some vs:=he
  cases h1:pev c ρ e with
  |none=>rw[h1]at he;exact Ys he
  |some v=>
   rw[h1]at he
   cases h2:O9 c ρ es with
   |none=>rw[h2]at he;exact Ys he
   |some ws=>
    rw[h2]at he
    exact Zh (Zah h1 (ih h2 (show Q (v::ws) σ from(Option.some.inj he).symm▸h))) (Za0 (P:=fun e q_=>(e.ctorIdx !=22)=true) (fun q_ q_ q_ q_ q_ q_=>rfl) (fun q_ q_ q_=>rfl) (fun q_ q_ q_=>rfl) (fun q_ q_ q_=>rfl) (fun q_ q_=>rfl) h1)
noncomputable abbrev K8F3(Q:V→Hp→Prop)(vs:List V)(σ1:Hp):Prop:=vs.length≤1000∧Q (.tup vs) σ1
theorem Zx{es:List Expr}{n:Nat}{pos:Pos}{Q:V→Hp→Prop}(h:WL c d es ρ σ (K8F3 Q) X):WE c d (.Tuple es n pos) ρ σ Q X:=
 WE.mk fun w os₀ A env k g s Q' E' S hE hQ=>wpAny_Tuple (h.use S hE fun vs σ1 xs g1 s1 l1 r1 S1 hE1 h1=>by
  have z:=S1.st.newTup r1
  exact⟨by rw[←r1.length];exact Nat.le_trans h1.1 (by decide),hQ _ _ _ _ _ (l1.trans z.2.1) z.2.2 (S1.pushed z.2.1 z.1) h1.2⟩)
noncomputable abbrev K8F4(Q:V→Hp→Prop)(vs:List V)(σ1:Hp):Prop:=vs.length≤1000∧Q (.lst vs) σ1
theorem ZN{es:List Expr}{pos:Pos}{Q:V→Hp→Prop}(h:WL c d es ρ σ (K8F4 Q) X):WE c d (.List es pos) ρ σ Q X:=
 WE.mk fun w os₀ A env k g s Q' E' S hE hQ=>wpAny_List (h.use S hE fun vs σ1 xs g1 s1 l1 r1 S1 hE1 h1=>by
  exact⟨by rw[←r1.length];exact Nat.le_trans h1.1 (by decide),(S1.st.newFixL (n:=0) r1).elim fun g2 z=>hQ _ _ _ _ _ (l1.trans z.2.1) z.2.2 (S1.pushed z.2.1 z.1) h1.2⟩)
noncomputable abbrev K8F5(Q:V→Hp→Prop)(vs:List V)(σ1:Hp):Prop:=vs.length≤1000∧∀D,σ1.ls D=none→Q (.ref D) {σ1 with ls:=up σ1.ls D (some vs)}
theorem YE{es:List Expr}{pos:Pos}{Q:V→Hp→Prop}(h:WL c d es ρ σ (K8F5 Q) X):WE c d (.List es pos) ρ σ Q X:=
 WE.mk fun w os₀ A env k g s Q' E' S hE hQ=>wpAny_List (h.use S hE fun vs σ1 xs g1 s1 l1 r1 S1 hE1 h1=>by
  have F:=S1.st.fresh (Nat.le_refl _)
  exact⟨by rw[←r1.length];exact Nat.le_trans h1.1 (by decide),hQ _ _ _ g1 _ l1 (.ref _) (S1.pushed (Le.refl g1) (S1.st.newL (n:=0) r1)) (h1.2 _ F.ls)⟩)
noncomputable abbrev K8F6(d:Nat)(c:Ctx)(ρ:Loc)(X:Addr→Loc→Hp→Prop)(a:Expr)(b:Expr)(Q:V→Hp→Prop)(v:Bool)(σ1:Hp):Prop:=if v=true then WE c d a ρ σ1 Q X else WE c d b ρ σ1 Q X
theorem UQ{t a b:Expr}{pos:Pos}{Q:V→Hp→Prop}(h:WT c d t ρ σ (K8F6 d c ρ X a b Q) X):WE c d (.IfExp t a b pos) ρ σ Q X:=
 WE.mk fun w os₀ A env k g s Q' E' S hE hQ=>wpAny_IfExp (h.use S hE fun v σ1 g1 s1 l1 S1 hE1 h1=>by
  cases v
  ·exact WE.use h1 S1 hE1 fun v σ2 x g2 s2 l2 r S2 hE2 q=>hQ _ _ _ _ _ (l1.trans l2) r S2 q
  ·exact WE.use h1 S1 hE1 fun v σ2 x g2 s2 l2 r S2 hE2 q=>hQ _ _ _ _ _ (l1.trans l2) r S2 q)
noncomputable abbrev K8F7(Q:Bool→Hp→Prop)(v:Bool)(σ1:Hp):Prop:=Q (!v) σ1
theorem Kc{e:Expr}{pos:Pos}{Q:Bool→Hp→Prop}(h:WT c d e ρ σ (K8F7 Q) X):WT c d (.UnaryOp .Not e pos) ρ σ Q X:=
 WT.mk fun w os₀ A env k g s Q' E' S hE hQ=>wpAny_isTrue_Not (h.use S hE fun v σ1 g1 s1 l1 S1 hE1 h1=>hQ _ _ _ _ l1 S1 h1)
inductive E8F1(Q:V→Hp→Prop)(v:V)(σ1:Hp):Prop
 |mk (b:_) (h1:v=.bool b) (h2:Q (.bool (!b)) σ1):E8F1 Q v σ1
inductive ZfJ(Q:V→Hp→Prop)(v:V)(σ1:Hp):Prop
 |mk (b:_) (h1:v=.int b) (h2:Q (.int (-b)) σ1):ZfJ Q v σ1
theorem Jw{e:Expr}{pos:Pos}{Q:V→Hp→Prop}(h:WE c d e ρ σ (ZfJ Q) X):WE c d (.UnaryOp .USub e pos) ρ σ Q X:=
 WE.mk fun w os₀ A env k g s Q' E' S hE hQ=>wpAny_UnaryOp (h.use S hE fun v σ1 x g1 s1 l1 r1 S1 hE1 h1=>by
  obtain⟨b,e,q⟩:=h1
  exact(show VR w g1 (.int b) x from e▸r1).intI.elim fun t f=>f▸neg_int (hQ _ _ _ g1 _ l1 (.int _ _) (S1.toks _) q))
noncomputable def Bc(c:Ctx)(d:Nat)(op:BoolOp)(es:List Expr)(ρ:Loc)(σ:Hp)(Q:Bool→Hp→Prop)(X:Addr→Loc→Hp→Prop):Prop:=WG (ZcH Bool) (fun env=>allTrue op es env) c d ρ σ (fun v ρ' σ'=>ρ'=ρ∧Q v σ') X
theorem ZY{op:BoolOp}{es:List Expr}{pos:Pos}{Q:Bool→Hp→Prop}(h:Bc c d op es ρ σ Q X):WT c d (.BoolOp op es pos) ρ σ Q X:=
 ⟨fun w os₀ A env k g s Q' E' S hQ hE=>wpAny_isTrue_BoolOp (h.run w os₀ A env k g s Q' E' S hQ hE)⟩
theorem Ym{op:BoolOp}{Q:Bool→Hp→Prop}(h:Q (op== .And) σ):Bc c d op [] ρ σ Q X:=
 ⟨fun w os₀ A env k g s Q' E' S hQ hE=>by
  show wpAny _ A (allTrue op [] env) Q' E' s
  rw[arm_allTrue_nil];exact wpAny_pure (hQ _ ρ σ _ g s (Le.refl g) rfl S ⟨rfl,h⟩)⟩
theorem ZE{e:Expr}{es:List Expr}{Q:Bool→Hp→Prop}(h:WT c d e ρ σ (fun b σ1=>if b=true then Bc c d .And es ρ σ1 Q X else Q false σ1) X):Bc c d .And (e::es) ρ σ Q X:=
 ⟨fun w os₀ A env k g s Q' E' S hQ hE=>wpAny_allTrue_And_cons (h.use S hE fun v σ1 g1 s1 l1 S1 hE1 h1=>by
  cases v
  ·exact hQ _ ρ σ1 _ g1 _ l1 rfl S1 ⟨rfl,h1⟩
  ·exact h1.run w os₀ A env k g1 _ Q' E' S1 (fun v ρ' σ' x g' s' l r S' q=>hQ v ρ' σ' x g' s' (l1.trans l) r S' q) hE1)⟩
theorem ZZ{e:Expr}{es:List Expr}{Q:Bool→Hp→Prop}(h:WT c d e ρ σ (fun b σ1=>if b=true then Q true σ1 else Bc c d .Or es ρ σ1 Q X) X):Bc c d .Or (e::es) ρ σ Q X:=
 ⟨fun w os₀ A env k g s Q' E' S hQ hE=>by
  show wpAny _ A (do match BoolOp.Or,←isTrue e env (eval e env)with| .And,false=>pure false| .Or,true=>pure true|_,_=>allTrue .Or es env) Q' E' s
  refine wpAny_bind (h.use S hE fun v σ1 g1 s1 l1 S1 hE1 h1=>?_)
  cases v
  ·exact h1.run w os₀ A env k g1 _ Q' E' S1 (fun v ρ' σ' x g' s' l r S' q=>hQ v ρ' σ' x g' s' (l1.trans l) r S' q) hE1
  ·exact wpAny_pure (hQ _ ρ σ1 _ g1 _ l1 rfl S1 ⟨rfl,h1⟩)⟩
inductive ZfI(d:Nat)(c:Ctx)(ρ:Loc)(X:Addr→Loc→Hp→Prop)(b:Expr)(Q:V→Hp→Prop)(v:V)(σ1:Hp):Prop
 |mk (t:_) (h1:v=.bool t) (h2:if t=true then WE c d b ρ σ1 Q X else Q (.bool false) σ1):ZfI d c ρ X b Q v σ1
theorem Na{a b:Expr}{pos:Pos}{Q:V→Hp→Prop}(h:WE c d a ρ σ (ZfI d c ρ X b Q) X):WE c d (.BoolOp .And [a,b] pos) ρ σ Q X:=
 WE.mk fun w os₀ A env k g s Q' E' S hE hQ=>wpAny_And2 (h.use S hE fun v σ1 x g1 s1 l1 r1 S1 hE1 h1=>by
  obtain⟨t,e,h1⟩:=h1
  have r1:=e▸r1
  refine Gg r1 ?_
  cases t
  ·exact hQ _ _ _ g1 _ l1 r1 S1 h1
  ·exact WE.use h1 S1 hE1 fun v σ2 x g2 s2 l2 r S2 hE2 q=>hQ _ _ _ _ _ (l1.trans l2) r S2 q)
noncomputable def Vg(σ:Hp)(v:V):Option (Addr×List (Str×V)):=V.casesOn v none (fun q_=>none) (fun q_=>none) (fun q_=>none) (fun a=>(σ.is a).map fun r=>(r.C,r.fs)) (fun q_=>none) (fun q_=>none) (fun C fs=>some (C,fs)) (fun q_=>none) (fun q_=>none) (fun q_=>none) (fun q_=>none)
theorem Za{a:Addr}{x:Bool}{C dd:Addr}{fs:List (Str×V)}(h:σ.is a=some ⟨x,C,dd,fs⟩):Vg σ (.ref a)=some (C,fs):=congrArg (Option.map fun r:Rec=>(r.C,r.fs)) h
theorem JH.notCls{r:Rec}{o:Obj}(x:JH r o):notCls o=true:=by
 unfold JH at x;split at x
 ·obtain⟨_,rfl⟩:=x;rfl
 ·rw[x];rfl
inductive ZfH(w:World)(g:Frz)(s:Shared)(x:Value)(C:Addr)(fs:List (Str×V)):Prop
 |mk (a:_) (ox:_) (od:_) (kvs:_) (h1:x=.ref a) (h2:InstAt s.heap a ox C (some od)) (h3:Jx (strKind PW w) od kvs) (h4:PR w g fs kvs):ZfH w g s x C fs
theorem St.inst(S:St w os₀ lv k g σ s){v:V}{x:Value}{C:Addr}{fs:List (Str×V)}(e:Vg σ v=some (C,fs))(r:VR w g v x):ZfH w g s x C fs:=by
 cases v with
 |ref a=>
  obtain⟨r',e,e'⟩:=Option.map_eq_some_iff.mp (show(σ.is a).map (fun r=>(r.C,r.fs))=some (C,fs)from e)
  have I:=S.is _ _ e
  have e1:r'.C=C:=congrArg Prod.fst e'
  have e2:r'.fs=fs:=congrArg Prod.snd e'
  exact I.at_.elim fun o h=>I.d.at_.elim fun kvs z=>(YQ z.1).elim fun od D=>⟨a,o,od,kvs,r.refI,e1▸⟨h.1,h.2.cls,h.2.notCls,by rw[h.2.dict];exact D.1⟩,D.2,e2▸z.2⟩
 |obj C' fs'=>
  have e':=Option.some.inj e
  have e1:C'=C:=congrArg Prod.fst e'
  have e2:fs'=fs:=congrArg Prod.snd e'
  exact r.inv.elim fun a h=>h.elim fun d h=>h.elim fun o h=>h.elim fun kvs h=>⟨a,_,o,kvs,h.1,(show InstAt s.heap a (instObj C' d) C (some o)from e1▸⟨S.fr _ _ h.2.1,rfl,rfl,S.fr _ _ h.2.2.1⟩),h.2.2.2.1,e2▸h.2.2.2.2⟩
 |_=>exact Ys e
theorem VX(x:Str)(v:Value):v.isStr x=Value.isStrOf x v:=by cases v<;>rfl
theorem Bl{es:List DictEntry}{kvs:List (Str×Value)}(h:Pairs (strKind PW w) es kvs):es.any (·.refKey)=false:=by
 induction h with
 |nil=>rfl
 |cons h1 h2 _ ih=>
  rw[List.any_cons,ih,Bool.or_false]
  obtain⟨t,e⟩:=Value.isStrOf_shape h1
  simp[DictEntry.refKey,e]
theorem Jx.lookIn{od:Obj}{kvs:List (Str×Value)}(D:Jx (strKind PW w) od kvs)(name:Str):lookIn name od=some (valueAt kvs name):=by
 obtain⟨es,ep,_,hd,_,hp,_⟩:=D
 unfold PySem.W.lookIn
 rw[hd]
 dsimp only
 have h1:=hp.find name
 have e:(fun x:DictEntry=>x.key.isStr name)=fun x=>(strKind PW w).is name x.key:=by
  funext x;exact VX name x.key
 rw[e]
 cases q:es.toList.find? (fun x=>(strKind PW w).is name x.key)with
 |some en=>rw[q]at h1;rw[←h1];rfl
 |none=>
  rw[q]at h1
  rw[←h1]
  dsimp only
  rw[Bl hp]
  rfl
noncomputable def Zt(C:Addr)(name:Str):Prop:=∀P,(plainGet (KK P) C name,hasDictIn (KK P) C,findIn (KK P) (.ref C) name)=(true,true,some none)
theorem Zt.get{C:Addr}{name:Str}(h:Zt C name)(P:Params):plainGet (KK P) C name=true:=congrArg (·.1) (h P)
theorem Zt.has{C:Addr}{name:Str}(h:Zt C name)(P:Params):hasDictIn (KK P) C=true:=congrArg (·.2.1) (h P)
theorem Zt.no{C:Addr}{name:Str}(h:Zt C name)(P:Params):findIn (KK P) (.ref C) name=some none:=congrArg (·.2.2) (h P)
noncomputable def Jt(v:V):Bool:=V.casesOn v true (fun q_=>true) (fun q_=>true) (fun q_=>true) (fun q_=>true) (fun q_=>true) (fun q_=>true) (fun q_ q_=>true) (fun q_=>true) (fun q_=>true) (fun q_=>true) (fun q_=>false)
theorem Br{v:V}{x:Value}(r:VR w g v x):Jt v=true→handedIn x=true:=
 VR.rec (motive_1:=fun v x q_=>Jt v=true→handedIn x=true) (motive_2:=fun q_ q_ q_=>True) (fun q_=>rfl) (fun q_ q_=>rfl) (fun q_ q_ q_=>rfl) (fun q_ q_ q_=>rfl) (fun q_ q_=>rfl) (fun q_ q_ q_ q_ q_ q_ q_=>rfl) (fun q_ q_ q_ q_ q_ q_ q_ q_=>rfl) (fun q_ q_ q_ q_ q_ q_ q_ q_ q_ q_ q_ q_ q_=>rfl)
  (fun q_ q_ q_ q_ q_ q_ q_ q_ q_ q_=>rfl) (fun q_ q_ q_ q_ q_ q_ q_ q_ q_ q_=>rfl) (fun q_ q_ q_ q_ q_ q_ q_ q_ q_ q_ q_ q_ q_ q_ q_=>rfl) (fun q_ h=>nomatch h) trivial (fun q_ q_ q_ q_=>trivial) r
theorem WU{v y:V}{x:Value}{C:Addr}{fs:List (Str×V)}{name:Str}{expr:Bool}{Q':Value→Shared→Prop}{E':Value→Shared→Prop}(S:St w os₀ lv k g σ s)(r:VR w g v x)(e:Vg σ v=some (C,fs))(ok:Zt C name)(hv:aget fs name=some y)(hh:Jt y=true)
  (h:∀z t,VR w g y z→Q' z {s with toks:=t}):wpAny (model PW w) A (getAttr x name expr) Q' E' s:=by
 obtain⟨a,ox,od,kvs,f,I,D,q⟩:=S.inst e r
 exact f▸(q.get hv).elim fun z hz=>get_value S.KIn I (plainGet_of (ok.get _)).1 (findObj_own (ok.has _) (ok.no _) rfl ((D.lookIn name).trans (congrArg some hz.1))) (Br hz.2 hh) (h _ _ hz.2)
inductive Zcx(name:Str)(Q:V→Hp→Prop)(v:V)(σ1:Hp):Prop
 |mk (C:_) (fs:_) (y:_) (h1:Vg σ1 v=some (C,fs)) (h2:Zt C name) (h3:aget fs name=some y) (h4:Jt y=true) (h5:Q y σ1):Zcx name Q v σ1
theorem DZ{o:Expr}{name:Str}{pos:Pos}{Q:V→Hp→Prop}(h:WE c d o ρ σ (Zcx name Q) X)
  (hb:∀env,attributeBase o name env (eval o env)=eval o env):WE c d (.Attribute o name pos) ρ σ Q X:=
 WE.mk fun w os₀ A env k g s Q' E' S hE hQ=>Attribute_any_ (h.use S hE fun v σ1 x g1 s1 l1 r1 S1 hE1 h1=>by
  obtain⟨C,fs,y,e1,e2,e3,e4,q⟩:=h1
  exact WU S1.st r1 e1 e2 e3 e4 fun z t rz=>hQ _ _ _ g1 _ l1 rz (S1.toks t) q) (by rw[arm_eval_Attribute,hb])
theorem ZS{o:Expr}{name:Str}{pos:Pos}{Q:V→Hp→Prop}(h:WE c d o ρ σ (Zcx name Q) X)(hb:Zae o=true):WE c d (.Attribute o name pos) ρ σ Q X:=DZ h fun q_=>Bx hb
noncomputable abbrev K8F8(d:Nat)(c:Ctx)(ρ:Loc)(X:Addr→Loc→Hp→Prop)(i:Expr)(B:V→V→Hp→Prop)(a:V)(σ1:Hp):Prop:=WE c d i ρ σ1 (fun b σ2=>B a b σ2) X
theorem W6{o i:Expr}{pos:Pos}{Q:V→Hp→Prop}{B:V→V→Hp→Prop}
  (h:WE c d o ρ σ (K8F8 d c ρ X i B) X)
  (hB:∀a b σ w os₀ A env k g s (Q':Value→Shared→Prop) (E':Value→Shared→Prop) x y,B a b σ→Sit w os₀ d c A env k g ρ σ s→VR w g a x→VR w g b y→(∀v σ' x g' s',Le g g'→VR w g' v x→Sit w os₀ d c A env k g' ρ σ' s'→Q v σ'→Q' x s')→wpAny (model PW w) A (subscriptTail o i x y) Q' E' s):
  WE c d (.Subscript o i pos) ρ σ Q X:=
 WE.mk fun w os₀ A env k g s Q' E' S hE hQ=>
  Subscript_ (h.use S hE fun a σ1 x g1 s1 l1 va S1 hE1 h1=>h1.use S1 hE1 fun b σ2 y g2 s2 l2 vb S2 hE2 h2=>
   hB a b σ2 w os₀ A env k g2 s2 Q' E' x y h2 S2 (va.mono l2) vb fun v σ' x g' s' l r S' q=>hQ v σ' x g' s' ((l1.trans l2).trans l) r S' q)
noncomputable def place(i:Int)(n:Nat):Option Nat:=if i< -(2^63)∨2^63≤i then none else seqIndex? i n
theorem Z3{i n:Nat}(h:i<n)(hn:n<2^63):place (i:Int) n=some i:=by
 unfold place
 rw[if_neg (by lia)]
 simp only[seqIndex?]
 rw[if_neg (by lia:¬(i:Int)<0),if_pos (by simp;assumption)]
 simp
set_option tactic.hygienic true in
theorem WD{i:Int}{n j:Nat}(h:place i n=some j):¬(i< -(2^63)∨2^63≤i)∧seqIndex? i n=some j:=by
 unfold place at h;split at h
 ·cases h
 ·rename_i q;exact⟨q,h⟩
theorem Df{i:Int}{n j:Nat}(h:seqIndex? i n=some j):(0≤i→j=i.toNat)∧(i<0→j=(i+n).toNat∧-(n:Int)≤i):=by
 simp only[seqIndex?,Bool.and_eq_true,decide_eq_true_eq]at h
 by_cases h0:i<0
 ·simp only[h0,if_true,Option.ite_none_right_eq_some,Option.some.injEq]at h
  exact⟨fun q=>by lia,fun q_=>⟨h.2.symm,by lia⟩⟩
 ·simp only[h0,if_false,Option.ite_none_right_eq_some,Option.some.injEq]at h
  exact⟨fun q_=>h.2.symm,fun q=>by lia⟩
theorem Zd9{l:Addr}{Vs:List Value}{n p:Nat}{j:Int}{t:Tok}{z:Value}{Q':Value→Shared→Prop}{E':Value→Shared→Prop}(e:s.heap.get? l=some (Zu Vs n))(hp:place j Vs.length=some p)(hz:Vs[p]? =some z)(h:Q' z s):wpAny (model PW w) A (getItem (.ref l) (.int j t)) Q' E' s:=by
 have h2:=WD hp
 have h34:=Df h2.2
 have hn:=not_or.mp h2.1
 by_cases h0:0≤j
 ·exact wpAny_getItem_list (ZM e) h0 (Int.not_le.mp hn.2) (by rw[List.getElem?_toArray,←h34.1 h0];exact hz) h
 ·have h0:=Int.not_le.mp h0
  have h5:=h34.2 h0
  exact wpAny_getItem_list_neg (ZM e) h0 h5.2 (Int.not_lt.mp hn.1) (by rw[List.getElem?_toArray,List.size_toArray,←h5.1];exact hz) h
inductive ZfG(Q:V→Hp→Prop)(a:V)(b:V)(σ2:Hp):Prop
 |mk (vs:_) (j:_) (p:_) (v:_) (h1:ZV σ2 a=some vs) (h2:b=.int j) (h3:place j vs.length=some p) (h4:vs[p]? =some v) (h5:Q v σ2):ZfG Q a b σ2
noncomputable abbrev K8F9(d:Nat)(c:Ctx)(ρ:Loc)(X:Addr→Loc→Hp→Prop)(i:Expr)(Q:V→Hp→Prop)(a:V)(σ1:Hp):Prop:=WE c d i ρ σ1 (ZfG Q a) X
theorem Zp{o i:Expr}{pos:Pos}{Q:V→Hp→Prop}(h:WE c d o ρ σ (K8F9 d c ρ X i Q) X):WE c d (.Subscript o i pos) ρ σ Q X:=
 W6 h fun a b σ w os₀ A env k g s Q' E' x y hB S va vb hQ=>by
  obtain⟨vs,j,p,v,e1,e2,hp,hv,q⟩:=hB
  obtain⟨l,Vs,n,f1,e,r⟩:=S.st.list e1 va
  refine(show VR w g (.int j) y from e2▸vb).intI.elim fun t f2=>(r.get hv).elim fun z hz=>?_
  rw[f1,f2]
  exact tail_any (ZM e).typeIs slot_list_getitem.lookup (Zd9 e (r.length▸hp) hz.1 (hQ _ _ _ g _ (Le.refl g) hz.2 S q)) (We _ _ _).choose_spec
inductive ZfF(Q:V→Hp→Prop)(a:V)(b:V)(σ2:Hp):Prop
 |mk (vs:_) (j:_) (p:_) (v:_) (h1:a=.tup vs) (h2:b=.int j) (h3:place j vs.length=some p) (h4:vs[p]? =some v) (h5:Q v σ2):ZfF Q a b σ2
noncomputable abbrev Zg7(d:Nat)(c:Ctx)(ρ:Loc)(X:Addr→Loc→Hp→Prop)(i:Expr)(Q:V→Hp→Prop)(a:V)(σ1:Hp):Prop:=WE c d i ρ σ1 (ZfF Q a) X
theorem Z8{o i:Expr}{pos:Pos}{Q:V→Hp→Prop}(h:WE c d o ρ σ (Zg7 d c ρ X i Q) X):WE c d (.Subscript o i pos) ρ σ Q X:=
 W6 h fun a b σ w os₀ A env k g s Q' E' x y hB S va vb hQ=>by
  obtain⟨vs,j,p,v,e1,e2,hp,hv,q⟩:=hB
  obtain⟨l,Vs,f1,e,r⟩:=(show VR w g (.tup vs) x from e1▸va).inv
  refine(show VR w g (.int j) y from e2▸vb).intI.elim fun t f2=>(r.get hv).elim fun z hz=>?_
  rw[f1,f2]
  have h:=WD hp
  have hn:=not_or.mp h.1
  have ht:s.heap.IsTuple l Vs.toArray:=WM (S.st.fr _ _ e)
  exact tail_any ht.typeIs slot_tuple_getitem.lookup (getItem_tuple ht (Int.not_lt.mp hn.1) (Int.not_le.mp hn.2) (by rw[List.size_toArray,←r.length];exact h.2) ((List.getElem?_toArray ..).trans hz.1) (hQ _ _ _ g _ (Le.refl g) hz.2 S q)) (We _ _ _).choose_spec
inductive ZfE(Q:V→Hp→Prop)(a:V)(b:V)(σ2:Hp):Prop
 |mk (fs:_) (j:_) (v:_) (h1:Wo σ2 a=some fs) (h2:b=.int j) (h3:aget fs j=some v) (h4:Q v σ2):ZfE Q a b σ2
noncomputable abbrev Zg6(d:Nat)(c:Ctx)(ρ:Loc)(X:Addr→Loc→Hp→Prop)(i:Expr)(Q:V→Hp→Prop)(a:V)(σ1:Hp):Prop:=WE c d i ρ σ1 (ZfE Q a) X
theorem HZ{o i:Expr}{pos:Pos}{Q:V→Hp→Prop}(h:WE c d o ρ σ (Zg6 d c ρ X i Q) X):WE c d (.Subscript o i pos) ρ σ Q X:=
 W6 h fun a b σ w os₀ A env k g s Q' E' x y hB S va vb hQ=>by
  obtain⟨fs,j,v,e1,e2,hv,q⟩:=hB
  obtain⟨l,kvs,f1,hd,r,_⟩:=S.st.idict e1 va
  refine(show VR w g (.int j) y from e2▸vb).intI.elim fun t f2=>(r.get hv).elim fun z hz=>?_
  rw[f1,f2]
  exact tail_any hd.typeIs slot_dict_getitem.lookup (wpAny_getItem_of (knd:=intKind PW w) (k:=j) (beq_self_eq_true j) hd.mapOf hz.1 (hQ _ _ _ g _ (Le.refl g) hz.2 (S.toks _) q)) (We _ _ _).choose_spec
inductive ZfD(Q:V→Hp→Prop)(a:V)(b:V)(σ2:Hp):Prop
 |mk (fs:_) (j:_) (v:_) (h1:NV σ2 a=some fs) (h2:b=.str j) (h3:aget fs j=some v) (h4:Q v σ2):ZfD Q a b σ2
noncomputable abbrev Zg5(d:Nat)(c:Ctx)(ρ:Loc)(X:Addr→Loc→Hp→Prop)(i:Expr)(Q:V→Hp→Prop)(a:V)(σ1:Hp):Prop:=WE c d i ρ σ1 (ZfD Q a) X
theorem ZR{o i:Expr}{pos:Pos}{Q:V→Hp→Prop}(h:WE c d o ρ σ (Zg5 d c ρ X i Q) X):WE c d (.Subscript o i pos) ρ σ Q X:=
 W6 h fun a b σ w os₀ A env k g s Q' E' x y hB S va vb hQ=>by
  obtain⟨fs,j,v,e1,e2,hv,q⟩:=hB
  obtain⟨l,kvs,f1,hd,r,_⟩:=S.st.sdict e1 va
  refine(show VR w g (.str j) y from e2▸vb).strI.elim fun t f2=>(r.get hv).elim fun z hz=>?_
  rw[f1,f2]
  exact tail_any hd.typeIs slot_dict_getitem.lookup (wpAny_getItem_of (knd:=strKind PW w) (k:=j) (beq_self_eq_true j) hd.mapOf hz.1 (hQ _ _ _ g _ (Le.refl g) hz.2 (S.toks _) q)) (We _ _ _).choose_spec
inductive Zdf(Q:V→Hp→Prop)(a:V)(b:V)(σ2:Hp):Prop
 |mk (x:_) (j:_) (p:_) (n:_) (h1:a=.str x) (h2:b=.int j) (h3:place j x.length=some p) (h4:x.cps[p]? =some n) (h5:Q (.str ⟨#[n]⟩) σ2):Zdf Q a b σ2
noncomputable abbrev Zg4(d:Nat)(c:Ctx)(ρ:Loc)(X:Addr→Loc→Hp→Prop)(i:Expr)(Q:V→Hp→Prop)(a:V)(σ1:Hp):Prop:=WE c d i ρ σ1 (Zdf Q a) X
theorem ZdX{o i:Expr}{pos:Pos}{Q:V→Hp→Prop}(h:WE c d o ρ σ (Zg4 d c ρ X i Q) X):WE c d (.Subscript o i pos) ρ σ Q X:=
 W6 h fun a b σ w os₀ A env k g s Q' E' x y hB S va vb hQ=>by
  obtain⟨u,j,p,n,e1,e2,hp,hv,q⟩:=hB
  refine(show VR w g (.int j) y from e2▸vb).intI.elim fun t f2=>(show VR w g (.str u) x from e1▸va).strI.elim fun t' f1=>?_
  rw[f1,f2]
  have h:=WD hp
  exact tail_any (typeIs_str s u _) slot_str_getitem.lookup (PyProof.Rows.getItem_str (by first|exact⟨Int.not_lt.mp fun x=>h.1 (.inl x),Int.not_le.mp fun x=>h.1 (.inr x)⟩| (simp;lia)) (by rw[h.2];exact hv) (hQ _ _ _ g _ (Le.refl g) (.str _ _) (S.toks _) q)) (We _ _ _).choose_spec
end
end
section
section
variable{w:World}{os₀:OsState}{lv:Option Addr}{d:Nat}{c:Ctx}{A:Around}{env:Env}{k g g':Frz}{ρ ρ':Loc}{σ σ':Hp}{s s':Shared}{X:Addr→Loc→Hp→Prop}
theorem Zd4{vs:List V}{Vs:List Value}(r:VRs w g vs Vs)(lo hi:Option Int):VRs w g ((vs.drop (kms_lo lo vs.length)).take (kms_hi hi vs.length-kms_lo lo vs.length)) (kms_pick Vs lo hi):=by
 unfold kms_pick
 rw[←r.length]
 exact(r.drop _).take _
inductive Part:V→Option Int→Prop
 |none:Part .none none
 |int (i:Int):Part (.int i) (some i)
theorem Part.is{v:V}{x:Value}{i:Option Int}(p:Part v i)(r:VR w g v x):IsPart x i:=by
 cases p<;>cases r<;>constructor
noncomputable def WO(c:Ctx)(d:Nat)(e:Option Expr)(ρ:Loc)(σ:Hp)(Q:V→Hp→Prop)(X:Addr→Loc→Hp→Prop):Prop:=WG VR (evalPart e) c d ρ σ (fun v ρ' σ'=>ρ'=ρ∧Q v σ') X
theorem W5{Q:V→Hp→Prop}(h:Q .none σ):WO c d none ρ σ Q X:=
 ⟨fun w os₀ A env k g s Q' E' S hQ hE=>wpAny_evalPart_none (hQ _ ρ σ _ g s (Le.refl g) .none S ⟨rfl,h⟩)⟩
theorem Kv{e:Expr}{Q:V→Hp→Prop}(h:WE c d e ρ σ Q X):WO c d (some e) ρ σ Q X:=
 ⟨fun w os₀ A env k g s Q' E' S hQ hE=>wpAny_evalPart_some (h.run w os₀ A env k g s Q' E' S hQ hE)⟩
theorem WO.use{e:Option Expr}{Q:V→Hp→Prop}{Q':Value→Shared→Prop}{E':Value→Shared→Prop}(h:WO c d e ρ σ Q X)(S:Sit w os₀ d c A env k g ρ σ s)(hE:Yu w os₀ d c A env k g X E')
  (hQ:∀v σ' x g' s',Le g g'→VR w g' v x→Sit w os₀ d c A env k g' ρ σ' s'→Yu w os₀ d c A env k g' X E'→Q v σ'→Q' x s'):wpAny (model PW w) A (evalPart e env) Q' E' s:=
 h.run w os₀ A env k g s Q' E' S (fun v ρ' σ' x g' s' l r S' q=>by obtain⟨rfl,q⟩:=q;exact hQ v σ' x g' s' l r S' (hE.mono l) q) hE
inductive ZfC(Q:V→Hp→Prop)(a:V)(b:V)(e:V)(σ3:Hp):Prop
 |mk (vs:_) (x:_) (y:_) (h1:ZV σ3 a=some vs) (h2:vs.length≤100000) (h3:Part b x) (h4:Part e y) (h5:Q (.lst ((vs.drop (kms_lo x vs.length)).take (kms_hi y vs.length-kms_lo x vs.length))) σ3):ZfC Q a b e σ3
noncomputable abbrev K8G1(d:Nat)(c:Ctx)(ρ:Loc)(X:Addr→Loc→Hp→Prop)(hi:Option Expr)(Q:V→Hp→Prop)(a:V)(b:V)(σ2:Hp):Prop:=WO c d hi ρ σ2 (ZfC Q a b) X
noncomputable abbrev K8G2(d:Nat)(c:Ctx)(ρ:Loc)(X:Addr→Loc→Hp→Prop)(lo:Option Expr)(hi:Option Expr)(Q:V→Hp→Prop)(a:V)(σ1:Hp):Prop:=WO c d lo ρ σ1 (K8G1 d c ρ X hi Q a) X
theorem Vy{o:Expr}{lo hi:Option Expr}{p pos:Pos}{Q:V→Hp→Prop}
  (h:WE c d o ρ σ (K8G2 d c ρ X lo hi Q) X)
  (ht:∀a r,letTemporaryGo o a r=pure ()):WE c d (.Subscript o (.Slice lo hi none p) pos) ρ σ Q X:=
 WE.mk fun w os₀ A env k g s Q' E' S hE hQ=>
  wpAny_Subscript_list_slice (h.use S hE fun a σ1 x g1 s1 l1 va S1 hE1 h1=>h1.use S1 hE1 fun b σ2 y g2 s2 l2 vb S2 hE2 h2=>h2.use S2 hE2 fun e σ3 z g3 s3 l3 ve S3 hE3 h3=>by
   obtain⟨vs,i,j,e1,hz,pi,pj,q⟩:=h3
   obtain⟨l,Vs,n,rfl,p,r⟩:=S3.st.list e1 (va.mono (l2.trans l3))
   refine⟨l,Vs.toArray,i,j,rfl,ZM p,(by rw[List.size_toArray,←r.length];exact Nat.le_trans hz (by decide)),pi.is (vb.mono l3),pj.is ve,?_⟩
   rw[kms_pick_eq]
   have S4:=S3.st.push {cls:=.type "slice",data:=.fields #[y,z,.none]}
   obtain⟨g4,S5,l5,v⟩:=S4.newFixL (n:=0) (Zd4 r i j)
   rw[Heap.size_push]at v
   exact hQ _ _ _ g4 _ (((l1.trans l2).trans l3).trans l5) v (S3.turn l5 S5 fun q_ e=>Heap.get?_push_of_some _ (Heap.get?_push_of_some _ e)) q) ht
inductive ZfB(Q:V→Hp→Prop)(a:V)(b:V)(σ2:Hp):Prop
 |mk (vs:_) (h1:ZV σ2 a=some vs) (h2:vs.length≤100000) (h3:b=.int (-1)) (h4:Q (.lst vs.reverse) σ2):ZfB Q a b σ2
noncomputable abbrev K8G3(d:Nat)(c:Ctx)(ρ:Loc)(X:Addr→Loc→Hp→Prop)(st:Expr)(Q:V→Hp→Prop)(a:V)(σ1:Hp):Prop:=WE c d st ρ σ1 (ZfB Q a) X
theorem Vz{pos:Pos}{Q:V→Hp→Prop}(h:∀D,σ.ds D=none→σ.ss D=none→Q (.ref D) {σ with ds:=up σ.ds D (some [])}):WE c d (.Dict [] [] pos) ρ σ Q X:=
 WE.mk fun w os₀ A env k g s Q' E' S hE hQ=>wpAny_Dict_empty (by
  have F:=S.st.fresh (Nat.le_refl _)
  refine hQ _ _ _ g _ (Le.refl g) (.ref _) (S.pushed (Le.refl g) ?_) (h _ F.ds F.ss)
  exact(S.st.push _).addD ⟨F.gn,F.kn,[],.new _,PR.nil⟩ F.ss F.d)
noncomputable def BX:List (Option Expr)→List Expr→List (Expr×Expr)
 |some k::ks,v::vs=>(k,v)::BX ks vs
 |_,_=>[]
noncomputable def PRel(w:World)(g:Frz)(fs:List (Str×V))(vs:List (Value×Value)):Prop:=∃kvs,Carries (PySem.strKind PW w) vs kvs∧PR w g fs kvs
noncomputable def OA(pos:Pos)(env:Env)(p:Expr×Expr):Sem Value×Sem Value:=(eval p.1 env,do let x←eval p.2 env;standAt pos;pure x)
noncomputable def WP(c:Ctx)(d:Nat)(ps:List (Expr×Expr))(ρ:Loc)(σ:Hp)(Q:List (Str×V)→Hp→Prop)(X:Addr→Loc→Hp→Prop):Prop:=
 ∀pos,WG PRel (fun env=>evalPairs (ps.map (OA pos env))) c d ρ σ (fun v ρ' σ'=>ρ'=ρ∧Q v σ') X
theorem DY{Q:List (Str×V)→Hp→Prop}(h:Q [] σ):WP c d [] ρ σ Q X:=
 fun pos=>⟨fun w os₀ A env k g s Q' E' S hQ hE=>evalPairs_nil (hQ [] ρ σ [] g s (Le.refl g) ⟨[],trivial,PR.nil⟩ S ⟨rfl,h⟩)⟩
noncomputable abbrev K8G4(d:Nat)(c:Ctx)(ρ:Loc)(X:Addr→Loc→Hp→Prop)(x:Str)(ps:List (Expr×Expr))(Q:List (Str×V)→Hp→Prop)(v:V)(σ1:Hp):Prop:=WP c d ps ρ σ1 (fun fs σ2=>Q ((x,v)::fs) σ2) X
theorem Jv{x:Str}{n:Nat}{p:Pos}{e:Expr}{ps:List (Expr×Expr)}{Q:List (Str×V)→Hp→Prop}(h:WE c d e ρ σ (K8G4 d c ρ X x ps Q) X):WP c d ((.Constant (.str x) n p,e)::ps) ρ σ Q X:=
 fun pos=>⟨fun w os₀ A env k g s Q' E' S hQ hE=>by
  show wpAny _ A (evalPairs ((eval (.Constant (.str x) n p) env,do let x←eval e env;standAt pos;pure x)::ps.map (OA pos env))) Q' E' s
  refine evalPairs_cons (wpAny_Constant_str ?_)
  have S0:=S.toks (s.toks+1)
  refine wpAny_bind (h.use S0 hE fun v σ1 y g1 s1 l1 r1 S1 hE1 h1=>wpAny_bind (wpAny_standAt (wpAny_pure ?_)))
  refine(h1 pos).run w os₀ A env k g1 s1 _ _ S1 (fun fs ρ' σ' vs g2 s2 l2 r2 S2 q=>?_) hE1
  obtain⟨rfl,q⟩:=q
  obtain⟨kvs,hc,pr⟩:=r2
  exact hQ _ ρ' σ' _ g2 s2 (l1.trans l2) ⟨(x,y)::kvs,⟨by simp[PySem.strKind,Value.isStrOf],rfl,hc⟩,PR.cons (r1.mono l2) pr⟩ S2 ⟨rfl,q⟩⟩
theorem ZaB{fs:List (Str×V)}{kvs:List (Str×Value)}(r:PR w g fs kvs)(hn:(fs.map (·.1)).Nodup):merged [] kvs=kvs:=merged_nil_of_nodup _ (r.1▸hn)
theorem GB{keys:List (Option Expr)}{values:List Expr}{pos:Pos}{Q:V→Hp→Prop}
  (h:WP c d (BX keys values) ρ σ (fun fs σ1=>(fs.map (·.1)).Nodup∧∀D,σ1.ds D=none→σ1.ss D=none→Q (.ref D) {σ1 with ss:=up σ1.ss D (some fs)}) X)
  (hsh:∀env pos,(evalEachOpt keys env).zip ((evalEach values env).map fun v=>do let x←v;standAt pos;pure x)=((BX keys values).map (OA pos env)).map fun p=>(some p.1,p.2))
  (h0:BX keys values≠[]) (hlen:(BX keys values).length≤15):WE c d (.Dict keys values pos) ρ σ Q X:=
 WE.mk fun w os₀ A env k g s Q' E' S hE hQ=>by
  refine wpAny_Dict_pairs (knd:=PySem.strKind PW w) (hsh env pos) (by simpa using h0) (by simpa using hlen) ?_
  have F:=S.st.fresh (Nat.le_refl _)
  have S0:=S.keep (s':={s with heap:=s.heap.push {cls:=.type "dict",data:=.dict #[]}}) (fun q_ q_ e=>Heap.get?_push_of_some _ e) rfl rfl
  have e0:({s with heap:=s.heap.push {cls:=.type "dict",data:=.dict #[]}}:Shared).heap.get? s.heap.objs.size=some {cls:=.type "dict",data:=.dict #[]}:=Heap.get?_push_size _ rfl
  have hL:env.locals≠s.heap.objs.size:=Nat.ne_of_lt S.llt
  have S1:Sit w os₀ d c A env (put k s.heap.objs.size {cls:=.type "dict",data:=.dict #[]}) g ρ σ {s with heap:=s.heap.push {cls:=.type "dict",data:=.dict #[]}}:=by
   obtain⟨top,fr,f1,f2,f3⟩:=S0.frs
   refine {S0 with st:=S0.st.hide F.free e0 F.kn F.gn,pins:=S0.pins.mono (Js (.inl F.kn)) (Le.refl g),frs:=⟨top,fr,f1,f2,fun e he=>?_⟩}
   obtain⟨x1,L,x2,x3⟩:=f3 e he
   exact⟨x1,L,x2,x3.imp id fun⟨y0,o,y1,y2⟩=>⟨y0,o,Js (.inl F.kn) _ _ y1,y2⟩⟩
  refine(h pos).run w os₀ A env _ g _ _ _ S1 (fun fs ρ' σ' vs g2 s2 l2 r2 S2 q=>?_) (fun a ρ' σ' g' s' l S' f x=>?_)
  ·obtain⟨rfl,hn,q⟩:=q
   obtain⟨kvs,hc,pr⟩:=r2
   have lk:Le k (put k s.heap.objs.size {cls:=.type "dict",data:=.dict #[]}):=Js (.inl F.kn)
   have eD:=S2.st.kp.at (fun q=>hL (Option.some.inj q)) (put_self _ _ _) (by simp)
   have hd:s2.heap.DictOf (PySem.strKind PW w) s.heap.objs.size []:=⟨_, #[],0,eD,⟨rfl,rfl,rfl⟩,rfl,(fun e he=>by simp at he),.nil,by simp⟩
   refine⟨kvs,hc,hd,fun h' hd' hs'=>?_⟩
   rw[ZaB pr hn]at hd'
   have gD:g2 s.heap.objs.size=none:=S2.st.kg _ _ (put_self _ _ _)
   have fD:Free σ' s.heap.objs.size:=by
    have hc:∀{o:Obj},s2.heap.get? s.heap.objs.size=some o→o.cls=.type "dict" :=fun e=>by rw[eD]at e;cases e;rfl
    refine S2.st.free_of eD (fun q=>by simp at q) (fun q_=>⟨?_,?_,fun b r q z=>?_⟩) (fun C q=>by cases q) (fun y q=>by cases q) (fun q=>by cases q)
    ·exact Yi fun x q=>by have:=(S2.st.ds _ x q).kn;rw[put_self]at this;cases this
    ·exact Yi fun x q=>by have:=(S2.st.ss _ x q).kn;rw[put_self]at this;cases this
    ·have:=(S2.st.is b r q).d.kn;rw[z,put_self]at this;cases this
   have S3:=S2.st.kdown lk S.st.m2 fun b q=>by cases q;exact S.kl
   have hb:But s.heap.objs.size s2.heap h':=fun b o n e=>(hs'.2 b n).trans e
   have S4:St w os₀ (some env.locals) k g2 σ' {s2 with heap:=h',toks:=s2.toks+vs.length}:=S3.other fD F.kn gD hb rfl rfl
   have S5:=S4.addS ⟨gD,F.kn,kvs,hd',pr⟩ fD.ds fD.d
   refine hQ _ _ _ g2 _ l2 (.ref _) ?_ (q _ fD.ds fD.ss)
   have S2':Sit w os₀ d c A env k g2 ρ' σ' s2:=by
    obtain⟨top,fr,f1,f2,f3⟩:=S.frs
    refine {S2 with st:=S3,pins:=S.pins.mono (Le.refl k) l2,frs:=⟨top,fr,f1,f2,fun e he=>?_⟩}
    exact f3 e he
   exact S2'.turn (Le.refl g2) S5 fun o e=>hb _ _ hL e
  ·have lk:Le k (put k s.heap.objs.size {cls:=.type "dict",data:=.dict #[]}):=Js (.inl F.kn)
   refine hE a ρ' σ' g' s' l ?_ ?_ x
   ·exact {S' with st:=S'.st.kdown lk S.st.m2 (fun b q=>by cases q;exact S.kl),pins:=S.pins.mono (Le.refl k) l,frs:=S.frs}
   ·obtain⟨oe,vs,h1,h2,h3⟩:=f
    exact⟨oe,vs,h1,h2,h3.imp id fun⟨T,h4,h5,h6,r⟩=>⟨T,h4,h5,Zi lk h6,r⟩⟩
end
end
section
section
open PySem.Sem
theorem Nu{o:Obj}{es:Array DictEntry}{ep:Nat}(hd:o.data=.dict es ep)(name:Str)(hs:Int)(k v:Value):(Obj.putName name hs k v o).isFreed=false∧(Obj.putName name hs k v o).cls=o.cls:=by
 obtain⟨cl,dd,dt,sl⟩:=o
 subst hd
 rw[Obj.putName_eq]
 unfold Obj.putNameByArray
 dsimp only
 cases es.findIdx? (·.key.isStr name)<;>exact⟨rfl,rfl⟩
theorem Ni(M:Model)(Γ:PySem.Ctx)(E:Value→Pos→Shared→Prop)(p:Pos)(s:Shared){a:Addr}{o:Obj}{es:Array DictEntry}{ep:Nat}(ho:s.heap.get? a=some o)(hd:o.data=.dict es ep)(hk:StrKeys es)(name:Str)(v:Value):
  ∃C hs k,∀Q:Unit→Pos→Shared→Prop,wp M Γ (nsSet a name v) Q E p s=(C∧Q () p {s with heap:=s.heap.update a (Obj.putName name hs k v),toks:=s.toks+1}):=by
 have hany:es.any (·.refKey)=false:=by
  rw[Array.any_eq_false'];intro e he;obtain⟨n,t,h⟩:=hk e he;simp[DictEntry.refKey,h]
 simp only[nsSet,strHash,wp_bind',wp_cmd_ask,wp_pure',wp_cmd_mkText]
 refine⟨(s.heap.get? a).isSome=true,(if name.cps.isEmpty=true then 0 else reduceHash (M.w.params.strHash name.cps)),.str name s.toks,fun Q=>?_⟩
 rw[wp_loadPart_of M Γ E p {s with toks:=s.toks+1} (o:=o) _ ho]
 simp only[hd,aRefKeyMayBeTheName_eq,aRefKeyMayBeTheNameByArray,hany,Bool.and_false,Bool.false_eq_true,if_false,wp_cmd_updatePart]
theorem BY(M:Model)(Γ:PySem.Ctx)(E:Value→Pos→Shared→Prop)(p:Pos)(s:Shared){a:Addr}{m}(hn:s.heap.Ns a m)(name:Str)(v:Value)(c:Value)(hc:∀o,s.heap.get? a=some o→o.cls=c)(Q:Unit→Pos→Shared→Prop)
  (hQ:∀h',h'.Ns a (fun x=>if x=name then some v else m x)→Heap.SameBut a s.heap h'→(∃o,h'.get? a=some o∧o.cls=c)→Q () p {s with heap:=h',toks:=s.toks+1}):wp M Γ (nsSet a name v) Q E p s:=by
 have h1:=wp_nsSet M Γ E p s hn name v (fun q_ q_ s'=>(s'.heap.Ns a (fun x=>if x=name then some v else m x))∧Heap.SameBut a s.heap s'.heap) (fun h' x y=>⟨x,y⟩)
 obtain⟨o,es,ep,ho,hd,hk,_⟩:=hn
 obtain⟨C,hs,k,e⟩:=Ni M Γ E p s ho hd hk name v
 rw[e]at h1⊢
 have f:=Nu hd name hs k v
 exact⟨h1.1,hQ _ h1.2.1 h1.2.2 ⟨_,Heap.get?_update_self _ ho f.1,f.2.trans (hc _ ho)⟩⟩
end
theorem JW{M:Model}{A:Around}{E:Value→Shared→Prop}{s:Shared}{env:Env}{name:Str}{m}{v:Value}{c:Value}{Q:Unit→Shared→Prop}(hl:env.kindOf name=some .local)(hf:env.scope.kind=.function)
  (hn:s.heap.Ns env.locals m) (hc:∀o,s.heap.get? env.locals=some o→o.cls=c)
  (h:∀h',h'.Ns env.locals (fun x=>if x=name then some v else m x)→Heap.SameBut env.locals s.heap h'→(∃o,h'.get? env.locals=some o∧o.cls=c)→
   Q () {s with heap:=h',toks:=s.toks+1}):wpAny M A (storeName env name v) Q E s:=by
 rw[storeName_local hl (by rw[hf];rfl)]
 exact fun Γ p q_=>BY M Γ _ p s hn name v c hc _ h
section
variable{w:World}{os₀:OsState}{lv:Option Addr}{d:Nat}{c:Ctx}{A:Around}{env:Env}{k k' g g':Frz}{ρ ρ':Loc}{σ σ':Hp}{s s':Shared}{X:Addr→Loc→Hp→Prop}
theorem ZU.store(S:ZU w os₀ c env k g ρ σ s){x:Str}{v:V}{y:Value}(r:VR w g v y)(hk:c.scope.names.lookup x=some .local){Q':Unit→Shared→Prop}{E':Value→Shared→Prop}
  (h:∀s',ZU w os₀ c env k g (aset ρ x v) σ s'→Q' () s'):wpAny (model PW w) A (storeName env x y) Q' E' s:=by
 refine S.ns.elim fun m hn=>S.lc.elim fun o ho=>JW (c:=.type c.lty) ((S.kindOf x).trans hk) S.fn hn.1 (fun o' e=>Option.some.inj (ho.1.symm.trans e)▸ho.2) fun h' hn' hs hc'=>h _ ?_
 have hb:But env.locals s.heap h':=fun b o n e=>(hs.2 b n).trans e
 refine {S with st:=S.st.live hb (hc'.imp fun q_ h=>h.1) rfl rfl,ns:=⟨_,hn',fun z=>?_⟩,lc:=hc'}
 rw[ZT]
 by_cases hz:z=x
 ·rw[if_pos hz,if_pos hz];exact r
 ·rw[if_neg hz,if_neg hz];exact hn.2 z
theorem Sit.hide(S:Sit w os₀ d c A env k g ρ σ s){a:Addr}{o:Obj}(F:Free σ a)(e:s.heap.get? a=some o)(hk:k a=none)(hg:g a=none):Sit w os₀ d c A env (put k a o) g ρ σ s:=by
 exact {S with st:=S.st.hide F e hk hg,pins:=S.pins.mono (Js (.inl hk)) (Le.refl g),frs:=S.frs.imp fun q_ h=>h.imp fun q_ h=>⟨h.1,h.2.1,fun e he=>⟨(h.2.2 e he).1,(h.2.2 e he).2.imp fun q_ h=>⟨h.1,h.2.imp id fun h=>⟨h.1,h.2.imp fun q_ h=>⟨Js (.inl hk) _ _ h.1,h.2⟩⟩⟩⟩⟩}
theorem Sit.unhide(S:Sit w os₀ d c A env k g ρ σ s)(l:Le k' k)(m:(k' sysModules).isSome=true)(kl:(k' env.locals).isSome=true)(f:Jc k' c.lty A env)(pn:JI w c.pin k' g):Sit w os₀ d c A env k' g ρ σ s:=
 {S with pins:=pn,st:=S.st.kdown l m (fun b q=>Option.some.inj q▸kl),frs:=f}
structure WA(c:Ctx)(d:Nat)(t:Expr)(v:V)(ρ:Loc)(σ:Hp)(Q:Loc→Hp→Prop)(X:Addr→Loc→Hp→Prop):Prop where
 run:∀(w:World) (os₀:OsState) (A:Around) (env:Env) (k g:Frz) (s:Shared) (x:Value) (Q':Unit→Shared→Prop) (E':Value→Shared→Prop),Sit w os₀ d c A env k g ρ σ s→VR w g v x→
  (∀ρ' σ' g' s',Le g g'→Sit w os₀ d c A env k g' ρ' σ' s'→Q ρ' σ'→Q' () s')→Yu w os₀ d c A env k g X E'→wpAny (model PW w) A (assign t env x) Q' E' s
structure WN(c:Ctx)(x:Str)(v:V)(ρ:Loc)(σ:Hp)(Q:Loc→Hp→Prop):Prop where
 run:∀(w:World) (os₀:OsState) (A:Around) (env:Env) (k g:Frz) (s:Shared) (y:Value) (Q':Unit→Shared→Prop) (E':Value→Shared→Prop),ZU w os₀ c env k g ρ σ s→VR w g v y→
  (∀ρ' σ' s',ZU w os₀ c env k g ρ' σ' s'→Q ρ' σ'→Q' () s')→wpAny (model PW w) A (storeName env x y) Q' E' s
theorem Zg{x:Str}{v:V}{Q:Loc→Hp→Prop}(hk:c.scope.names.lookup x=some .local)(h:Q (aset ρ x v) σ):WN c x v ρ σ Q:=
 ⟨fun w os₀ A env k g s y Q' E' S r hQ=>S.store r hk fun s' S'=>hQ _ _ s' S' h⟩
theorem ZP{x:Str}{v:V}{a:Addr}{v₀:Option V}{Q:Loc→Hp→Prop}(hk:c.scope.names.lookup x=some .cell)(hc:c.cells.lookup x=some a)(hv:σ.cs a=some v₀)(h:Q ρ {σ with cs:=up σ.cs a (some (some v))}):WN c x v ρ σ Q:=
 ⟨fun w os₀ A env k g s y Q' E' S r hQ=>by
  exact(S.st.cs a _ hv).at_.elim fun o h0=>h0.elim fun z p=>wpAny_storeName_cell S.fn ((S.kindOf x).trans hk) (by rw[S.cells];exact hc) ⟨o,p.1,p.2.1⟩ fun h' i b=>i.elim fun o' e=>
   have hb:But a s.heap h':=fun b' o n e=>(b.2 b' n).trans e
   hQ _ _ _ (S.turn (Le.refl g) (S.st.setC (s':={s with heap:=h'}) hv hb e.1 e.2 (.some r) rfl rfl) fun o e=>hb _ _ (S.lne (S.st.cs a _ hv).kn) e) h⟩
theorem Zy{x:Str}{pos:Pos}{v:V}{Q:Loc→Hp→Prop}(h:WN c x v ρ σ Q):WA c d (.Name x pos) v ρ σ Q X:=
 ⟨fun w os₀ A env k g s y Q' E' S r hQ hE=>wpAny_assign_Name (h.run w os₀ A env k g s y Q' E' S.toZU r fun ρ' σ' s' F q=>hQ _ _ g s' (Le.refl g) (S.mk' F) q)⟩
noncomputable def WAs(c:Ctx)(d:Nat):List Expr→List V→Loc→Hp→(Loc→Hp→Prop)→(Addr→Loc→Hp→Prop)→Prop
 | [],[],ρ,σ,Q,_=>Q ρ σ
 |t::ts,v::vs,ρ,σ,Q,X=>WA c d t v ρ σ (fun ρ1 σ1=>WAs c d ts vs ρ1 σ1 Q X) X
 |_,_,_,_,_,_=>False
theorem WAs.use{ts:List Expr}:∀{vs:List V} {ρ:Loc} {σ:Hp} {g:Frz} {s:Shared} {xs:List Value} {Q:Loc→Hp→Prop} {Q':Unit→Shared→Prop} {E':Value→Shared→Prop},WAs c d ts vs ρ σ Q X→Sit w os₀ d c A env k g ρ σ s→VRs w g vs xs→Yu w os₀ d c A env k g X E'→
  (∀ρ' σ' g' s',Le g g'→Sit w os₀ d c A env k g' ρ' σ' s'→Q ρ' σ'→Q' () s')→wpAny (model PW w) A (assignInOrder (ts.map fun t=>assign t env) xs) Q' E' s:=by
 induction ts with
 |nil=>
  intro vs ρ σ g s xs Q Q' E' h S r hE hQ
  cases vs with
  |nil=>rw[show xs=[]from r.inv];exact wpAny_assignInOrder_none (hQ _ _ g _ (Le.refl g) S h)
  |cons v vs=>exact h.elim
 |cons t ts ih=>
  intro vs ρ σ g s xs Q Q' E' h S r hE hQ
  cases vs with
  |nil=>exact h.elim
  |cons v vs=>
   obtain⟨x,r',e,a,b⟩:=r.inv
   rw[e]
   exact wpAny_assignInOrder_more (WA.run h _ _ _ _ _ _ _ _ _ _ S a (fun ρ1 σ1 g1 s1 l1 S1 h1=>ih h1 S1 (b.mono l1) (hE.mono l1) fun ρ2 σ2 g2 s2 l2 S2 q=>hQ _ _ g2 _ (l1.trans l2) S2 q) hE)
theorem Q6{es:List Expr}{n:Nat}{pos:Pos}{v:V}{vs:List V}{Q:Loc→Hp→Prop}(hv:v=.tup vs)(hh:c.hd=none)(hl:es.length=vs.length)(he:∀env,assignEach es env=es.map fun e=>(false,assign e env))(h:WAs c d es vs ρ σ Q X):WA c d (.Tuple es n pos) v ρ σ Q X:=
 ⟨fun w os₀ A env k g s y Q' E' S r hQ hE=>by
  obtain⟨a,Vs,f,e,r⟩:=(show VR w g (.tup vs) y from hv▸r).inv
  rw[f]
  have ht:s.heap.IsTuple a Vs.toArray:=WM (S.st.fr _ _ e)
  have hA:A.handled=none:=by rw[S.hd,hh];rfl
  refine wpAny_assign_Tuple hA ht (by rw[he env,List.length_map,List.size_toArray,←r.length,hl]) (by rw[he env,List.findIdx?_map];simp[Function.comp_def]) fun h' hx=>?_
  rw[he env,List.map_map]
  have S1:Sit w os₀ d c A env k g ρ σ {s with heap:=h'}:=S.keep (fun b o e=>hx b o (Nat.ne_of_lt (Heap.lt_size e)) e) rfl rfl
  exact WAs.use h S1 r hE hQ⟩
theorem FR.use{w:World}{g:Frz}{v:Option V}{f:Flow}{N:Loc→Hp→Prop}{R:V→Hp→Prop}{G:Flow→Prop}(r:FR w g v f)(hN:N ρ σ→G .next)(hR:∀v x,VR w g v x→R v σ→G (.ret x))(q:nrP N R v ρ σ):G f:=by
 cases r with
 |next=>exact hN q
 |ret v x r=>exact hR v x r q
set_option tactic.hygienic true in
theorem WX.use{st:Stmt}{N:Loc→Hp→Prop}{R:V→Hp→Prop}{Q':Flow→Shared→Prop}{E':Value→Shared→Prop}(h:WX c d st ρ σ N R X)(S:Sit w os₀ d c A env k g ρ σ s)(hE:Yu w os₀ d c A env k g X E')
  (hN:∀ρ' σ' g' s',Le g g'→Sit w os₀ d c A env k g' ρ' σ' s'→Yu w os₀ d c A env k g' X E'→N ρ' σ'→Q' .next s') (hR:∀v ρ' σ' x g' s',Le g g'→VR w g' v x→Sit w os₀ d c A env k g' ρ' σ' s'→R v σ'→Q' (.ret x) s'):wpAny (model PW w) A (exec st env) Q' E' s:=
 h.run w os₀ A env k g s Q' E' S (fun v ρ' σ' x g' s' l r S'=>FR.use (G:=fun x=>Q' x s') r (hN _ _ g' _ l S' (hE.mono l)) fun v x r=>hR v _ _ x g' _ l r S') hE
set_option tactic.hygienic true in
theorem WS.use{st:List Stmt}{N:Loc→Hp→Prop}{R:V→Hp→Prop}{Q':Flow→Shared→Prop}{E':Value→Shared→Prop}(h:WS c d st ρ σ N R X)(S:Sit w os₀ d c A env k g ρ σ s)(hE:Yu w os₀ d c A env k g X E')
  (hN:∀ρ' σ' g' s',Le g g'→Sit w os₀ d c A env k g' ρ' σ' s'→Yu w os₀ d c A env k g' X E'→N ρ' σ'→Q' .next s') (hR:∀v ρ' σ' x g' s',Le g g'→VR w g' v x→Sit w os₀ d c A env k g' ρ' σ' s'→R v σ'→Q' (.ret x) s'):wpAny (model PW w) A (execs st env) Q' E' s:=
 h.run w os₀ A env k g s Q' E' S (fun v ρ' σ' x g' s' l r S'=>FR.use (G:=fun x=>Q' x s') r (hN _ _ g' _ l S' (hE.mono l)) fun v x r=>hR v _ _ x g' _ l r S') hE
set_option tactic.hygienic true in
theorem WX.mk{st:Stmt}{N:Loc→Hp→Prop}{R:V→Hp→Prop}(h:∀(w:World) (os₀:OsState) (A:Around) (env:Env) (k g:Frz) (s:Shared) (Q':Flow→Shared→Prop) (E':Value→Shared→Prop),Sit w os₀ d c A env k g ρ σ s→Yu w os₀ d c A env k g X E'→
  (∀ρ' σ' g' s',Le g g'→Sit w os₀ d c A env k g' ρ' σ' s'→N ρ' σ'→Q' .next s')→(∀v ρ' σ' x g' s',Le g g'→VR w g' v x→Sit w os₀ d c A env k g' ρ' σ' s'→R v σ'→Q' (.ret x) s')→wpAny (model PW w) A (exec st env) Q' E' s):WX c d st ρ σ N R X:=
 ⟨fun w os₀ A env k g s Q' E' S hQ hE=>h w os₀ A env k g s Q' E' S hE (fun ρ' σ' g' s' l S' q=>hQ none ρ' σ' _ g' s' l .next S' q) fun v ρ' σ' x g' s' l r S' q=>hQ (some v) ρ' σ' _ g' s' l (.ret v x r) S' q⟩
set_option tactic.hygienic true in
theorem Ji{N:Loc→Hp→Prop}{R:V→Hp→Prop}(h:N ρ σ):WS c d [] ρ σ N R X:=
 ⟨fun w os₀ A env k g s Q' E' S hQ hE=>wpAny_execs_nil (hQ none ρ σ _ g s (Le.refl g) .next S h)⟩
noncomputable abbrev K8H1(d:Nat)(c:Ctx)(X:Addr→Loc→Hp→Prop)(rest:List Stmt)(N:Loc→Hp→Prop)(R:V→Hp→Prop)(ρ1:Loc)(σ1:Hp):Prop:=WS c d rest ρ1 σ1 N R X
theorem Zn{st:Stmt}{rest:List Stmt}{N:Loc→Hp→Prop}{R:V→Hp→Prop}(h:WX c d st ρ σ (K8H1 d c X rest N R) R X):WS c d (st::rest) ρ σ N R X:=
 ⟨fun w os₀ A env k g s Q' E' S hQ hE=>wpAny_execs_cons (h.use S hE (fun ρ1 σ1 g1 s1 l1 S1 hE1 h1=>h1.run w os₀ A env k g1 s1 Q' E' S1 (fun v ρ' σ' x g' s' l r S' q=>hQ v ρ' σ' x g' s' (l1.trans l) r S' q) hE1)
  (fun v ρ' σ' x g' s' l r S' q=>hQ (some v) ρ' σ' _ g' s' l (.ret v x r) S' q))⟩
noncomputable abbrev Zbp(e:Expr):Prop:=(Nat.ble e.ctorIdx 7||Nat.ble 11 e.ctorIdx)=true
noncomputable abbrev K8H2(c:Ctx)(ρ:Loc)(x:Str)(N:Loc→Hp→Prop)(v:V)(σ1:Hp):Prop:=WN c x v ρ σ1 N
theorem Y5{x:Str}{p pos:Pos}{e:Expr}{N:Loc→Hp→Prop}{R:V→Hp→Prop}(h:WE c d e ρ σ (K8H2 c ρ x N) X)(hs:Zbp e):WX c d (.Assign [.Name x p] e pos) ρ σ N R X:=
 WX.mk fun w os₀ A env k g s Q' E' S hE hN hR=>wpAny_Assign_Name (h.use S hE fun v σ1 y g1 s1 l1 r1 S1 hE1 h1=>h1.run w os₀ A env k g1 s1 y _ E' S1.toZU r1 fun ρ' σ' s' F q=>hN _ _ g1 _ l1 (S1.mk' F) q) (NS hs)
theorem Zcz{es:List Expr}{n:Nat}{tp:Pos}{e:Expr}{r:Sem (Option (List Str))}(hs:env.scope=c.scope)(hw:∀a b c₂ d e₂ f g h,swappedStores [.Tuple es n tp] e ⟨c.scope,a,b,c₂,d,e₂,f,g,h⟩=r):swappedStores [.Tuple es n tp] e env=r:=by
 obtain⟨_,_,_,_,_,_,_,_,_⟩:=env
 cases hs
 exact hw ..
noncomputable abbrev K8H3(d:Nat)(c:Ctx)(ρ:Loc)(X:Addr→Loc→Hp→Prop)(es:List Expr)(n:Nat)(tp:Pos)(N:Loc→Hp→Prop)(v:V)(σ1:Hp):Prop:=WA c d (.Tuple es n tp) v ρ σ1 N X
theorem Vx{es:List Expr}{n:Nat}{tp pos:Pos}{e:Expr}{N:Loc→Hp→Prop}{R:V→Hp→Prop}(h:WE c d e ρ σ (K8H3 d c ρ X es n tp N) X)
  (hw:∀a b c₂ d e₂ f g h,swappedStores [.Tuple es n tp] e ⟨c.scope,a,b,c₂,d,e₂,f,g,h⟩=pure none):WX c d (.Assign [.Tuple es n tp] e pos) ρ σ N R X:=
 WX.mk fun w os₀ A env k g s Q' E' S hE hN hR=>Assign_Tuple (h.use S hE fun v σ1 y g1 s1 l1 r1 S1 hE1 h1=>h1.run w os₀ A env k g1 s1 y _ E' S1 r1 (fun ρ' σ' g' s' l S' q=>hN _ _ g' _ (l1.trans l) S' q) hE1) Db (Zcz S.scope hw)
noncomputable def WNs(c:Ctx):List Str→List V→Loc→Hp→(Loc→Hp→Prop)→Prop
 | [],[],ρ,σ,Q=>Q ρ σ
 |t::ts,v::vs,ρ,σ,Q=>WN c t v ρ σ (fun ρ1 σ1=>WNs c ts vs ρ1 σ1 Q)
 |_,_,_,_,_=>False
theorem WNs.use{ts:List Str}:∀{vs:List V} {ρ:Loc} {σ:Hp} {s:Shared} {xs:List Value} {Q:Loc→Hp→Prop} {Q':Unit→Shared→Prop} {E':Value→Shared→Prop},WNs c ts vs ρ σ Q→ZU w os₀ c env k g ρ σ s→VRs w g vs xs→
  (∀ρ' σ' s',ZU w os₀ c env k g ρ' σ' s'→Q ρ' σ'→Q' () s')→wpAny (model PW w) A (assignInOrder (ts.map fun t=>bindName env t) xs) Q' E' s:=by
 induction ts with
 |nil=>
  intro vs ρ σ s xs Q Q' E' h S r hQ
  cases vs with
  |nil=>rw[show xs=[]from r.inv];exact wpAny_assignInOrder_none (hQ _ _ _ S h)
  |cons v vs=>exact h.elim
 |cons t ts ih=>
  intro vs ρ σ s xs Q Q' E' h S r hQ
  cases vs with
  |nil=>exact h.elim
  |cons v vs=>
   obtain⟨x,r',e,a,b⟩:=r.inv
   rw[e]
   exact wpAny_assignInOrder_more (wpAny_bindName (WN.run h _ _ _ _ _ _ _ _ _ _ S a (fun ρ1 σ1 s1 S1 h1=>ih h1 S1 b hQ)))
inductive ZfA(c:Ctx)(ρ:Loc)(names:List Str)(N:Loc→Hp→Prop)(v:V)(σ1:Hp):Prop
 |mk (vs:_) (h1:v=.tup vs) (h2:vs.length=names.length) (h3:WNs c names.reverse vs.reverse ρ σ1 N):ZfA c ρ names N v σ1
theorem JR{es:List Expr}{n:Nat}{tp pos:Pos}{e:Expr}{names:List Str}{N:Loc→Hp→Prop}{R:V→Hp→Prop}(h:WE c d e ρ σ (ZfA c ρ names N) X)(hh:c.hd=none)
  (hw:∀a b c₂ d e₂ f g h,swappedStores [.Tuple es n tp] e ⟨c.scope,a,b,c₂,d,e₂,f,g,h⟩=pure (some names)):WX c d (.Assign [.Tuple es n tp] e pos) ρ σ N R X:=
 WX.mk fun w os₀ A env k g s Q' E' S hE hN hR=>Assign_Tuple_swapped (h.use S hE fun v σ1 y g1 s1 l1 r1 S1 hE1 h1=>by
  obtain⟨vs,e0,hl,h1⟩:=h1
  obtain⟨a,Vs,f,e,r⟩:=(show VR w g1 (.tup vs) y from e0▸r1).inv
  rw[f]
  have ht:s1.heap.IsTuple a Vs.toArray:=WM (S1.st.fr _ _ e)
  have hA:A.handled=none:=by rw[S.hd,hh];rfl
  have hsz:Vs.toArray.size=names.length:=by rw[List.size_toArray,←r.length,hl]
  rw[←hsz]
  refine wpAny_unpackItems_tuple hA ht fun h' hx=>?_
  have S2:Sit w os₀ d c A env k g1 ρ σ1 {s1 with heap:=h'}:=S1.keep (fun b o e=>hx b o (Nat.ne_of_lt (Heap.lt_size e)) e) rfl rfl
  exact WNs.use h1 S2.toZU (show VRs w g1 vs.reverse Vs.toArray.toList.reverse from r.reverse) fun ρ' σ' s' F q=>hN _ _ g1 _ l1 (S2.mk' F) q) Db (Zcz S.scope hw)
noncomputable abbrev K8H4(d:Nat)(c:Ctx)(ρ:Loc)(X:Addr→Loc→Hp→Prop)(a:List Stmt)(b:List Stmt)(N:Loc→Hp→Prop)(R:V→Hp→Prop)(v:Bool)(σ1:Hp):Prop:=if v=true then WS c d a ρ σ1 N R X else WS c d b ρ σ1 N R X
theorem Ja{t:Expr}{a b:List Stmt}{pos:Pos}{N:Loc→Hp→Prop}{R:V→Hp→Prop}(h:WT c d t ρ σ (K8H4 d c ρ X a b N R) X):WX c d (.If t a b pos) ρ σ N R X:=
 WX.mk fun w os₀ A env k g s Q' E' S hE hN hR=>wpAny_If (h.use S hE fun v σ1 g1 s1 l1 S1 hE1 h1=>by
  cases v
  ·exact WS.use h1 S1 hE1 (fun ρ' σ' g' s' l S' q_ q=>hN _ _ g' _ (l1.trans l) S' q) (fun v ρ' σ' x g' s' l r S' q=>hR _ _ _ _ g' _ (l1.trans l) r S' q)
  ·exact WS.use h1 S1 hE1 (fun ρ' σ' g' s' l S' q_ q=>hN _ _ g' _ (l1.trans l) S' q) (fun v ρ' σ' x g' s' l r S' q=>hR _ _ _ _ g' _ (l1.trans l) r S' q))
theorem Q3{e:Expr}{pos:Pos}{N:Loc→Hp→Prop}{R:V→Hp→Prop}(h:WE c d e ρ σ R X):WX c d (.Return (some e) pos) ρ σ N R X:=
 WX.mk fun w os₀ A env k g s Q' E' S hE hN hR=>wpAny_Return_some (h.use S hE fun v σ1 y g1 s1 l1 r1 S1 hE1 h1=>hR _ _ _ _ g1 _ l1 r1 S1 h1)
theorem HW{pos:Pos}{N:Loc→Hp→Prop}{R:V→Hp→Prop}(h:R .none σ):WX c d (.Return none pos) ρ σ N R X:=
 WX.mk fun w os₀ A env k g s Q' E' S hE hN hR=>wpAny_Return_none (hR _ _ _ _ g _ (Le.refl g) .none S h)
noncomputable abbrev K8H5(ρ:Loc)(N:Loc→Hp→Prop)(_:V)(σ1:Hp):Prop:=N ρ σ1
theorem HX{e:Expr}{pos:Pos}{N:Loc→Hp→Prop}{R:V→Hp→Prop}(h:WE c d e ρ σ (K8H5 ρ N) X)(hi:interactive ⟨c.scope,0,0,[],Str.empty,none,.none,none,0⟩=false)(hs:Zbp e):WX c d (.Expr e pos) ρ σ N R X:=
 WX.mk fun w os₀ A env k g s Q' E' S hE hN hR=>wpAny_Expr_any (h.use S hE fun v σ1 y g1 s1 l1 r1 S1 hE1 h1=>hN _ _ g1 _ l1 S1 h1) (by rw[←hi];unfold interactive;rw[S.scope]) (NS hs)
end
end
section
section
variable{w:World}{os₀:OsState}{lv:Option Addr}{d:Nat}{c:Ctx}{A:Around}{env:Env}{k k' g g':Frz}{ρ ρ':Loc}{σ σ':Hp}{s s':Shared}{X:Addr→Loc→Hp→Prop}
theorem Jx.put{od:Obj}{kvs:List (Str×Value)}(D:Jx (PySem.strKind PW w) od kvs)(name:Str)(t:Tok)(v:Value):Jx (PySem.strKind PW w) (Obj.putName name (hashStr w name) (.str name t) v od) (stored kvs name v):=by
 obtain⟨es,ep,hc,hd,hk,hp,hn⟩:=D
 obtain⟨oc,odd,dt,sl⟩:=od
 dsimp only at hd
 subst hd
 rw[Obj.putName_eq]
 unfold Obj.putNameByArray
 dsimp only
 have hidx:(es.findIdx? fun e=>e.key.isStr name)=kvs.findIdx? fun kv=>decide (kv.1=name):=by
  have e1:(fun x:DictEntry=>x.key.isStr name)=fun x=>(PySem.strKind PW w).is name x.key:=by
   funext x;exact VX name x.key
  rw[e1,←hp.findIdx name];obtain⟨l⟩:=es;simp
 have hkey:(PySem.strKind PW w).is name (.str name t)=true:=by simp[PySem.strKind,Value.isStrOf]
 cases hi:es.findIdx? fun e=>e.key.isStr name with
 |some i=>
  dsimp only
  refine⟨_,ep,hc,rfl,hk.modify _ _,?_,?_⟩
  ·rw[stored,if_pos (any_of_findIdx_some (hidx▸hi))]
   have hl:(es.toList.findIdx? fun e=>(PySem.strKind PW w).is name e.key)=some i:=by
    rw[←hi]
    have e1:(fun x:DictEntry=>x.key.isStr name)=fun x=>(PySem.strKind PW w).is name x.key:=by
     funext x;exact VX name x.key
    rw[e1];obtain⟨l⟩:=es;simp
   have:=hp.modify hn hl v
   obtain⟨l⟩:=es
   simpa using this
  ·rw[stored,if_pos (any_of_findIdx_some (hidx▸hi)),keys_map_store];exact hn
 |none=>
  dsimp only
  have hnot:name∉kvs.map (·.1):=not_mem_of_findIdx_none (hidx▸hi)
  have hany:¬(kvs.any fun kv=>decide (kv.1=name))=true:=by
   rw[List.any_eq_true];rintro ⟨kv,hkv,he⟩
   exact hnot (List.mem_map.mpr ⟨kv,hkv,of_decide_eq_true he⟩)
  refine⟨_,ep+1,hc,rfl,hk.push hkey _,?_,?_⟩
  ·rw[stored,if_neg hany]
   have:=hp.append hkey (hashStr w name) v
   obtain⟨l⟩:=es
   simpa using this
  ·rw[stored,if_neg hany,List.map_append,List.nodup_append]
   refine⟨hn,by simp,?_⟩
   intro a ha b hb
   simp only[List.map_cons,List.map_nil,List.mem_singleton]at hb
   subst hb
   exact fun e=>hnot (e▸ha)
theorem Jx.notFreed{K:Type} [DecidableEq K]{knd:KeyKind PW w K}{o:Obj}{kvs:List (K×Value)}(D:Jx knd o kvs):o.isFreed=false:=by
 obtain⟨es,ep,hc,hd,_⟩:=D
 obtain⟨oc,odd,dt,sl⟩:=o
 dsimp only at hd;subst hd;rfl
theorem WH{dx:Addr}{kvs:List (Str×Value)}{name:Str}{v:Value}{Q':Unit→Shared→Prop}{E':Value→Shared→Prop}(p:s.heap.DictOf (PySem.strKind PW w) dx kvs)
  (h:∀h',h'.DictOf (PySem.strKind PW w) dx (stored kvs name v)→Heap.SameBut dx s.heap h'→Q' () {s with heap:=h',toks:=s.toks+1}):wpAny (model PW w) A (nsSet dx name v) Q' E' s:=by
 obtain⟨o,ho,D⟩:=YQ p
 have D':=D.put name s.toks v
 have e1:=Heap.get?_update_self (h:=s.heap) (Obj.putName name (hashStr w name) (.str name s.toks) v) ho D'.notFreed
 have hq:=h (s.heap.update dx (Obj.putName name (hashStr w name) (.str name s.toks) v)) (D'.dictOf e1) (Heap.SameBut.update ..)
 unfold nsSet
 refine wpAny_bind (wpAny_bind (wpAny_askSetting (wpAny_pure (wpAny_bind (wpAny_mkText (wpAny_bind (wpAny_loadPart ho ?_)))))))
 obtain⟨es,ep,_,hd,_,hp,_⟩:=D
 rw[hd]
 dsimp only
 have c:(!es.any (·.key.isStr name)&&es.any (·.refKey))=false:=by
  have z:es.any (·.refKey)=false:=by rw[←Array.any_toList];exact Bl hp
  rw[z,Bool.and_false]
 rw[aRefKeyMayBeTheName_at,c]
 exact wpAny_updatePart ho hq
noncomputable def Zv(C:Addr)(name:Str):Prop:=∀P,(findIn (KK P) (.ref C) "__setattr__",plainOver (KK P) C,(clsIn (KK P) C).any (·.hasDict),takerIn (KK P) C name)=(some (some (.builtin "object.__setattr__")),true,true,some none)
theorem Zv.set{C:Addr}{name:Str}(h:Zv C name)(P:Params):findIn (KK P) (.ref C) "__setattr__" =some (some (.builtin "object.__setattr__")):=congrArg (·.1) (h P)
theorem Zv.over{C:Addr}{name:Str}(h:Zv C name)(P:Params):plainOver (KK P) C=true:=congrArg (·.2.1) (h P)
theorem Zv.has{C:Addr}{name:Str}(h:Zv C name)(P:Params):(clsIn (KK P) C).any (·.hasDict)=true:=congrArg (·.2.2.1) (h P)
theorem Zv.no{C:Addr}{name:Str}(h:Zv C name)(P:Params):takerIn (KK P) C name=some none:=congrArg (·.2.2.2) (h P)
theorem Oa{r:Rec}{a:Addr}{name:Str}{tk:Tok}{y:V}{x:Value}{R:Result→Shared→Prop}(S:St w os₀ lv k g σ s)(e:σ.is a=some r)(rx:VR w g y x)(ok:Zv r.C name)(hz:r.fs.length≤1000)
  (h:∀s',St w os₀ lv k g {σ with is:=up σ.is a (some {r with fs:=aset r.fs name y})} s'→(∀b o,b≠r.d→s.heap.get? b=some o→s'.heap.get? b=some o)→R (.ok (.ret .none)) s'):
  codeAny (model PW w) A (.call (.builtin "object.__setattr__") ⟨[.ref a,.str name tk,x],[]⟩) R s:=by
 have I:=S.is a r e
 obtain⟨o,p,ro⟩:=I.at_
 obtain⟨kvs,pd,q⟩:=I.d.at_
 obtain⟨od,pod,D⟩:=YQ pd
 have hn:(kvs.map (·.1)).Nodup:=let⟨_,_,_,_,_,_,z⟩:=D;z
 have IA:InstAt s.heap a o r.C (some od):=⟨p,ro.cls,ro.notCls,by rw[ro.dict];exact pod⟩
 refine osa_open S.KIn IA (ok.over _) (ok.no _) fun b=>?_
 obtain⟨cd,hc,hd'⟩:=any_some (ok.has w.params)
 have h1:=ro.cls
 have h2:=ro.dict
 have h3:=ro.notCls
 obtain⟨oc,odi,oda,osl⟩:=o
 dsimp only at h1 h2
 subst h1 h2
 refine wpAny_bind (wpAny_pure (wpAny_bind (wpAny_bind (wpAny_loadPart p (wpAny_bind ((looks_clsIn S.KIn hc).here ?_))))))
 rw[hd']
 refine wpAny_pure (a:=some r.d) (wpAny_bind (wpAny_pure (wpAny_bind ?_)))
 refine WH pd fun h' hd hs=>?_
 obtain⟨od',es,ep,pod',_,hdd,_,hpp,_⟩:=id hd
 have hl:es.size≤sizeLine+1:=by
  have e1:=hpp.length
  have e2:es.toList.length=es.size:=by simp
  have e3:=stored_length_le kvs name x
  have e4:=q.length
  rw[sizeLine_eq];lia
 refine wpAny_bind (wpAny_lookBehind pod' (by rw[hdd];exact pastItsLine_dict hl) ?_)
 have hb:But r.d s.heap h':=fun b o n e=>(hs.2 b n).trans e
 exact wpAny_pure (h _ (S.setI (s':={s with heap:=h',toks:=s.toks+1}) e hb hd (q.set hn rx) rfl rfl) hb)
theorem O3{r:Rec}{a:Addr}{name:Str}{y:V}{x:Value}{Q':Unit→Shared→Prop}{E':Value→Shared→Prop}(S:Sit w os₀ d c A env k g ρ σ s)(e:σ.is a=some r)(rx:VR w g y x)(ok:Zv r.C name)(hz:r.fs.length≤1000)
  (h:∀s',Sit w os₀ d c A env k g ρ {σ with is:=up σ.is a (some {r with fs:=aset r.fs name y})} s'→Q' () s'):wpAny (model PW w) A (setAttr (.ref a) name x) Q' E' s:=by
 have I:=S.st.is a r e
 obtain⟨o,p,ro⟩:=I.at_
 obtain⟨kvs,pd,q⟩:=I.d.at_
 obtain⟨od,pod,D⟩:=YQ pd
 refine set_plain S.KIn (ox:=o) (od:=some od) ⟨p,ro.cls,ro.notCls,by rw[ro.dict];exact pod⟩ (ok.set _) ?_
 have hl:env.locals≠r.d:=S.lne I.d.kn
 exact Oa (S.toks (s.toks+1)).st e rx ok hz fun s' S' hb=>h s' (S.turn (Le.refl g) S' fun o e=>hb _ _ hl e)
inductive Zf9(ρ:Loc)(name:Str)(N:Loc→Hp→Prop)(y:V)(v:V)(σ2:Hp):Prop
 |mk (a:_) (r:_) (h1:v=.ref a) (h2:σ2.is a=some r) (h3:Zv r.C name) (h4:r.fs.length≤1000) (h5:N ρ {σ2 with is:=up σ2.is a (some {r with fs:=aset r.fs name y})}):Zf9 ρ name N y v σ2
noncomputable abbrev K8I1(d:Nat)(c:Ctx)(ρ:Loc)(X:Addr→Loc→Hp→Prop)(o:Expr)(name:Str)(N:Loc→Hp→Prop)(y:V)(σ1:Hp):Prop:=WE c d o ρ σ1 (Zf9 ρ name N y) X
theorem ZdV{o:Expr}{name:Str}{p pos:Pos}{e:Expr}{N:Loc→Hp→Prop}{R:V→Hp→Prop}(h:WE c d e ρ σ (K8I1 d c ρ X o name N) X):WX c d (.Assign [.Attribute o name p] e pos) ρ σ N R X:=
 WX.mk fun w os₀ A env k g s Q' E' S hE hN hR=>plainObj_wpAny_Assign_Attribute (h.use S hE fun y σ1 x g1 s1 l1 r1 S1 hE1 h1=>h1.use S1 hE1 fun v σ2 z g2 s2 l2 r2 S2 hE2 h2=>by
  obtain⟨a,r,rfl,e1,ok,hz,q⟩:=h2
  obtain rfl:=r2.refI
  exact O3 S2 e1 (r1.mono l2) ok hz fun s' S'=>hN _ _ g2 _ (l1.trans l2) S' q) NT
noncomputable abbrev K8I2(d:Nat)(c:Ctx)(ρ:Loc)(X:Addr→Loc→Hp→Prop)(i:Expr)(B:V→V→V→Hp→Prop)(y:V)(v:V)(σ2:Hp):Prop:=WE c d i ρ σ2 (fun j σ3=>B y v j σ3) X
noncomputable abbrev K8I3(d:Nat)(c:Ctx)(ρ:Loc)(X:Addr→Loc→Hp→Prop)(o:Expr)(i:Expr)(B:V→V→V→Hp→Prop)(y:V)(σ1:Hp):Prop:=WE c d o ρ σ1 (K8I2 d c ρ X i B y) X
theorem DX{o i:Expr}{p pos:Pos}{e:Expr}{N:Loc→Hp→Prop}{R:V→Hp→Prop}{B:V→V→V→Hp→Prop}
  (h:WE c d e ρ σ (K8I3 d c ρ X o i B) X)
  (hB:∀y v j σ w os₀ A env k g s (Q':Unit→Shared→Prop) (E':Value→Shared→Prop) x z t,B y v j σ→Sit w os₀ d c A env k g ρ σ s→VR w g y x→VR w g v z→VR w g j t→(∀σ' g' s',Le g g'→Sit w os₀ d c A env k g' ρ σ' s'→N ρ σ'→Q' () s')→wpAny (model PW w) A (setItem z t x) Q' E' s):
  WX c d (.Assign [.Subscript o i p] e pos) ρ σ N R X:=
 WX.mk fun w os₀ A env k g s Q' E' S hE hN hR=>wpAny_Assign_Subscript (h.use S hE fun y σ1 x g1 s1 l1 r1 S1 hE1 h1=>h1.use S1 hE1 fun v σ2 z g2 s2 l2 r2 S2 hE2 h2=>h2.use S2 hE2 fun j σ3 t g3 s3 l3 r3 S3 hE3 h3=>
  hB y v j σ3 w os₀ A env k g3 s3 _ _ x z t h3 S3 (r1.mono (l2.trans l3)) (r2.mono l3) r3 fun σ' g' s' l S' q=>hN _ _ g' _ (((l1.trans l2).trans l3).trans l) S' q) Zb1
theorem Zb4{h:Heap}{a:Addr}{Vs:List Value}{n i:Nat}{x:Value}(p:h.get? a=some (Zu Vs n)):(h.update a (Obj.mapSeq (·.setIfInBounds i x))).get? a=some (Zu (Vs.set i x) n):=by
 have z:=Heap.get?_update_self (h:=h) (Obj.mapSeq (·.setIfInBounds i x)) p rfl
 rw[z]
 simp[Obj.mapSeq,Zu]
theorem B4{prog:Program}{E':Value→Shared→Prop}{Q':Unit→Shared→Prop}{a:Addr}{items:Array Value}{k:Int}{n:Nat}{t:Tok}{x:Value}(p:s.heap.get? a=some {cls:=.type "list",data:=.seq items n})(h0:0≤k)(hfit:k<2^63)(hn:k<items.size)
  (fin:Q' () {s with heap:=s.heap.update a (Obj.mapSeq (·.setIfInBounds k.toNat x))}):wpAny (model prog w) A (setItem (.ref a) (.int k t) x) Q' E' s:=by
 have hl:s.heap.IsList a items:=⟨_,p,rfl,n,rfl⟩
 unfold setItem
 try with_reducible refine wpAny_holding ?_
 refine wpAny_bind (wpAny_sequenceKey hl.typeIs (by decide) ?_)
 refine wpAny_bind (wpAny_callSpecial?_slot (name:=Str.ofString "__setitem__") hl.typeIs slot_list_setitem
  (wpAny_call_entry slot_list_setitem hl.typeIs entry_list_setitem ?_ (args_list_setitem _ _ _)))
 show wpAny _ _ (Builtin.List.listSubscript? (.int k t)>>=_) _ _ s
 refine wpAny_bind (wpAny_listSubscript_int (fitsIndex_of h0 hfit) ?_)
 clear hfit
 obtain⟨j,rfl⟩:=Int.eq_ofNat_of_zero_le h0
 have hj:j<items.size:=by exact Int.ofNat_lt.mp (by assumption)
 have hx':items[j]? =some items[j]:=Array.getElem?_eq_getElem hj
 show wpAny _ _ ((seqItemAt a j>>=fun r=>pure (r.map (j,·)))>>=_) _ _ s
 refine wpAny_bind (wpAny_bind (wpAny_seqItemAt p rfl (wpAny_pure ?_)))
 rw[hx']
 show wpAny _ _ (setSeqItemAt a j x>>=_) _ _ s
 refine wpAny_bind (wpAny_setSeqItemAt p rfl ?_)
 first
  |exact wpAny_bind (wpAny_pure (wpAny_pure ⟨.none,rfl,wpAny_pure fin⟩))
  |exact wpAny_pure ⟨.none,rfl,wpAny_pure fin⟩
theorem Zdr{a:Addr}{vs:List V}{i:Nat}{t:Tok}{y:V}{x:Value}{Q':Unit→Shared→Prop}{E':Value→Shared→Prop}(S:Sit w os₀ d c A env k g ρ σ s)(e:σ.ls a=some vs)(rx:VR w g y x)(hi:i<vs.length)(hz:vs.length≤100000)
  (h:∀s',Sit w os₀ d c A env k g ρ {σ with ls:=up σ.ls a (some (vs.set i y))} s'→Q' () s'):wpAny (model PW w) A (setItem (.ref a) (.int (i:Nat) t) x) Q' E' s:=by
 obtain⟨Vs,n,p,r⟩:=(S.st.ls a vs e).at_
 have e1:=Zb4 (i:=i) (x:=x) p
 have hb:But a s.heap (s.heap.update a (Obj.mapSeq (·.setIfInBounds i x))):=fun b o n e=>(Heap.get?_update_ne _ _ _ _ n).trans e
 have S1:=S.st.setL (s':={s with heap:=s.heap.update a (Obj.mapSeq (·.setIfInBounds i x))}) e hb e1 (r.set rx) rfl rfl
 have hL:env.locals≠a:=S.lne (S.st.ls a vs e).kn
 exact B4 p (by exact Int.natCast_nonneg _) (by lia) (by rw[List.size_toArray,←r.length];exact Int.ofNat_lt.mpr (by assumption)) (by rw[Int.toNat_natCast];exact h _ (S.turn (Le.refl g) S1 fun o e=>hb _ _ hL e))
inductive Zf8(ρ:Loc)(N:Loc→Hp→Prop)(y:V)(v:V)(j:V)(σ3:Hp):Prop
 |mk (a:Addr) (vs:List V) (n:Nat) (h1:v=.ref a) (h2:σ3.ls a=some vs) (h3:j=.int n) (h4:n<vs.length) (h5:vs.length≤100000) (h6:N ρ {σ3 with ls:=up σ3.ls a (some (vs.set n y))}):Zf8 ρ N y v j σ3
noncomputable abbrev K8I4(d:Nat)(c:Ctx)(ρ:Loc)(X:Addr→Loc→Hp→Prop)(i:Expr)(N:Loc→Hp→Prop)(y:V)(v:V)(σ2:Hp):Prop:=WE c d i ρ σ2 (Zf8 ρ N y v) X
noncomputable abbrev K8I5(d:Nat)(c:Ctx)(ρ:Loc)(X:Addr→Loc→Hp→Prop)(o:Expr)(i:Expr)(N:Loc→Hp→Prop)(y:V)(σ1:Hp):Prop:=WE c d o ρ σ1 (K8I4 d c ρ X i N y) X
theorem W4{o i:Expr}{p pos:Pos}{e:Expr}{N:Loc→Hp→Prop}{R:V→Hp→Prop}
  (h:WE c d e ρ σ (K8I5 d c ρ X o i N) X):WX c d (.Assign [.Subscript o i p] e pos) ρ σ N R X:=
 DX h fun y v j σ w os₀ A env k g s Q' E' x z t hB S rx rz rt hN=>by
  obtain⟨a,vs,n,rfl,e1,rfl,hi,hz,q⟩:=hB
  obtain rfl:=rz.refI;obtain⟨_,rfl⟩:=rt.intI
  exact Zdr S e1 rx hi hz fun s' S'=>hN _ g _ (Le.refl g) S' q
inductive Zf7(ρ:Loc)(N:Loc→Hp→Prop)(y:V)(v:V)(j:V)(σ3:Hp):Prop
 |mk (a:Addr) (fs:List (Int×V)) (n:Int) (h1:v=.ref a) (h2:σ3.ds a=some fs) (h3:j=.int n) (h4:fs.length≤100000) (h5:N ρ {σ3 with ds:=up σ3.ds a (some (aset fs n y))}):Zf7 ρ N y v j σ3
noncomputable abbrev K8I6(d:Nat)(c:Ctx)(ρ:Loc)(X:Addr→Loc→Hp→Prop)(i:Expr)(N:Loc→Hp→Prop)(y:V)(v:V)(σ2:Hp):Prop:=WE c d i ρ σ2 (Zf7 ρ N y v) X
noncomputable abbrev K8I7(d:Nat)(c:Ctx)(ρ:Loc)(X:Addr→Loc→Hp→Prop)(o:Expr)(i:Expr)(N:Loc→Hp→Prop)(y:V)(σ1:Hp):Prop:=WE c d o ρ σ1 (K8I6 d c ρ X i N y) X
theorem Qs{o i:Expr}{p pos:Pos}{e:Expr}{N:Loc→Hp→Prop}{R:V→Hp→Prop}
  (h:WE c d e ρ σ (K8I7 d c ρ X o i N) X):WX c d (.Assign [.Subscript o i p] e pos) ρ σ N R X:=
 DX h fun y v j σ w os₀ A env k g s Q' E' x z t hB S rx rz rt hN=>by
  obtain⟨a,fs,n,rfl,e1,rfl,hz,q⟩:=hB
  obtain rfl:=rz.refI;obtain⟨_,rfl⟩:=rt.intI
  have D:=S.st.ds a fs e1
  obtain⟨kvs,pd,r⟩:=D.at_
  have hn:(kvs.map (·.1)).Nodup:=let⟨_,_,_,_,_,_,_,_,z⟩:=pd;z
  refine wpAny_setItem_pairs (knd:=intKind PW w) (k:=n) (by simp[intKind,Value.isInt]) pd (fun h' hd hs'=>?_) (by rw[←r.length];exact Nat.le_trans hz (by decide))
  have hb:But a s.heap h':=fun b o n e=>(hs'.2 b n).trans e
  have S1:=S.st.setD (s':={s with heap:=h',toks:=s.toks+1}) e1 hb hd (r.set hn rx) rfl rfl
  exact hN _ g _ (Le.refl g) (S.turn (Le.refl g) S1 fun o e=>hb _ _ (S.lne D.kn) e) q
inductive Zf6(ρ:Loc)(N:Loc→Hp→Prop)(y:V)(v:V)(j:V)(σ3:Hp):Prop
 |mk (a:Addr) (fs:List (Str×V)) (n:Str) (h1:v=.ref a) (h2:σ3.ss a=some fs) (h3:j=.str n) (h4:fs.length≤100000) (h5:N ρ {σ3 with ss:=up σ3.ss a (some (aset fs n y))}):Zf6 ρ N y v j σ3
noncomputable abbrev K8I8(d:Nat)(c:Ctx)(ρ:Loc)(X:Addr→Loc→Hp→Prop)(i:Expr)(N:Loc→Hp→Prop)(y:V)(v:V)(σ2:Hp):Prop:=WE c d i ρ σ2 (Zf6 ρ N y v) X
noncomputable abbrev K8I9(d:Nat)(c:Ctx)(ρ:Loc)(X:Addr→Loc→Hp→Prop)(o:Expr)(i:Expr)(N:Loc→Hp→Prop)(y:V)(σ1:Hp):Prop:=WE c d o ρ σ1 (K8I8 d c ρ X i N y) X
theorem HV{o i:Expr}{p pos:Pos}{e:Expr}{N:Loc→Hp→Prop}{R:V→Hp→Prop}
  (h:WE c d e ρ σ (K8I9 d c ρ X o i N) X):WX c d (.Assign [.Subscript o i p] e pos) ρ σ N R X:=
 DX h fun y v j σ w os₀ A env k g s Q' E' x z t hB S rx rz rt hN=>by
  obtain⟨a,fs,n,rfl,e1,rfl,hz,q⟩:=hB
  obtain rfl:=rz.refI;obtain⟨_,rfl⟩:=rt.strI
  have D:=S.st.ss a fs e1
  obtain⟨kvs,pd,r⟩:=D.at_
  have hn:(kvs.map (·.1)).Nodup:=let⟨_,_,_,_,_,_,_,_,z⟩:=pd;z
  refine wpAny_setItem_pairs (knd:=PySem.strKind PW w) (k:=n) (by simp[PySem.strKind,Value.isStrOf]) pd (fun h' hd hs'=>?_) (by rw[←r.length];exact Nat.le_trans hz (by decide))
  have hb:But a s.heap h':=fun b o n e=>(hs'.2 b n).trans e
  have S1:=S.st.setS (s':={s with heap:=h',toks:=s.toks+1}) e1 hb hd (r.set hn rx) rfl rfl
  exact hN _ g _ (Le.refl g) (S.turn (Le.refl g) S1 fun o e=>hb _ _ (S.lne D.kn) e) q
end
end
section
section
variable{w:World}{os₀:OsState}{lv:Option Addr}{d:Nat}{c:Ctx}{A:Around}{env:Env}{k k' g g':Frz}{ρ ρ':Loc}{σ σ':Hp}{s s':Shared}{X:Addr→Loc→Hp→Prop}{a:Addr}
theorem St.excF(S:St w os₀ lv k g σ s){r:Rec}(e:σ.is a=some r)(hx:r.x=true)(f:Array Value→Array Value):St w os₀ lv k g σ {s with heap:=s.heap.update a (Obj.mapFields f)}:=by
 have I:=S.is a r e
 obtain⟨o,p,ro⟩:=I.at_
 unfold JH at ro
 rw[if_pos hx]at ro
 obtain⟨vs,rfl⟩:=ro
 obtain⟨F,Fd⟩:=S.freeI e
 have hb:But a s.heap (s.heap.update a (Obj.mapFields f)):=fun b o n e=>(Heap.get?_update_ne _ _ _ _ n).trans e
 have e1:(s.heap.update a (Obj.mapFields f)).get? a=some (Yr r.C r.d (f vs)):=Heap.get?_update_self _ p rfl
 have S1:=(S.weaken (σ.dropI_le a)).other (s':={s with heap:=s.heap.update a (Obj.mapFields f)}) F I.kn I.gn hb rfl rfl
 obtain⟨od,pd⟩:=I.d.there
 have ne:r.d≠a:=XE pd p (by rw[I.d.cls pd];simp)
 have:=S1.addI (a:=a) (r:=r) ⟨I.gn,I.kn,⟨_,e1,by unfold JH;rw[if_pos hx];exact⟨_,rfl⟩⟩,I.d.stay fun o q=>hb _ _ ne q⟩ Fd.ds Fd.ss (fun b r' nb q=>Fd.d b r' q)
 have q:({σ.dropI a with is:=up (σ.dropI a).is a (some r)}:Hp)=σ:=by
  unfold Hp.dropI;dsimp only;rw[ZQ,YZ _ _ _ e]
 rwa [q]at this
theorem Sit.excF(S:Sit w os₀ d c A env k g ρ σ s){r:Rec}(e:σ.is a=some r)(hx:r.x=true)(f:Array Value→Array Value):Sit w os₀ d c A env k g ρ σ {s with heap:=s.heap.update a (Obj.mapFields f)}:=
 S.turn (Le.refl g) (S.st.excF e hx f) fun o q=>(Heap.get?_update_ne _ _ _ _ (S.lne (S.st.is a r e).kn)).trans q
theorem Sit.other(S:Sit w os₀ d c A env k g ρ σ s){T:Addr}(F:Free σ T)(hk:k T=none)(hg:g T=none)(f:Obj→Obj):Sit w os₀ d c A env k g ρ σ {s with heap:=s.heap.update T f}:=
 S.turn (Le.refl g) (S.st.other F hk hg (fun b o n e=>(Heap.get?_update_ne _ _ _ _ n).trans e) rfl rfl) fun o q=>(Heap.get?_update_ne _ _ _ _ (S.lne hk)).trans q
theorem Sit.push(S:Sit w os₀ d c A env k g ρ σ s)(o:Obj):Sit w os₀ d c A env k g ρ σ {s with heap:=s.heap.push o}:=S.keep (fun q_ q_ e=>Heap.get?_push_of_some _ e) rfl rfl
theorem Sit.slots(S:Sit w os₀ d c A env k g ρ σ s){l:List Addr}{h':Heap}(x:Heap.SlotsOnly l s.heap h')(hl:∀b∈l,b=env.locals∨∃o,k b=some o∧o.cls=.type "frame"):Sit w os₀ d c A env k g ρ σ {s with heap:=h'}:=by
 obtain⟨o,lo,lc⟩:=S.lc
 obtain⟨m,⟨o',es,ep,p,q⟩,r⟩:=S.ns
 have kl:∀b∈l,(k b).isSome=true:=fun b hb=>by
  rcases hl b hb with rfl| ⟨o,e,_⟩
  ·exact S.kl
  ·rw[e];rfl
 have st:∀{b},k b=none→∀o,s.heap.get? b=some o→h'.get? b=some o:=fun {b} q o e=>(x.2.1 b (fun hb=>by have:=kl b hb;rw[q]at this;cases this)).trans e
 have stg:∀b o,g b=some o→h'.get? b=some o:=fun b o e=>(x.2.1 b (fun hb=>by
  obtain⟨z,hz⟩:=Option.isSome_iff_exists.mp (kl b hb)
  have:=S.st.kg b z hz;rw[e]at this;cases this)).trans (S.st.fr b o e)
 obtain⟨sl,lo'⟩:=x.2.2 _ _ lo
 have T:=S.st
 refine {S with
  st:=⟨fun b z n e=>?_,fun b e=>⟨(T.lv b e).1,by cases e;exact⟨_,lo'⟩⟩,stg,fun a y e=>(T.ls a y e).stay (st (T.ls a y e).kn),fun a y e=>(T.ds a y e).stay (st (T.ds a y e).kn),fun a y e=>(T.ss a y e).stay (st (T.ss a y e).kn),
   fun a y e=>(T.is a y e).stay (st (T.is a y e).kn) (st (T.is a y e).d.kn),fun a y e=>(T.cs a y e).stay (st (T.cs a y e).kn),fun a y e=>(T.ts a y e).stay (st (T.ts a y e).kn),T.sd,T.id,T.K,T.nf,T.kg,T.m2,T.gens,T.os⟩
  ns:=⟨m,?_,r⟩,lc:=⟨_,lo',lc⟩}
 ·obtain⟨sl1,e1,q1⟩:=T.kp b z n e
  by_cases hb:b∈l
  ·rcases hl b hb with rfl| ⟨o,e2,hc⟩
   ·exact absurd rfl n
   ·rw[e]at e2;cases e2
    obtain⟨sl2,e3⟩:=x.2.2 _ _ e1
    exact⟨sl2,e3,fun w=>absurd hc w⟩
  ·exact⟨sl1,(x.2.1 b hb).trans e1,q1⟩
 ·obtain⟨sl3,e3⟩:=x.2.2 _ _ p
  exact⟨_,es,ep,e3,q⟩
theorem St.excAt(S:St w os₀ lv k g σ s){r:Rec}(e:σ.is a=some r)(hx:r.x=true):∃vs,s.heap.get? a=some (Yr r.C r.d vs):=by
 obtain⟨o,p,ro⟩:=(S.is a r e).at_
 unfold JH at ro
 rw[if_pos hx]at ro
 obtain⟨vs,rfl⟩:=ro
 exact⟨vs,p⟩
theorem DJ(S:Sit w os₀ d c A env k g ρ σ s)(hc:c.lty="frame"){r:Rec}(e:σ.is a=some r)(hx:r.x=true){vs:Array Value}(he:s.heap.get? a=some (Yr r.C r.d vs))(hz:1<vs.size){head:Value}{hadNext:Bool}{Q':Unit→Shared→Prop}{E':Value→Shared→Prop}
  (h:∀s' vs' T,Sit w os₀ d c A env k g ρ σ s'→s'.heap.get? a=some (Yr r.C r.d vs')→vs'[1]? =some (.ref T)→Head k g σ s' a T (· =rawInt env.locals)→Q' () s'):
  wpAny (model PW w) A (do let f←frameOf env;let pl←entryPlaceOf env.locals hadNext;let b←EntryCells.newEntry head f .none (rawInt env.locals) .none pl;setField (.ref a) 1 b) Q' E' s:=by
 obtain⟨top,fr,f1,⟨f2,f4⟩,f3⟩:=S.frs
 obtain⟨rfl,f5⟩:=f4 hc
 have hl:∀b∈(top::fr).filterMap (·.frame),b=top.locals∨∃o,k b=some o∧o.cls=.type "frame" :=fun b hb=>by
  obtain⟨e,he,hf⟩:=List.mem_filterMap.mp hb
  obtain⟨_,F,hF,x⟩:=f3 e he
  rw[hf]at hF;cases hF
  rcases x with ⟨x,_⟩| ⟨_,o,x1,x2,_⟩
  ·exact .inl x
  ·exact .inr ⟨o,x1,x2⟩
 have hfun:s.heap.FunFrames ({}:Heap) (top::fr):=by
  have:∀l:List Env,(∀e∈l,Zfb k c.lty top e)→s.heap.FunFrames ({}:Heap) l:=by
   intro l
   induction l with
   |nil=>intro _;trivial
   |cons x l ih=>
    intro hx
    obtain⟨h1,F,h2,h3⟩:=hx x (.head _)
    refine⟨h1,⟨F,?_⟩,ih fun e he=>hx e (.tail _ he)⟩
    rcases h3 with ⟨rfl,_⟩| ⟨z,o,h3,h4,h5⟩
    ·obtain⟨m,⟨o',es,ep,p,q,_⟩,_⟩:=S.ns
     exact⟨o',h2,rfl,p,fun vs z=>by rw[q]at z;cases z⟩
    ·obtain⟨sl,p,_⟩:=S.st.kp F o (fun q=>z (Option.some.inj q).symm) h3
     exact⟨_,h2,rfl,p,h5⟩
  exact this _ f3
 refine wpAny_bind (wpAny_frameOf_fun f1 hfun f5 fun h₁ hs₁=>?_)
 have S1:=S.slots hs₁ hl
 have I:=S.st.is a r e
 have he₁:h₁.get? a=some (Yr r.C r.d vs):=(hs₁.2.1 a (fun hb=>by
  rcases hl a hb with rfl| ⟨o,z,_⟩
  ·have:=S.kl;rw[I.kn]at this;cases this
  ·rw[I.kn]at z;cases z)).trans he
 refine wpAny_bind (wpAny_entryPlaceOf fun pl hpl=>?_)
 unfold EntryCells.newEntry newFields
 refine wpAny_bind (wpAny_newObj_type ?_ (hpl.sizeOk5 _ _ _ _ _))
 generalize hO:({cls:=.type "traceback",dict:=none,data:=.fields ([head,.ref top.locals,.none,rawInt top.locals,.none]++(if pl.isEmpty then List.replicate 6 Value.none else pl)).toArray}:Obj)=O
 have hOc:O.cls=.type "traceback" :=by rw[←hO]
 have hOd:O.data=.fields ([head,.ref top.locals,.none,rawInt top.locals,.none]++(if pl.isEmpty then List.replicate 6 Value.none else pl)).toArray:=by rw[←hO]
 have he₂:=Heap.get?_push_of_some (h:=h₁) O he₁
 have S2:=S1.push O
 have fr2:=S1.st.fresh (Nat.le_refl _)
 refine wpAny_setField he₂ rfl hz ?_
 have S3:=S2.excF e hx (·.setIfInBounds 1 (Value.ref h₁.objs.size))
 have ne:h₁.objs.size≠a:=Nat.ne_of_gt (Heap.lt_size he₁)
 have he₃:=Heap.get?_update_self (Obj.mapFields (·.setIfInBounds 1 (Value.ref h₁.objs.size))) he₂ (Obj.isFreed_of_fields (Obj.data_mapFields rfl _))
 refine h _ _ h₁.objs.size S3 he₃ (by simp[hz]) ⟨ne,fr2.kn,fr2.gn,fr2.free,O,_,rawInt top.locals,?_,hOc,hOd,?_,rfl⟩
 ·refine(Heap.get?_update_ne _ _ _ _ ne).trans (Heap.get?_push_size _ ?_)
  exact Obj.isFreed_of_fields hOd
 ·simp
theorem UV(S:Sit w os₀ d c A env k g ρ σ s)(hc:c.lty="frame"){r:Rec}(e:σ.is a=some r)(hx:r.x=true)(F:Flies k g σ s a env.locals){Q':Unit→Shared→Prop}{E':Value→Shared→Prop}
  (h:∀s' vs' T,Sit w os₀ d c A env k g ρ σ s'→s'.heap.get? a=some (Yr r.C r.d vs')→vs'[1]? =some (.ref T)→Head k g σ s' a T (· =rawInt env.locals)→Q' () s'):wpAny (model PW w) A (noteFrame (.ref a) env) Q' E' s:=by
 obtain⟨vs,he⟩:=S.st.excAt e hx
 obtain⟨oe,vs',h1,h2,h3⟩:=F
 rw[he]at h1;cases h1
 cases h2
 obtain⟨top,fr,f1,⟨f2,f4⟩,f3⟩:=id S.frs
 obtain⟨rfl,f5⟩:=f4 hc
 unfold noteFrame
 simp only[f5]
 rcases h3 with h3| ⟨T,h3,n1,n2,n3,n4,oT,ts,x,h5,h6,h7,h8,h9⟩
 ·refine wpAny_bind (wpAny_field he rfl h3 ?_)
  rw[if_neg (by decide)]
  exact DJ S hc e hx he (Array.getElem?_eq_some_iff.mp h3).1 h
 ·refine wpAny_bind (wpAny_field he rfl h3 ?_)
  rw[if_pos (show(Value.ref T !=Value.none)=true from by simp)]
  refine wpAny_bind (wpAny_field h5 h7 h8 ?_)
  rcases h9 with rfl|rfl
  ·rw[if_neg (show ¬((Value.none==rawInt top.locals)=true)from by simp[rawInt])]
   refine wpAny_bind (wpAny_setField h5 h7 (Array.getElem?_eq_some_iff.mp h8).1 ?_)
   have S1:=S.other n4 n2 n3 (Obj.mapFields (·.setIfInBounds 3 Value.none))
   have he₁:(s.heap.update T (Obj.mapFields (·.setIfInBounds 3 Value.none))).get? a=some (Yr r.C r.d vs):=(Heap.get?_update_ne _ _ _ _ (Ne.symm n1)).trans he
   exact DJ S1 hc e hx he₁ (Array.getElem?_eq_some_iff.mp h3).1 h
  ·rw[if_pos (show(rawInt top.locals==rawInt top.locals)=true from by simp)]
   exact wpAny_pure (h _ _ T S he h3 ⟨n1,n2,n3,n4,oT,ts,_,h5,h6,h7,h8,rfl⟩)
theorem YK(S:Sit w os₀ d c A env k g ρ σ s){r:Rec}(e:σ.is a=some r)(hx:r.x=true){vs:Array Value}{T:Addr}(he:s.heap.get? a=some (Yr r.C r.d vs))(h1:vs[1]? =some (.ref T)){fl:Value→Prop}(H:Head k g σ s a T fl)(fr:Option Addr){Q':Unit→Shared→Prop}{E':Value→Shared→Prop}
  (h:∀s',Sit w os₀ d c A env k g ρ σ s'→s'.heap.get? a=some (Yr r.C r.d vs)→Head k g σ s' a T (· =fr.elim .none fun f=>rawInt f)→Q' () s'):wpAny (model PW w) A (setFlight (.ref a) fr) Q' E' s:=by
 obtain⟨n1,n2,n3,n4,oT,ts,x,h5,h6,h7,h8,h9⟩:=H
 unfold setFlight
 refine wpAny_bind (wpAny_field he rfl h1 ?_)
 rw[if_pos (show(Value.ref T !=Value.none)=true from by simp)]
 have hz:=(Array.getElem?_eq_some_iff.mp h8).1
 refine wpAny_setField h5 h7 hz ?_
 have S1:=S.other n4 n2 n3 (Obj.mapFields (·.setIfInBounds 3 (fr.elim Value.none fun f=>rawInt f)))
 refine h _ S1 ((Heap.get?_update_ne _ _ _ _ (Ne.symm n1)).trans he) ⟨n1,n2,n3,n4,_,_,_,Heap.get?_update_self _ h5 (Obj.isFreed_of_fields (Obj.data_mapFields h7 _)),by rw[Obj.cls_mapFields];exact h6,Obj.data_mapFields h7 _,?_,rfl⟩
 simp[hz]
theorem Dw(S:Sit w os₀ d c A env k g ρ σ s)(hc:c.lty="frame"){r:Rec}(e:σ.is a=some r)(hx:r.x=true)(F:Flies k g σ s a env.locals){Q':Unit→Shared→Prop}{E':Value→Shared→Prop}
  (h:∀s',Sit w os₀ d c A env k g ρ σ s'→Fly k g σ s' a→Q' () s'):wpAny (model PW w) A (leaving env (.ref a)) Q' E' s:=by
 unfold leaving
 refine wpAny_bind (UV S hc e hx F fun s1 vs1 T S1 h1 h2 H1=>?_)
 exact YK S1 e hx h1 h2 H1 none fun s2 S2 h3 H2=>h s2 S2 ⟨_,_,T,h3,rfl,h2,H2⟩
end
end
section
structure Zd(d:Nat)(f:V)(args:List V)(σ:Hp)(Q:V→Hp→Prop)(X:Addr→Hp→Prop):Prop where
 run:∀(w:World) (os₀:OsState) (A:Around) (k g:Frz) (s:Shared) (fv:Value) (xs:List Value) (R:Result→Shared→Prop),St w os₀ none k g σ s→VR w g f fv→VRs w g args xs→Room d A→A.handled=none→Frames k A→
  (∀v σ' x g' s',Le g g'→VR w g' v x→St w os₀ none k g' σ' s'→Q v σ'→R (.ok (.ret x)) s')→
  (∀a σ' g' s',Le g g'→St w os₀ none k g' σ' s'→Fly k g' σ' s' a→X a σ'→R (.error (.ref a)) s')→codeAny (model PW w) A (.call fv ⟨xs,[]⟩) R s
structure ZO(d:Nat)(f:V)(args:List V)(σ:Hp)(Q:V→Hp→Prop)(X:Addr→Hp→Prop):Prop where
 run:∀(w:World) (os₀:OsState) (A:Around) (k g:Frz) (s:Shared) (fv:Value) (xs:List Value) (Q' E':Value→Shared→Prop),St w os₀ none k g σ s→VR w g f fv→VRs w g args xs→Room d A→A.handled=none→Frames k A→
  (∀v σ' x g' s',Le g g'→VR w g' v x→St w os₀ none k g' σ' s'→Q v σ'→Q' x s')→
  (∀a σ' g' s',Le g g'→St w os₀ none k g' σ' s'→Fly k g' σ' s' a→X a σ'→E' (.ref a) s')→wpAny (model PW w) A (call fv xs) Q' E' s
theorem Zd.w{d:Nat}{f:V}{args:List V}{σ:Hp}{Q:V→Hp→Prop}{X:Addr→Hp→Prop}(h:Zd d f args σ Q X):ZO d f args σ Q X:=
 ⟨fun w os₀ A k g s fv xs Q' E' S rf ra rm hh fr hQ hX=>wpAny_call (h.run w os₀ A k g s fv xs _ S rf ra rm hh fr (fun v σ' x g' s' l r S' q=>hQ v σ' x g' s' l r S' q) fun a σ' g' s' l S' F q=>hX a σ' g' s' l S' F q)⟩
theorem ZO.mono{d d':Nat}{f:V}{args:List V}{σ:Hp}{Q Q':V→Hp→Prop}{X X':Addr→Hp→Prop}(h:ZO d f args σ Q X)(hd:d≤d')(q:∀v σ,Q v σ→Q' v σ)(x:∀a σ,X a σ→X' a σ):ZO d' f args σ Q' X':=
 ⟨fun w os₀ A k g s fv xs Q1 E1 S rf ra rm hh fr hQ hX=>h.run w os₀ A k g s fv xs Q1 E1 S rf ra (rm.le hd) hh fr (fun v σ' x g' s' l r S' z=>hQ v σ' x g' s' l r S' (q _ _ z)) fun a σ' g' s' l S' F z=>hX a σ' g' s' l S' F (x _ _ z)⟩
noncomputable abbrev noX:Addr→Hp→Prop:=fun q_ q_=>False
noncomputable abbrev YS:Addr→Loc→Hp→Prop:=fun q_ q_ q_=>False
section
variable{w:World}{os₀:OsState}{lv:Option Addr}{d d':Nat}{c:Ctx}{A:Around}{env:Env}{k k' g g':Frz}{ρ ρ':Loc}{σ σ':Hp}{s s':Shared}{X:Addr→Loc→Hp→Prop}{a:Addr}
theorem Zd.mono{f:V}{args:List V}{Q Q':V→Hp→Prop}{X X':Addr→Hp→Prop}(h:Zd d f args σ Q X)(hd:d≤d')(q:∀v σ,Q v σ→Q' v σ)(x:∀a σ,X a σ→X' a σ):Zd d' f args σ Q' X':=
 ⟨fun w os₀ A k g s fv xs R S rf ra rm hh fr hQ hX=>h.run w os₀ A k g s fv xs R S rf ra (rm.le hd) hh fr (fun v σ' x g' s' l r S' z=>hQ v σ' x g' s' l r S' (q _ _ z)) fun a σ' g' s' l S' F z=>hX a σ' g' s' l S' F (x _ _ z)⟩
noncomputable def Kg:V→Prop
 | .ref a=>∀P,keepIn (KK P) (.ref a)=true
 | .bi (.builtin _)| .bi (.type _)=>True
 | .lam _=>True
 |_=>False
theorem BH{M:Model}{f:Value}{Q':Args→Shared→Prop}{E':Value→Shared→Prop}(h:wpAny M A (spliced []) (fun vs s'=>Q' ⟨vs,[]⟩ s') E' s):wpAny M A (evalArgs f true [] []) Q' E' s:=by
 unfold evalArgs
 show wpAny M A (spliced []>>=_) Q' E' s
 refine wpAny_bind (wpAny_mono h (fun vs s' h'=>?_) fun q_ q_ x=>x)
 refine wpAny_bind (wpAny_pure ?_)
 refine wpAny_holding ?_
 exact wpAny_bind (wpAny_pure (wpAny_bind (wpAny_pure (wpAny_pure h'))))
theorem Jc.put(S:ZU w os₀ c env k g ρ σ s){o:Obj}(e:s.heap.get? env.locals=some o)(F:Jc k c.lty A env):Frames (put k env.locals o) A:=by
 obtain⟨top,fr,f1,_,f3⟩:=F
 refine⟨_,f1,fun x hx=>?_⟩
 obtain⟨h1,L,h2,h3⟩:=f3 x hx
 rcases h3 with ⟨rfl,z⟩| ⟨n,o',h4,h5⟩
 ·obtain⟨o1,p1,c1⟩:=S.lc
  obtain⟨m,⟨o2,es,ep,p2,d2,_⟩,_⟩:=S.ns
  rw[e]at p1 p2
  cases p1;cases p2
  exact⟨h1,_,o,h2,put_self ..,by rw[c1,z],fun vs q=>by rw[d2]at q;cases q⟩
 ·exact⟨h1,L,o',h2,(Ye _ _ n).trans h4,h5⟩
theorem Sit.call(S:Sit w os₀ d c A env k g ρ σ s)(hh:c.hd=none){f:V}{args:List V}{fv:Value}{xs:List Value}{Q:V→Hp→Prop}{X':Addr→Hp→Prop}{Q':Value→Shared→Prop}{E':Value→Shared→Prop}(rf:VR w g f fv)(ra:VRs w g args xs)(h:ZO d f args σ Q X')
  (hE:Yu w os₀ d c A env k g X E') (hX:∀a σ',X' a σ'→X a ρ σ') (hQ:∀v σ' x g' s',Le g g'→VR w g' v x→Sit w os₀ d c A env k g' ρ σ' s'→Q v σ'→Q' x s'):wpAny (model PW w) A (call fv xs) Q' E' s:=by
 obtain⟨o,lo,lc⟩:=S.lc
 have S0:=S.st.seal lo
 have hA:A.handled=none:=by rw[S.hd,hh];rfl
 have back:∀{g':Frz} {σ':Hp} {s':Shared},Le g g'→St w os₀ none (put k env.locals o) g' σ' s'→Sit w os₀ d c A env k g' ρ σ' s':=fun {g' σ' s'} l S'=>by
  obtain⟨sl,e1,_⟩:=S'.kp env.locals o (by simp) (put_self ..)
  obtain⟨m,⟨o2,es,ep,p2,d2,r2⟩,r⟩:=S.ns
  rw[lo]at p2;cases p2
  exact S.mk' {S.toZU with st:=S'.unseal S.kl S.st.m2,ns:=⟨m,⟨_,es,ep,e1,d2,r2⟩,fun x=>(r x).mono l⟩,lc:=⟨_,e1,lc⟩,pins:=S.pins.mono (Le.refl k) l}
 refine h.run w os₀ A _ g s fv xs _ _ S0 rf ra S.room hA (Jc.put S.toZU lo S.frs) (fun v σ' x g' s' l r S' q=>hQ v σ' x g' s' l r (back l S') q) fun a σ' g' s' l S' F x=>?_
 refine hE a ρ σ' g' s' ‹_› (back ‹_› S') ?_ (hX _ _ x)
 obtain⟨oe,vs,T,h1,h2,h3,n1,n2,r⟩:=F
 refine Fly.flies _ ⟨oe,vs,T,h1,h2,h3,n1,?_,r⟩
 by_cases z:T=env.locals
 ·rw[z,put_self]at n2;cases n2
 ·rwa [Ye _ _ z]at n2
set_option tactic.hygienic true in
theorem Gb(S:Sit w os₀ d c A env k g ρ σ s)(hh:c.hd=none){f:V}{first:List V}{fv:Value}{fs:List Value}{es:List Expr}{pos:Pos}{Q:V→Hp→Prop}{Q':Value→Shared→Prop}{E':Value→Shared→Prop}(rf:VR w g f fv)(r1:VRs w g first fs)(kf:Kg f)
  (hs:JM es=true) (hE:Yu w os₀ d c A env k g X E')
  (h:WL c d es ρ σ (fun vs σ1=>ZO d f (first++vs) σ1 Q (fun a σ'=>X a ρ σ')) X)
  (hQ:∀v σ' x g' s',Le g g'→VR w g' v x→Sit w os₀ d c A env k g' ρ σ' s'→Q v σ'→Q' x s'):wpAny (model PW w) A (callWith pos fv fs (backTo pos (starEach es env)) []) Q' E' s:=by
 have hplain:((backTo pos (starEach es env)).any (·.1)|| ([]:List (Option Str×Sem Value)).any (·.1.isNone))=false:=by
  rw[Jj hs]
  simp[backTo]
 refine callWith_of (P:=fun hp=>Frag.In (KK w.params) hp∧∀b o,g b=some o→hp.get? b=some o) hplain (fun hp P=>?_) ?_
 ·cases rf<;>try exact kf.elim
  ·exact keeps_K (kf w.params) hp P.1
  case lam fd a o c oc vs t h1 h2 h3 h4 h5 h6 h7=>exact⟨.frame,.inl rfl,(Looks.ld (part:=none) (P.2 _ _ h1)).andThen (by rw[h3];exact .now)⟩
  ·cases fv<;>first|exact kf.elim|exact⟨.machine,.inr (.inl rfl),.now⟩
 ·have fin:wpAny (model PW w) A (spliced (backTo pos (starEach es env))) (fun xs s1=>(Frag.In (KK w.params) s1.heap∧∀b o,g b=some o→s1.heap.get? b=some o)∧wpAny (model PW w) A (call fv (fs++xs)) Q' E' s1) E' s:=
   h.use S hE fun vs σ1 xs g1 s1 l1 r2 S1 hE1 h1=>⟨⟨S1.KIn,fun b o e=>S1.st.fr _ _ (l1 _ _ e)⟩,S1.call hh (rf.mono l1) ((r1.mono l1).append r2) h1 hE1 (fun q_ q_ z=>z) fun v σ' x g' s' l r S' q=>hQ v σ' x g' s' (l1.trans l) r S' q⟩
  cases es with
  |nil=>
   rw[Jj hs]at fin⊢
   exact BH fin
  |cons e es=>
   rw[Jj hs]at fin⊢
   exact evalArgs_plain fin
noncomputable abbrev K8J1(ρ:Loc)(X:Addr→Loc→Hp→Prop)(a:Addr)(σ':Hp):Prop:=X a ρ σ'
noncomputable abbrev K8J2(d:Nat)(ρ:Loc)(X:Addr→Loc→Hp→Prop)(Q:V→Hp→Prop)(f:V)(vs:List V)(σ1:Hp):Prop:=ZO d f vs σ1 Q (K8J1 ρ X)
theorem Qi{x:Str}{p pos:Pos}{es:List Expr}{Q:V→Hp→Prop}(hh:c.hd=none)(hs:JM es=true)
  (h:WE c d (.Name x p) ρ σ (fun f σ0=>Kg f∧WL c d es ρ σ0 (K8J2 d ρ X Q f) X) X):WE c d (.Call (.Name x p) es [] pos) ρ σ Q X:=
 WE.mk fun w os₀ A env k g s Q' E' S hE hQ=>wpAny_Call_NameR (h.use S hE fun f σ0 fv g1 s1 l1 rf S1 hE1 h1=>
  Gb S1 hh rf (first:=[]) .nil h1.1 hs hE1 h1.2 fun v σ' x g' s' l r S' q=>hQ v σ' x g' s' (l1.trans l) r S' q)
noncomputable def GE(name:Str)(v:V)(σ:Hp)(f:V)(first:List V):Prop:=
 ∀(w:World) (os₀:OsState) (lv:Option Addr) (A:Around) (k g:Frz) (s:Shared) (x:Value) (pl:Sem Bool) (Q':Value×List Value→Shared→Prop) (E':Value→Shared→Prop),St w os₀ lv k g σ s→VR w g v x→
  (∀fv fs t,VR w g f fv→VRs w g first fs→Q' (fv,fs) {s with toks:=t})→wpAny (model PW w) A (getMethod x name pl) Q' E' s
inductive Zf5(d:Nat)(c:Ctx)(ρ:Loc)(X:Addr→Loc→Hp→Prop)(name:Str)(es:List Expr)(Q:V→Hp→Prop)(v:V)(σ0:Hp):Prop
 |mk (f:_) (first:_) (h1:GE name v σ0 f first) (h2:Kg f) (h3:WL c d es ρ σ0 (fun vs σ1=>ZO d f (first++vs) σ1 Q (fun a σ'=>X a ρ σ')) X):Zf5 d c ρ X name es Q v σ0
noncomputable def OD(o:Expr)(ap pos:Pos)(es:List Expr):Bool:=Zae o&&(ap.endLine==pos.line&&(Nat.blt es.length 30&&JM es))
theorem Zd0{o:Expr}{name:Str}{ap pos:Pos}{es:List Expr}(env:Env)(h:OD o ap pos es=true):∃pl,eval (.Call (.Attribute o name ap) es [] pos) env=(do
   let ov←eval o env
   standAt ap.atName
   let(f,first)←holding [ov] (getMethod ov name pl)
   callWith pos f first (backTo pos (starEach es env)) []):=by
 have h:=Bool.and_eq_true_iff.mp h
 have h2:=Bool.and_eq_true_iff.mp h.2
 have h3:=Bool.and_eq_true_iff.mp h2.2
 have fm:methodCallForm (es.length+([]:List Keyword).length) (backTo pos (starEach es env)) (backToKw pos (keywordEach [] env))=true:=by
  rw[Jj h3.2]
  exact Bool.and_eq_true_iff.mpr ⟨Bool.and_eq_true_iff.mpr ⟨List.all_eq_true.mpr fun x m=>by
   obtain⟨y,hy,rfl⟩:=List.mem_map.mp m
   obtain⟨z,hz,rfl⟩:=List.mem_map.mp hy
   rfl,rfl⟩,decide_eq_true (nB h3.1)⟩
 have e:=arm_eval_Call o name ap es [] pos env
 rw[Bx h.1]at e
 unfold methodCall at e
 rw[fm]at e
 unfold methodCallPos at e
 rw[h2.1]at e
 exact⟨_,e⟩
theorem ZC{o:Expr}{name:Str}{ap pos:Pos}{es:List Expr}{Q:V→Hp→Prop}(hh:c.hd=none)(hs:OD o ap pos es=true)
  (h:WE c d o ρ σ (Zf5 d c ρ X name es Q) X):WE c d (.Call (.Attribute o name ap) es [] pos) ρ σ Q X:=
 WE.mk fun w os₀ A env k g s Q' E' S hE hQ=>by
  obtain⟨pl,he⟩:=Zd0 env hs
  have hs:=(Bool.and_eq_true_iff.mp (Bool.and_eq_true_iff.mp (Bool.and_eq_true_iff.mp hs).2).2).2
  refine MethodCall_ (pl:=pl) (h.use S hE fun v σ0 x g1 s1 l1 rf S1 hE1 h1=>?_) he
  obtain⟨f,first,hm,kf,h1⟩:=h1
  exact hm w os₀ _ A k g1 s1 x pl _ E' S1.st rf fun fv fs t rf rfs=>Gb (S1.toks t) hh rf rfs kf hs hE1 h1 fun v σ' x g' s' l r S' q=>hQ v σ' x g' s' (l1.trans l) r S' q
noncomputable def Zz(C f:Addr)(name:Str):Prop:=∀P,(findIn (KK P) (.ref C) "__getattribute__",findIn (KK P) (.ref C) "__getattr__",findIn (KK P) (.ref C) name,typeIn (KK P) (.ref f),keepIn (KK P) (.ref f))=(some (some (.builtin "object.__getattribute__")),some none,some (some (.ref f)),some (.type "function"),true)
theorem Zz.ga{C f:Addr}{name:Str}(h:Zz C f name)(P:Params):findIn (KK P) (.ref C) "__getattribute__" =some (some (.builtin "object.__getattribute__")):=congrArg (·.1) (h P)
theorem Zz.gk{C f:Addr}{name:Str}(h:Zz C f name)(P:Params):findIn (KK P) (.ref C) "__getattr__" =some none:=congrArg (·.2.1) (h P)
theorem Zz.fn{C f:Addr}{name:Str}(h:Zz C f name)(P:Params):findIn (KK P) (.ref C) name=some (some (.ref f)):=congrArg (·.2.2.1) (h P)
theorem Zz.ty{C f:Addr}{name:Str}(h:Zz C f name)(P:Params):typeIn (KK P) (.ref f)=some (.type "function"):=congrArg (·.2.2.2.1) (h P)
theorem Kh{name:Str}{v:V}{C f:Addr}{fs:List (Str×V)}(e:Vg σ v=some (C,fs))(ok:Zz C f name)(hn:aget fs name=none):GE name v σ (.ref f) [v]:=
 fun w os₀ lv A k g s x pl Q' E' S r h=>by
  obtain⟨a,ox,od,kvs,rfl,I,D,q⟩:=S.inst e r
  exact method_fn S.KIn I (ok.ga _) (ok.gk _) (ok.fn _) (ok.ty _) (by show Option.map _ (lookIn name od)=_;rw[D.lookIn,q.get_none hn];rfl) (h _ _ s.toks (.ref f) (.cons r .nil))
theorem Zak{name:Str}{v y:V}{C:Addr}{fs:List (Str×V)}(e:Vg σ v=some (C,fs))(ga:∀P,findIn (KK P) (.ref C) "__getattribute__" =some (some (.builtin "object.__getattribute__")))(gk:∀P,findIn (KK P) (.ref C) "__getattr__" =some none)
  (ok:Zt C name) (hv:aget fs name=some y) (hh:Jt y=true):GE name v σ y []:=
 fun w os₀ lv A k g s x pl Q' E' S r h=>by
  obtain⟨a,ox,od,kvs,rfl,I,D,q⟩:=S.inst e r
  exact method_usual S.KIn I (ga _) (gk _) (ok.no _) rfl (WU S r e ok hv hh fun z t rz=>h _ _ t rz .nil)
theorem Yb{name:Str}{id:String}{v:V}{vs:List V}(slot:Slot "list" name id)(hty:typeOf (.builtin id)=pure (.type "method_descriptor"))(e:ZV σ v=some vs):GE name v σ (.bi (.builtin id)) [v]:=
 fun w os₀ lv A k g s x pl Q' E' S r h=>by
  obtain⟨a,Vs,n,rfl,p,q⟩:=S.list e r
  exact getMethod_list_of slot hty (ZM p) ⟨_,p,rfl⟩ (h _ _ s.toks (.bi _) (.cons r .nil))
theorem Nd{name:Str}{id:String}{x:Str}(slot:Slot "str" name id)(hty:typeOf (.builtin id)=pure (.type "method_descriptor")):GE name (.str x) σ (.bi (.builtin id)) [.str x]:=
 fun w os₀ lv A k g s y pl Q' E' S r h=>by
  have r':=r
  cases r'
  exact getMethod_builtin (typeIs_str _ _ _) PySem.F.plainAttrs_str slot hty (fun a e=>by cases e) (h _ _ s.toks (.bi _) (.cons r .nil))
theorem Ua{name:Str}{id:String}{v:V}{vs:List (Int×V)}(slot:Slot "dict" name id)(hty:typeOf (.builtin id)=pure (.type "method_descriptor"))(e:Wo σ v=some vs):GE name v σ (.bi (.builtin id)) [v]:=
 fun w os₀ lv A k g s x pl Q' E' S r h=>by
  obtain⟨a,kvs,rfl,p,q,_⟩:=S.idict e r
  exact getMethod_builtin p.typeIs PySem.F.plainAttrs_dict slot hty p.mapOf.noDict (h _ _ s.toks (.bi _) (.cons r .nil))
end
end
section
noncomputable def cellsσ:Nat→List (Str×NameKind)→Hp→Hp
 |_,[],σ=>σ
 |n,(_,kind)::r,σ=>if kind== .cell then cellsσ (n+1) r {σ with cs:=up σ.cs n (some none)}else cellsσ n r σ
noncomputable def Yp(fd:FuncData)(n:Nat):Ctx:=⟨fd.scope,cellsFrom (n+1) fd.scope.names fd.closure,fd.qualname++".<locals>.",fd.code,none,"frame",[]⟩
noncomputable def YY(fd:FuncData)(args:List V)(ns:List Str)(vs:List V):Prop:=
 ∀(w:World) (g:Frz) (s:Shared) (xs:List Value),(KK w.params).In s.heap→VRs w g args xs→∃ys,VRs w g vs ys∧BindsTo s fd ⟨xs,[]⟩ (ns.zip ys)
section
variable{w:World}{os₀:OsState}{lv:Option Addr}{d d':Nat}{c:Ctx}{A:Around}{env:Env}{k k' g g':Frz}{ρ ρ':Loc}{σ σ':Hp}{s s':Shared}{a:Addr}
theorem St.nolimit(S:St w os₀ lv k g σ s):s.heap.NoLimit:=by
 have e:nsIn (KK w.params) cStatics "sys.recursionlimit" =some none:=by
  have:∀P,nsIn (KK P) cStatics "sys.recursionlimit" =some none:=fun P=>by kernel_rfl
  exact this _
 have ok:nsOkIn (KK w.params) cStatics=true:=by
  have:∀P,nsOkIn (KK P) cStatics=true:=fun P=>by kernel_rfl
  exact this _
 exact⟨_,.of_isNs (isNs_of_in S.KIn ok),nsMap_none_of_in S.KIn ok e⟩
theorem St.cells(names:List (Str×NameKind))(S:St w os₀ lv k g σ s):St w os₀ lv k g (cellsσ s.heap.objs.size names σ) {s with heap:=pushCells s.heap names}:=by
 induction names generalizing σ s with
 |nil=>exact S
 |cons x r ih=>
  obtain⟨x,kind⟩:=x
  by_cases q:(kind== .cell)=true
  ·rw[show cellsσ s.heap.objs.size ((x,kind)::r) σ=_ from if_pos q,show pushCells s.heap ((x,kind)::r)=_ from if_pos q]
   have F:=S.fresh (Nat.le_refl _)
   have S1:=(S.push {cls:=.type "cell",data:=.cell none}).addC (a:=s.heap.objs.size) (v:=none) ⟨F.gn,F.kn,_,none,Heap.get?_push_size _ rfl,rfl,.none⟩
   have:=ih (s:={s with heap:=s.heap.push {cls:=.type "cell",data:=.cell none}}) S1
   rwa [show({s with heap:=s.heap.push {cls:=.type "cell",data:=.cell none}}:Shared).heap.objs.size=s.heap.objs.size+1 from Heap.size_push ..]at this
  ·rw[show cellsσ s.heap.objs.size ((x,kind)::r) σ=_ from if_neg q,show pushCells s.heap ((x,kind)::r)=_ from if_neg q];exact ih S
theorem NX(f:Frz)(a:Addr)(o:Obj):put (put f a o) a o=put f a o:=by
 funext b;unfold put;split<;>rfl
theorem St.retire{L:Addr}{o:Obj}(S:St w os₀ (some L) (put k L o) g σ s)(hk:k L=none)(hm:(k sysModules).isSome=true):St w os₀ none k g σ s:=by
 have dn:∀{b},put k L o b=none→k b=none:=fun {b} q=>by
  by_cases z:b=L
  ·rw[z,put_self]at q;cases q
  ·rwa [Ye _ _ z]at q
 refine⟨fun b x n q=>?_,(fun b q=>nomatch q),S.fr,fun a x q=>(S.ls a x q).more (Le.refl g) (S.ls a x q).gn (dn (S.ls a x q).kn),fun a x q=>(S.ds a x q).more (Le.refl g) (S.ds a x q).gn (dn (S.ds a x q).kn),
  fun a x q=>(S.ss a x q).more (Le.refl g) (S.ss a x q).gn (dn (S.ss a x q).kn),fun a x q=>(S.is a x q).more (Le.refl g) (S.is a x q).gn (dn (S.is a x q).kn) (S.is a x q).d.gn (dn (S.is a x q).d.kn),
  fun a x q=>(S.cs a x q).more (Le.refl g) (S.cs a x q).gn (dn (S.cs a x q).kn),fun a x q=>(S.ts a x q).more (Le.refl g) (S.ts a x q).gn (dn (S.ts a x q).kn),S.sd,S.id,S.K,S.nf,fun b x q=>?_,hm,S.gens,S.os⟩
 ·have:b≠L:=fun z=>by rw[z,hk]at q;cases q
  exact S.kp b x (fun z=>this (Option.some.inj z).symm) ((Ye _ _ this).trans q)
 ·have:b≠L:=fun z=>by rw[z,hk]at q;cases q
  exact S.kg b x ((Ye _ _ this).trans q)
theorem Gu{fd:FuncData}(S:St w os₀ none k g σ s)(hh:A.handled=none)(hg:fd.globals=3)(hb:fd.builtins=0)(hkd:fd.scope.kind=.function)(fr:Frames k A){fa:Addr}{ns:List Str}{vs:List V}{ys:List Value}(rv:VRs w g vs ys){N:Nat→Loc→Hp→Prop}
  (hN:∀n,(∀m,n≤m→Free σ m)→WNs (Yp fd n) ns vs [] (cellsσ (n+1) fd.scope.names σ) (N n)) {Q':Env→Shared→Prop} {E':Value→Shared→Prop} (hl:ns.length=vs.length)
  (h:∀n env o ρ' σ' s',k n=none→(∀A',A'.frames=(A.deeper env).frames→Jc (put k n o) "frame" A' env)→env.locals=n→ZU w os₀ (Yp fd n) env (put k n o) g ρ' σ' s'→N n ρ' σ'→(∀m,n≤m→Free σ m)→Q' env s'):
  wpAny (model PW w) A.in1 (newFunctionEnv fd.scope fd.globals fd.closure (ns.zip ys) (fd.qualname++".<locals>.") (some fa) fd.code none fd.builtins) Q' E' s:=by
 have F:=S.fresh (Nat.le_refl _)
 have FF:∀m,s.heap.objs.size≤m→Free σ m:=fun m hm=>(S.fresh hm).free
 simp only[newFunctionEnv,Option.isSome_none,Bool.false_eq_true,if_false]
 refine wpAny_bind (wpAny_alloc ?_)
 refine wpAny_bind (wpAny_layCells _ (fun name kind cells=>by cases hkc:kind==NameKind.cell<;>simp[hkc]) _ _ _ _ ?_)
 have S1:=((S.push {cls:=.type "frame",data:=.dict #[]}).hide F.free (Heap.get?_push_size _ rfl) F.kn F.gn)
 rw[←NX]at S1
 have S2:=S1.unseal (by rw[put_self];rfl) (by rw[Ye _ _ (Ne.symm (QI S F.kn))];exact S.m2)
 have S3:=S2.cells fd.scope.names
 have sz:({s with heap:=s.heap.push {cls:=.type "frame",data:=.dict #[]}}:Shared).heap.objs.size=s.heap.objs.size+1:=Heap.size_push ..
 rw[sz]at S3⊢
 refine wpAny_bind ?_
 generalize hE:({scope:=fd.scope,locals:=s.heap.objs.size,globals:=fd.globals,cells:=cellsFrom (s.heap.objs.size+1) fd.scope.names fd.closure,qual:=fd.qualname++".<locals>.",func:=some fa,code:=fd.code,frame:=some s.heap.objs.size,builtins:=fd.builtins}:Env)=env
 have hL:env.locals=s.heap.objs.size:=by rw[←hE]
 have X:ZU w os₀ (Yp fd s.heap.objs.size) env (put k s.heap.objs.size {cls:=.type "frame",data:=.dict #[]}) g [] (cellsσ (s.heap.objs.size+1) fd.scope.names σ) {s with heap:=pushCells (s.heap.push {cls:=.type "frame",data:=.dict #[]}) fd.scope.names}:=by
  subst hE
  exact {st:=S3,scope:=rfl,kind:=hkd,cells:=rfl,glob:=hg,blt:=hb,qual:=rfl,code:=rfl,ns:=⟨_,(Heap.Ns.new s.heap (.type "frame")).keeps (pushCells_keeps _ _),fun x=>trivial⟩,lc:=⟨_,pushCells_keeps _ _ _ _ (Heap.get?_push_size _ rfl),rfl⟩,pins:=JI.nil,pinL:=fun q_ m=>by cases m}
 have fin:∀ρ' σ' s',ZU w os₀ (Yp fd s.heap.objs.size) env (put k s.heap.objs.size {cls:=.type "frame",data:=.dict #[]}) g ρ' σ' s'→N s.heap.objs.size ρ' σ'→Q' env s':=fun ρ' σ' s' X' q=>by
  refine h s.heap.objs.size env _ ρ' σ' s' F.kn (fun A' hA'=>?_) hL X' q FF
  obtain⟨fl,f1,f2⟩:=fr
  refine⟨env,fl,?_,⟨rfl,fun q_=>⟨rfl,by rw[←hE]⟩⟩,fun e he=>?_⟩
  ·rw[hA'];show A.frames.map (env:: ·)=_;rw[f1];rfl
  ·rcases List.mem_cons.mp he with rfl|he
   ·exact⟨by rw[←hE];show fd.scope.kind≠_;rw[hkd];decide,s.heap.objs.size,by rw[←hE],.inl ⟨hL.symm,rfl⟩⟩
   ·obtain⟨x1,L,o,x2,x3,x4⟩:=f2 e he
    have:L≠s.heap.objs.size:=fun z=>by rw[z,F.kn]at x3;cases x3
    exact⟨x1,L,x2,.inr ⟨by rw[hL];exact this,o,(Ye _ _ this).trans x3,x4⟩⟩
 have hN':=hN s.heap.objs.size FF
 clear hN h S1 S2 S3 hE
 have hL:ns.length=ys.length:=hl.trans rv.length
 have key:∀(f:Str×Value→PUnit→Sem (ForInStep PUnit)),(∀p u,f p u=(do storeName env p.1 p.2;pure (.yield PUnit.unit)))→∀(ns:List Str) (vs:List V) (ys:List Value) (ρ:Loc) (σ₁:Hp) (s₁:Shared),VRs w g vs ys→ns.length=ys.length→ZU w os₀ (Yp fd s.heap.objs.size) env (put k s.heap.objs.size {cls:=.type "frame",data:=.dict #[]}) g ρ σ₁ s₁→WNs (Yp fd s.heap.objs.size) ns vs ρ σ₁ (N s.heap.objs.size)→
   wpAny (model PW w) A.in1 (forIn (ns.zip ys) PUnit.unit f) (fun q_ s'=>Q' env s') E' s₁:=by
  intro f hf ns
  induction ns with
  |nil=>
   intro vs ys ρ σ₁ s₁ rv hl X hN
   cases rv with
   |nil=>
    rw[List.zip_nil_left,List.forIn_nil]
    exact wpAny_pure (fin _ _ _ X hN)
   |cons a b=>simp at hl
  |cons n ns ih=>
   intro vs ys ρ σ₁ s₁ rv hl X hN
   cases rv with
   |nil=>simp at hl
   |cons a b=>
    rw[List.zip_cons_cons,List.forIn_cons,hf]
    exact wpAny_bind (wpAny_bind (hN.run w os₀ A.in1 env _ g s₁ _ _ E' X a fun ρ' σ' s' X' q=>wpAny_pure (ih _ _ ρ' σ' s' b (by simpa using hl) X' q)))
 exact wpAny_mono (key _ (fun p u=>rfl) ns vs ys [] _ _ rv hL X hN') (fun q_ s' q=>wpAny_pure q) fun q_ q_ q=>q
noncomputable def Xh(f:Addr)(fd:FuncData):Prop:=∀P,((KK P).lookup f,codeIn (KK P) fd.code fd.qualname,fd.globals,fd.builtins,fd.scope.kind,fd.scope.isCoroutine,fd.scope.isGenerator)=(some {cls:=.type "function",data:=.func fd},true,3,0,.function,false,false)
theorem Xh.at_{f:Addr}{fd:FuncData}(h:Xh f fd)(P:Params):(KK P).lookup f=some {cls:=.type "function",data:=.func fd}:=congrArg (·.1) (h P)
theorem Xh.code{f:Addr}{fd:FuncData}(h:Xh f fd)(P:Params):codeIn (KK P) fd.code fd.qualname=true:=congrArg (·.2.1) (h P)
structure Zfc(fd:FuncData):Prop where
 glob:fd.globals=3
 blt:fd.builtins=0
 kind:fd.scope.kind=.function
 co:fd.scope.isCoroutine=false
 gen:fd.scope.isGenerator=false
theorem Xh.ok{f:Addr}{fd:FuncData}(h:Xh f fd)(P:Params):Zfc fd:=have e:=congrArg (·.2.2) (h P);⟨congrArg (·.1) e,congrArg (·.2.1) e,congrArg (·.2.2.1) e,congrArg (·.2.2.2.1) e,congrArg (·.2.2.2.2) e⟩
noncomputable def Excs(X:Addr→Hp→Prop):Prop:=∀a σ,X a σ→∃r,σ.is a=some r∧r.x=true
theorem Zf:Excs noX:=fun q_ q_ h=>h.elim
theorem ZdN{fd:FuncData}{body:List Stmt}{Q:V→Hp→Prop}{X:Addr→Hp→Prop}(hX:Excs X){n:Nat}{o:Obj}{hk:k n=none}(S0:St w os₀ none k g σ s)(rm:Room (d+1) A)(hh:A.handled=none)(hE:Jc (put k n o) "frame" (A.deeper env) env)(hn:env.locals=n)
  {s':Shared} (SF:ZU w os₀ (Yp fd n) env (put k n o) g ρ' σ' s') (B:WS (Yp fd n) d body ρ' σ' (fun q_ σ=>Q .none σ) Q (fun a q_ σ=>X a σ)) {R:Result→Shared→Prop}
  (hQ:∀v σ' x g' s',Le g g'→VR w g' v x→St w os₀ none k g' σ' s'→Q v σ'→R (.ok (.ret x)) s')
  (hR:∀a σ' g' s',Le g g'→St w os₀ none k g' σ' s'→Fly k g' σ' s' a→X a σ'→R (.error (.ref a)) s'):codeAny (model PW w) A (.func body env) R s':=by
 have m2:=S0.m2
 have SS:Sit w os₀ d (Yp fd n) (A.deeper env) env (put k n o) g ρ' σ' s':=⟨SF,rm.deeper,hh,hE⟩
 subst hn
 refine codeAny_func (B.use SS (fun a ρ2 σ2 g2 s2 l2 S2 F2 x2=>?_) (fun ρ2 σ2 g2 s2 l2 S2 hE2 q=>hQ _ _ _ g2 _ l2 .none (S2.st.retire hk m2) q) (fun v ρ2 σ2 x g2 s2 l2 r S2 q=>hQ _ _ _ g2 _ l2 r (S2.st.retire hk m2) q))
 obtain⟨r,e,hx⟩:=hX _ _ x2
 refine Dw S2 rfl e hx F2 fun s3 S3 F3=>hR a _ g2 _ l2 (S3.st.retire hk m2) ?_ x2
 obtain⟨oe,vs,T,h1,h2,h3,n1,n2,r⟩:=F3
 exact⟨oe,vs,T,h1,h2,h3,n1,Zi (Js (.inl hk)) n2,r⟩
theorem Yq{f:Addr}{body:List Stmt}{args vs:List V}{ns:List Str}{Q:V→Hp→Prop}{X:Addr→Hp→Prop}(fd:FuncData)(ha:Xh f fd)(hb:fd.body=.stmts body)(hX:Excs X)(bd:YY fd args ns vs)(hl:ns.length=vs.length)
  (h:∀n,(∀m,n≤m→Free σ m)→WNs (Yp fd n) ns vs [] (cellsσ (n+1) fd.scope.names σ) fun ρ' σ'=>WS (Yp fd n) d body ρ' σ' (fun q_ σ=>Q .none σ) Q (fun a q_ σ=>X a σ)):Zd (d+1) (.ref f) args σ Q X:=
 ⟨fun w os₀ A k g s fv xs R S rf ra rm hh fr hQ hR=>by
  obtain rfl:=rf.refI
  have ok:=ha.ok w.params
  obtain⟨ys,rv,hB⟩:=bd w g s xs S.KIn ra
  refine codeAny_call_function rm.dlt (S.KIn _ _ (ha.at_ _)) rfl ok.co ok.gen hb (codeRec_of S.KIn (ha.code _)) (hB _ _ _ _ ?_)
  refine Gu (N:=fun n ρ' σ'=>_) S hh ok.glob ok.blt ok.kind fr rv h hl fun n env o ρ' σ' s' hk hE hn SF B q_=>⟨SF.st.nolimit,?_⟩
  exact ZdN (hk:=hk) hX S rm hh (hE _ rfl) hn SF B hQ hR⟩
theorem ZdB{fd:FuncData}{e:Expr}{Q:V→Hp→Prop}{X:Addr→Hp→Prop}(hX:Excs X){n:Nat}{o:Obj}{hk:k n=none}(S0:St w os₀ none k g σ s)(rm:Room (d+1) A)(hh:A.handled=none)(hE:Jc (put k n o) "frame" (A.deeper env) env)(hn:env.locals=n)
  {s':Shared} (SF:ZU w os₀ (Yp fd n) env (put k n o) g ρ' σ' s') (B:WE (Yp fd n) d e ρ' σ' Q (fun a q_ σ=>X a σ)) {R:Result→Shared→Prop}
  (hQ:∀v σ' x g' s',Le g g'→VR w g' v x→St w os₀ none k g' σ' s'→Q v σ'→R (.ok (.ret x)) s')
  (hR:∀a σ' g' s',Le g g'→St w os₀ none k g' σ' s'→Fly k g' σ' s' a→X a σ'→R (.error (.ref a)) s'):codeAny (model PW w) A (.expr e env) R s':=by
 have m2:=S0.m2
 have SS:Sit w os₀ d (Yp fd n) (A.deeper env) env (put k n o) g ρ' σ' s':=⟨SF,rm.deeper,hh,hE⟩
 subst hn
 refine kla_codeExpr (B.use SS (fun a ρ2 σ2 g2 s2 l2 S2 F2 x2=>?_) (fun v σ2 x g2 s2 l2 r S2 hE2 q=>hQ _ _ _ g2 _ l2 r (S2.st.retire hk m2) q))
 obtain⟨r,e,hx⟩:=hX _ _ x2
 refine Dw S2 rfl e hx F2 fun s3 S3 F3=>hR a _ g2 _ l2 (S3.st.retire hk m2) ?_ x2
 obtain⟨oe,vs,T,h1,h2,h3,n1,n2,r⟩:=F3
 exact⟨oe,vs,T,h1,h2,h3,n1,Zi (Js (.inl hk)) n2,r⟩
theorem Hx{fd:FuncData}{e:Expr}{args vs:List V}{ns:List Str}{Q:V→Hp→Prop}{X:Addr→Hp→Prop}(ok:Zfc fd)(hb:fd.body=.expr e)(hX:Excs X)(bd:YY fd args ns vs)(hl:ns.length=vs.length)
  (h:∀n,(∀m,n≤m→Free σ m)→WNs (Yp fd n) ns vs [] (cellsσ (n+1) fd.scope.names σ) fun ρ' σ'=>WE (Yp fd n) d e ρ' σ' Q (fun a q_ σ=>X a σ)):Zd (d+1) (.lam fd) args σ Q X:=
 ⟨fun w os₀ A k g s fv xs R S rf ra rm hh fr hQ hR=>by
  cases rf with
  |lam a o fd c oc us t h1 h2 h3 h4 h5 h6 h7=>
  obtain⟨ys,rv,hB⟩:=bd w g s xs S.KIn ra
  refine kla_callFunE rm.dlt (S.fr _ _ h1) h3 ok.co ok.gen hb ⟨c,oc,us,t,h4,S.fr _ _ h5,h6,h7⟩ (hB _ _ _ _ ?_)
  refine Gu (N:=fun n ρ' σ'=>_) S hh ok.glob ok.blt ok.kind fr rv h hl fun n env o ρ' σ' s' hk hE hn SF B q_=>⟨SF.st.nolimit,?_⟩
  exact ZdB (hk:=hk) hX S rm hh (hE _ rfl) hn SF B hQ hR⟩
end
end
section
noncomputable def VZ(t:Expr):Prop:=(letOwnedTupleGo t=fun q_ q_=>pure ())∨letOwnedTupleGo t=letOwnedTupleGo (.Tuple [] 0 default)
noncomputable abbrev Apart(fp:List Addr)(k g:Frz)(σ:Hp):Prop:=∀b∈fp,k b=none∧g b=none∧Free σ b
noncomputable abbrev Wc(fp:List Addr)(h h':Heap):Prop:=∀b o,b∉fp→h.get? b=some o→h'.get? b=some o
noncomputable abbrev Alive(fp:List Addr)(h:Heap):Prop:=∀b∈fp,∃o,h.get? b=some o∧o.cls≠.type "frame"
structure Strm(w:World)(os₀:OsState)(A:Around)(k₀ g₀:Frz)(I:Addr)(fp:List Addr)(items:List V)(Ok:Hp→Prop)(At:Nat→Heap→Prop):Prop where
 self:∀{s:Shared} {Q E:Value→Shared→Prop},At 0 s.heap→Q (.ref I) s→wpAny (model PW w) A (pyIter (.ref I)) Q E s
 frame:∀i h h',At i h→(∀b∈fp,∀o,h.get? b=some o→h'.get? b=some o)→At i h'
 live:∀i h,At i h→Alive fp h
 turn:∀{t:Expr} {i:Nat} {v:V} {s:Shared} {lv:Option Addr} {k g:Frz} {σ:Hp} {B:Value→Shared→Prop} {C:Shared→Prop} {E E':Value→Shared→Prop},VZ t→items[i]? =some v→At i s.heap→Le g₀ g→Le k₀ k→(∀b,lv=some b→k₀ b=none)→St w os₀ lv k g σ s→Ok σ→Apart fp k g σ→
  (∀x h' tk g',Le g g'→VR w g' v x→At (i+1) h'→St w os₀ lv k g' σ {s with heap:=h',toks:=tk}→Wc fp s.heap h'→Apart fp k g' σ→B x {s with heap:=h',toks:=tk})→
  wpAny (model PW w) A (pyNext (.ref I)) (fun r s₁=>match r with|none=>C s₁|some x=>wpAny (model PW w) A (letOwnedTupleGo t (.ref I) x) (fun q_ s₂=>B x s₂) E' s₁) E s
 fin:∀{s:Shared} {lv:Option Addr} {k g:Frz} {σ:Hp} {C:Shared→Prop} {D:Value→Shared→Prop} {E:Value→Shared→Prop},At items.length s.heap→Le g₀ g→Le k₀ k→(∀b,lv=some b→k₀ b=none)→St w os₀ lv k g σ s→Ok σ→Apart fp k g σ→
  (∀h' tk,St w os₀ lv k g σ {s with heap:=h',toks:=tk}→Wc fp s.heap h'→C {s with heap:=h',toks:=tk})→
  wpAny (model PW w) A (pyNext (.ref I)) (fun r s₁=>match r with|none=>C s₁|some x=>D x s₁) E s
section
variable{w:World}{os₀:OsState}{lv:Option Addr}{d d':Nat}{c:Ctx}{A:Around}{env:Env}{k k' g g':Frz}{ρ ρ':Loc}{σ σ':Hp}{s s':Shared}{X:Addr→Loc→Hp→Prop}{a:Addr}
theorem St.butL{fp:List Addr}(S:St w os₀ lv k g σ s)(F:Apart fp k g σ)(e:Wc fp s.heap s'.heap)(hgen:s'.gens=s.gens)(hos:s'.os=s.os):St w os₀ lv k g σ s':=by
 have nk:∀{b o},k b=some o→b∉fp:=fun {b o} q m=>by rw[(F b m).1]at q;cases q
 have st:∀{b},b∉fp→∀o,s.heap.get? b=some o→s'.heap.get? b=some o:=fun n o q=>e _ _ n q
 have nf:∀{α:Type} {f:Addr→Option α} {b:Addr} {x:α},(∀c∈fp,f c=none)→f b=some x→b∉fp:=fun h q m=>by rw[h _ m]at q;cases q
 refine⟨fun b x n q=>?_,fun b q=>⟨(S.lv b q).1,let⟨o,z⟩:=(S.lv b q).2;⟨o,e b o (fun m=>by have:=(S.lv b q).1;rw[(F b m).1]at this;cases this) z⟩⟩,fun b x q=>e b x (fun m=>by rw[(F b m).2.1]at q;cases q) (S.fr b x q),
  fun a x q=>(S.ls a x q).stay (st (nf (fun c m=>(F c m).2.2.ls) q)),fun a x q=>(S.ds a x q).stay (st (nf (fun c m=>(F c m).2.2.ds) q)),fun a x q=>(S.ss a x q).stay (st (nf (fun c m=>(F c m).2.2.ss) q)),
  fun a x q=>(S.is a x q).stay (st (nf (fun c m=>(F c m).2.2.is) q)) (st (fun m=>(F _ m).2.2.d a x q rfl)),fun a x q=>(S.cs a x q).stay (st (nf (fun c m=>(F c m).2.2.cs) q)),fun a x q=>(S.ts a x q).stay (st (nf (fun c m=>(F c m).2.2.ts) q)),S.sd,S.id,S.K,S.nf,S.kg,S.m2,hgen.trans S.gens,hos.trans S.os⟩
 obtain⟨sl,z,y⟩:=S.kp b x n q
 exact⟨sl,e _ _ (nk q) z,y⟩
theorem ZU.butL{fp:List Addr}(S:ZU w os₀ c env k g ρ σ s)(l:Le g g')(S':St w os₀ (some env.locals) k g' σ s')(F:Apart fp k g' σ)(e:Wc fp s.heap s'.heap):ZU w os₀ c env k g' ρ σ s':=
 S.turn l S' fun o q=>e _ _ (fun m=>by have:=S.kl;rw[(F _ m).1]at this;cases this) q
theorem St.freeOf(S:St w os₀ lv k g σ s){o:Obj}(e:k a=some o):Free σ a where
 ls:=Yi fun x q=>by have:=(S.ls a x q).kn;rw[e]at this;cases this
 ds:=Yi fun x q=>by have:=(S.ds a x q).kn;rw[e]at this;cases this
 ss:=Yi fun x q=>by have:=(S.ss a x q).kn;rw[e]at this;cases this
 is:=Yi fun x q=>by have:=(S.is a x q).kn;rw[e]at this;cases this
 cs:=Yi fun x q=>by have:=(S.cs a x q).kn;rw[e]at this;cases this
 ts:=Yi fun x q=>by have:=(S.ts a x q).kn;rw[e]at this;cases this
 d:=fun b r q z=>by have:=(S.is b r q).d.kn;rw[z,e]at this;cases this
noncomputable def Jd(k:Frz)(fp:List Addr)(h:Heap):Frz:=fun b=>if b∈fp then h.get? b else k b
theorem WQ{fp:List Addr}{h:Heap}{b:Addr}(m:b∈fp):Jd k fp h b=h.get? b:=if_pos m
theorem VC{fp:List Addr}{h:Heap}{b:Addr}(m:b∉fp):Jd k fp h b=k b:=if_neg m
theorem Gq{fp:List Addr}{h:Heap}(F:∀b∈fp,k b=none):Le k (Jd k fp h):=fun b o q=>by
 rw[VC (fun m=>by rw[F b m]at q;cases q)];exact q
theorem Sit.Jd{fp:List Addr}(S:Sit w os₀ d c A env k g ρ σ s)(F:Apart fp k g σ):Sit w os₀ d c A env (Jd k fp s.heap) g ρ σ s:=by
 have T:=S.st
 have l:Le k (Internal.Jd k fp s.heap):=Gq fun b m=>(F b m).1
 have dn:∀{b},b∉fp→k b=none→Internal.Jd k fp s.heap b=none:=fun {b} n e=>by rw[VC n];exact e
 have nf:∀{α:Type} {f:Addr→Option α} {b:Addr} {x:α},(∀c∈fp,f c=none)→f b=some x→b∉fp:=fun h q m=>by rw[h _ m]at q;cases q
 have up:∀{b:Addr},(k b).isSome=true→(Internal.Jd k fp s.heap b).isSome=true:=fun {b} q=>by
  obtain⟨o,e⟩:=Option.isSome_iff_exists.mp q
  rw[l _ _ e];rfl
 obtain⟨top,fr,f1,f2,f3⟩:=S.frs
 refine {S with
       st:=⟨fun b x n q=>?_,fun b q=>⟨up (T.lv b q).1,(T.lv b q).2⟩,T.fr,fun a x q=>(T.ls a x q).more (Le.refl g) (T.ls a x q).gn (dn (nf (fun c m=>(F c m).2.2.ls) q) (T.ls a x q).kn),fun a x q=>(T.ds a x q).more (Le.refl g) (T.ds a x q).gn (dn (nf (fun c m=>(F c m).2.2.ds) q) (T.ds a x q).kn),
  fun a x q=>(T.ss a x q).more (Le.refl g) (T.ss a x q).gn (dn (nf (fun c m=>(F c m).2.2.ss) q) (T.ss a x q).kn),fun a x q=>(T.is a x q).more (Le.refl g) (T.is a x q).gn (dn (nf (fun c m=>(F c m).2.2.is) q) (T.is a x q).kn) (T.is a x q).d.gn (dn (fun m=>(F _ m).2.2.d a x q rfl) (T.is a x q).d.kn),
  fun a x q=>(T.cs a x q).more (Le.refl g) (T.cs a x q).gn (dn (nf (fun c m=>(F c m).2.2.cs) q) (T.cs a x q).kn),fun a x q=>(T.ts a x q).more (Le.refl g) (T.ts a x q).gn (dn (nf (fun c m=>(F c m).2.2.ts) q) (T.ts a x q).kn),T.sd,T.id,T.K,T.nf,fun b x q=>?_,up T.m2,T.gens,T.os⟩
       pins:=S.pins.mono l (Le.refl g)
       frs:=⟨top,fr,f1,f2,fun e he=>?_⟩}
 ·by_cases m:b∈fp
  ·rw[WQ m]at q;exact⟨x.slots,q,fun q_=>rfl⟩
  ·rw[VC m]at q;exact T.kp b x n q
 ·by_cases m:b∈fp
  ·exact(F b m).2.1
  ·rw[VC m]at q;exact T.kg b x q
 ·obtain⟨x1,L,x2,x3⟩:=f3 e he
  exact⟨x1,L,x2,x3.imp id fun⟨y0,o,y1,y2⟩=>⟨y0,o,l _ _ y1,y2⟩⟩
theorem Sit.unhideL{fp:List Addr}{h:Heap}(S0:Sit w os₀ d c A env k g ρ σ s)(F:Apart fp k g σ)(al:Alive fp h)(lg:Le g g')(S:Sit w os₀ d c A env (Internal.Jd k fp h) g' ρ' σ' s'):
  Sit w os₀ d c A env k g' ρ' σ' s'∧Apart fp k g' σ'∧∀b∈fp,∀o,h.get? b=some o→s'.heap.get? b=some o:=by
 have l:Le k (Internal.Jd k fp h):=Gq fun b m=>(F b m).1
 refine⟨S.unhide l S0.st.m2 S0.kl S0.frs (S0.pins.mono (Le.refl k) lg),fun b m=>?_,fun b m o e=>?_⟩
 ·obtain⟨o,e,_⟩:=al b m
  have:Internal.Jd k fp h b=some o:=(WQ m).trans e
  exact⟨(F b m).1,S.st.kg _ _ this,S.st.freeOf this⟩
 ·obtain⟨o',e',hc⟩:=al b m
  rw[e]at e';cases e'
  have hk:Internal.Jd k fp h b=some o:=(WQ m).trans e
  have hb:env.locals≠b:=fun z=>by have:=S0.kl;rw[z,(F b m).1]at this;cases this
  obtain⟨sl,q,r⟩:=S.st.kp b o (fun z=>hb (Option.some.inj z)) hk
  rw[q,r hc]
structure WIt(c:Ctx)(d:Nat)(e:Expr)(ρ:Loc)(σ:Hp)(Q:List V→(Hp→Prop)→Hp→Prop)(X:Addr→Loc→Hp→Prop):Prop where
 run:∀(w:World) (os₀:OsState) (A:Around) (env:Env) (k g:Frz) (s:Shared) (Q':Value→Shared→Prop) (E':Value→Shared→Prop),Sit w os₀ d c A env k g ρ σ s→Yu w os₀ d c A env k g X E'→A.handled=none→
  (∀I fp At items Ok σ' g' s',Le g g'→Sit w os₀ d c A env k g' ρ σ' s'→Strm w os₀ A (fun q_=>none) g' I fp items Ok At→At 0 s'.heap→Apart fp k g' σ'→Q items Ok σ'→Q' (.ref I) s')→
  wpAny (model PW w) A (eval e env) (fun x s₁=>wpAny (model PW w) A (pyIter x) Q' E' s₁) E' s
theorem VW{t:Expr}{I:Addr}{x:Value}{o:Obj}{cn:String}{vs:Array Value}{Q:Unit→Shared→Prop}{E:Value→Shared→Prop}(ht:VZ t)(e:s.heap.get? I=some o)(hc:o.cls=.type cn)(hd:o.data=.fields vs)
  (hn:(["enumerate","zip","dict_itemiterator","dict_reverseitemiterator","odict_iterator","itertools.zip_longest","itertools.pairwise"].contains cn)=false) (h:Q () s):wpAny (model PW w) A (letOwnedTupleGo t (.ref I) x) Q E s:=by
 refine ht.elim (fun q=>q▸wpAny_pure h) fun q=>q▸ ?_
 ·unfold letOwnedTupleGo
  cases x with
  |ref T=>
   refine wpAny_bind (wpAny_load e ?_)
   rw[hc,hd]
   show wpAny _ A (if(["enumerate","zip","dict_itemiterator","dict_reverseitemiterator","odict_iterator","itertools.zip_longest","itertools.pairwise"].contains cn&&vs[0]? ==some (rawInt T))=true then _ else _) Q E s
   rw[hn,Bool.false_and,if_neg (by decide)]
   exact wpAny_pure h
  |_=>exact wpAny_pure h
theorem Uy{I:Addr}{h h':Heap}(x:Heap.SameBut I h h'):Wc [I] h h':=fun b o n e=>(x.2 b (fun q=>n (by simp[q]))).trans e
theorem Hl{I:Addr}{h h':Heap}(x:Heap.ExtBut I h h'):Wc [I] h h':=fun b o n e=>x b o (fun q=>n (by simp[q])) e
theorem Zau{k₀ g₀:Frz}(hh:A.handled=none)(I l:Addr)(v:V)(vs:List V)(r0:VR w g₀ v (.ref l)):Strm w os₀ A k₀ g₀ I [I] vs (fun σ=>ZV σ v=some vs) (fun i h=>h.IsListIter I l i) where
 self:=fun st q=>wpAny_pyIter_listiter st q
 frame:=fun i h h' st e=>st.at fun o q=>e I (.head _) o q
 live:=fun i h st b m=>by
  rw[List.mem_singleton]at m;subst m
  obtain⟨o,ho,hc,_⟩:=st
  exact⟨o,ho,by rw[hc];decide⟩
 turn:=fun {t i x s lv k g σ B C E E'} ht hi st l0 _ _ S ok F hB=>by
  obtain⟨l',Vs,n,e1,p,r⟩:=S.list ok (r0.mono l0)
  cases e1
  obtain⟨z,hz,rz⟩:=r.get hi
  refine wpAny_pyNext_list_item st (ZM p) (x:=z) (by simpa using hz) fun h' hit hs=>?_
  have S1:St w os₀ lv k g σ {s with heap:=h'}:=S.butL F (Uy hs) rfl rfl
  obtain⟨o,ho,hc,hd⟩:=id hit
  exact VW ht ho hc hd (by decide) (hB z h' s.toks g (Le.refl g) rz hit S1 (Uy hs) F)
 fin:=fun {s lv k g σ C D E} st l0 _ _ S ok F hC=>by
  obtain⟨l',Vs,n,e1,p,r⟩:=S.list ok (r0.mono l0)
  cases e1
  refine wpAny_pyNext_list_end hh st (ZM p) (by simp[r.length]) fun h' he=>?_
  exact hC h' s.toks (S.butL F (Hl he) rfl rfl) (Hl he)
theorem GJ{k₀ g₀:Frz}(hh:A.handled=none)(I:Addr)(a:Int)(n:Nat):Strm w os₀ A k₀ g₀ I [I] ((List.range n).map fun(i:Nat)=>V.int (a+(i:Int))) (fun σ=>True) (fun i h=>IsRangeIter h I (a+(i:Nat)*1) ((n:Int)-(i:Nat)) 1) where
 self:=fun st q=>wpAny_pyIter_rangeiter st q
 frame:=fun i h h' st e=>e I (.head _) _ st
 live:=fun i h st b m=>by
  rw[List.mem_singleton]at m;subst m
  exact⟨_,st,by simp⟩
 turn:=fun {t i x s lv k g σ B C E E'} ht hi st l0 _ _ S ok F hB=>by
  have hi':i<n:=by
   have:=(List.getElem?_eq_some_iff.mp hi).1
   simpa using this
  have hx:x=V.int (a+i):=by
   rw[List.getElem?_map,List.getElem?_range hi']at hi
   exact(Option.some.inj hi).symm
  subst hx
  have W:=Walks.range (prog:=PW) (w:=w) hh I a 1 n
  refine W.item i s _ _ hi' st fun v h' tk hv st' e=>?_
  obtain⟨t',rfl⟩:=hv
  rw[Int.mul_one]at*
  have S1:St w os₀ lv k g σ {s with heap:=h',toks:=tk}:=S.butL F e rfl rfl
  refine VW ht (o:=_) st' rfl rfl (by decide) ?_
  exact hB _ h' tk g (Le.refl g) (.int _ _) st' S1 e F
 fin:=fun {s lv k g σ C D E} st l0 _ _ S ok F hC=>by
  have W:=Walks.range (prog:=PW) (w:=w) hh I a 1 n
  rw[List.length_map,List.length_range]at st
  exact W.done s _ _ st fun h' tk e=>hC h' tk (S.butL F e rfl rfl) e
inductive Zf4(I:Addr)(h:Heap):Prop
 |mk (o:_) (vs:_) (h1:h.get? I=some o) (h2:o.cls=.type "dict_keyiterator") (h3:o.data=.fields vs):Zf4 I h
theorem Zc8{I d:Addr}{i n ep:Nat}{h:Heap}(x:h.IsKeyIter I d i n ep):Zf4 I h:=by
 obtain⟨o,ho,hc,hd⟩:=x
 exact⟨o,_,ho,hc,hd⟩
theorem Bh{k₀ g₀:Frz}(hh:A.handled=none)(I D:Addr){o:Obj}{es:Array DictEntry}{ep:Nat}{kvs:List (Int×Value)}(hs:g₀ D=some o∨k₀ D=some o)(h1:o.ExactDict)(h2:o.data=.dict es ep)(h3:KeysOf (intKind PW w) es)(h4:Pairs (intKind PW w) es.toList kvs)(h5:(kvs.map (·.1)).Nodup):
  Strm w os₀ A k₀ g₀ I [I] (kvs.map fun p=>V.int p.1) (fun σ=>True) (fun i h=>h.IsKeyIter I D i kvs.length ep):=by
 have at_:∀{lv:Option Addr} {k g:Frz} {σ:Hp} {s:Shared},Le g₀ g→Le k₀ k→(∀b,lv=some b→k₀ b=none)→St w os₀ lv k g σ s→s.heap.DictAt (intKind PW w) D kvs ep:=fun {lv k g σ s} l l' hl S=>by
  refine⟨o,es,?_,h1,h2,h3,h4,h5⟩
  rcases hs with hs|hs
  ·exact S.fr _ _ (l _ _ hs)
  ·obtain⟨sl,e,q⟩:=S.kp D o (fun z=>by rw[hl D z]at hs;cases hs) (l' _ _ hs)
   rw[e,q (by rw[h1.1];decide)]
 exact {
  self:=fun st q=>wpAny_pyIter_keyiter st q
  frame:=fun i h h' st e=>st.at fun o q=>e I (.head _) o q
  live:=fun i h st b m=>by
   rw[List.mem_singleton]at m;subst m
   obtain⟨o,vs,ho,hc,_⟩:=Zc8 st
   exact⟨o,ho,by rw[hc];decide⟩
  turn:=fun {t i x s lv k g σ B C E E'} ht hi st l0 l1 l2 S ok F hB=>by
   have hi':i<kvs.length:=by
    have:=(List.getElem?_eq_some_iff.mp hi).1
    simpa using this
   obtain⟨⟨y,z⟩,hx⟩:∃p,kvs[i]? =some p:=⟨kvs[i],by simp[hi']⟩
   have ex:x=V.int y:=by
    rw[List.getElem?_map,hx]at hi
    exact(Option.some.inj hi).symm
   subst ex
   refine wpAny_pyNext_dict_item st (at_ l0 l1 l2 S) hx fun key h' hkey hit hs'=>?_
   obtain⟨o,vs,ho,hc,hd⟩:=Zc8 hit
   have S1:St w os₀ lv k g σ {s with heap:=h'}:=S.butL F (Uy hs') rfl rfl
   refine VW ht ho hc hd (by decide) (hB key h' s.toks g (Le.refl g) ?_ hit S1 (Uy hs') F)
   cases key<;>simp only[intKind,Value.isInt,beq_iff_eq,Bool.false_eq_true]at hkey
   subst hkey;exact .int _ _
  fin:=fun {s lv k g σ C D' E} st l0 l1 l2 S ok F hC=>by
   rw[List.length_map]at st
   exact wpAny_pyNext_dict_end hh st (at_ l0 l1 l2 S) (by simp) fun h' he=>hC h' s.toks (S.butL F (Hl he) rfl rfl) (Hl he)}
theorem Hd(S:St w os₀ lv k g σ s):Apart [s.heap.objs.size] k g σ:=fun b m=>by
 rw[List.mem_singleton]at m;subst m
 have F:=S.fresh (Nat.le_refl _)
 exact⟨F.kn,F.gn,F.free⟩
inductive Zf3(Q:List V→(Hp→Prop)→Hp→Prop)(v:V)(σ1:Hp):Prop
 |mk (vs:_) (h1:ZV σ1 v=some vs) (h2:Q vs (fun σ=>ZV σ v=some vs) σ1):Zf3 Q v σ1
theorem Ur{e:Expr}{Q:List V→(Hp→Prop)→Hp→Prop}(h:WE c d e ρ σ (Zf3 Q) X):WIt c d e ρ σ Q X:=
 ⟨fun w os₀ A env k g s Q' E' S hE hh hQ=>h.use S hE fun v σ1 x g1 s1 l1 r1 S1 hE1 h1=>by
  obtain⟨vs,e1,q⟩:=h1
  obtain⟨a,Vs,n,rfl,p,rr⟩:=S1.st.list e1 r1
  refine wpAny_pyIter_list (ZM p) ?_
  exact hQ _ _ _ _ _ σ1 g1 _ l1 (S1.pushed (Le.refl g1) (S1.st.push _)) (Zau hh _ a v vs r1) ⟨_,Heap.get?_push_size _ rfl,rfl,rfl⟩ (Hd S1.st) q⟩
inductive Zf2(Q:List V→(Hp→Prop)→Hp→Prop)(vs:List V)(σ1:Hp):Prop
 |mk (n:Nat) (h1:vs=[.int n]) (h2:n<2^62) (h3:Q ((List.range n).map fun(i:Nat)=>V.int (i:Int)) (fun q_=>True) σ1):Zf2 Q vs σ1
set_option tactic.hygienic true in
theorem Y9{p pos:Pos}{e:Expr}{Q:List V→(Hp→Prop)→Hp→Prop}(hr:WE c d (.Name "range" p) ρ σ (fun f σ0=>f=.bi (.type "range")∧WL c d [e] ρ σ0 (Zf2 Q) X) X)
  (hs:JM [e]=true):WIt c d (.Call (.Name "range" p) [e] [] pos) ρ σ Q X:=
 ⟨fun w os₀ A env k g s Q' E' S hE hh hQ=>wpAny_Call_NameR (hr.use S hE fun f σ0 fv g0 s0 l0 rf S0 hE0 h0=>by
  obtain⟨rfl,h1⟩:=h0
  obtain rfl:=rf.biI
  have fin:=h1.use (pos:=pos) (Q':=fun xs s1=>wpAny (model PW w) A (call (.type "range") xs) (fun x s₁=>wpAny (model PW w) A (pyIter x) Q' E' s₁) E' s1) (E':=E') S0 hE0 fun vs σ1 xs g1 s1 l1 r1 S1 hE1 h1=>by
   obtain⟨n,rfl,hn,q⟩:=h1
   cases r1 with
   |cons r1 r2=>
   cases r2;obtain⟨_,rfl⟩:=r1.intI
   rename_i tk
   refine call_range_1 ?_
   refine wpAny_pyIter_range (IsRange.new ..) (small_one (by decide) (by decide) (by lia) (by lia)) ?_
   have hsz:Builtin.Range.rangeSize 0 (n:Int) 1=(n:Int):=by rw[rangeSize_one];split<;>lia
   rw[hsz]
   have S2:=S1.pushed (Le.refl g1) (S1.st.push {cls:=.type "range",data:=.fields #[.int 0 s1.toks,.int n tk,.int 1 (s1.toks+1)]})
   have S3:=(S2.toks (s1.toks+1+1))
   have S4:=S3.pushed (Le.refl g1) (S3.st.push {cls:=.type "range_iterator",data:=.fields #[rawInt 0,rawInt n,rawInt 1]})
   have e0:((List.range n).map fun(i:Nat)=>V.int (i:Int))=((List.range n).map fun(i:Nat)=>V.int (0+(i:Int))):=by simp
   rw[e0]at q
   refine hQ _ _ _ _ _ σ1 g1 _ (l0.trans l1) S4 (GJ hh _ 0 n) ?_ (Hd S3.st) q
   have e1:(0+((0:Nat):Int)*1)=0:=by simp
   have e2:((n:Int)-((0:Nat):Int))=n:=by simp
   rw[e1,e2]
   exact Heap.get?_push_size _ rfl
  rw[Jj hs]at fin⊢
  exact PyProof.Rows.callWith_type rfl (evalArgs_plain fin))⟩
inductive Zf1(Q:List V→(Hp→Prop)→Hp→Prop)(vs:List V)(σ1:Hp):Prop
 |mk (a:Int) (n:Nat) (h1:vs=[.int a,.int (a+n)]) (h2: -(2^61)≤a) (h3:a<2^61) (h4:n<2^61) (h5:Q ((List.range n).map fun(i:Nat)=>V.int (a+(i:Int))) (fun q_=>True) σ1):Zf1 Q vs σ1
set_option tactic.hygienic true in
theorem Zag{p pos:Pos}{e1 e2:Expr}{Q:List V→(Hp→Prop)→Hp→Prop}(hr:WE c d (.Name "range" p) ρ σ (fun f σ0=>f=.bi (.type "range")∧WL c d [e1,e2] ρ σ0 (Zf1 Q) X) X)
  (hs:JM [e1,e2]=true):WIt c d (.Call (.Name "range" p) [e1,e2] [] pos) ρ σ Q X:=
 ⟨fun w os₀ A env k g s Q' E' S hE hh hQ=>wpAny_Call_NameR (hr.use S hE fun f σ0 fv g0 s0 l0 rf S0 hE0 h0=>by
  obtain⟨rfl,h1⟩:=h0
  obtain rfl:=rf.biI
  have fin:=h1.use (pos:=pos) (Q':=fun xs s1=>wpAny (model PW w) A (call (.type "range") xs) (fun x s₁=>wpAny (model PW w) A (pyIter x) Q' E' s₁) E' s1) (E':=E') S0 hE0 fun vs σ1 xs g1 s1 l1 r1 S1 hE1 h1=>by
   obtain⟨a,n,rfl,ha1,ha2,hn,q⟩:=h1
   cases r1 with
   |cons r1 r2=>
   cases r2 with
   |cons r2 r3=>
   cases r3;obtain⟨_,rfl⟩:=r1.intI;obtain⟨_,rfl⟩:=r2.intI
   refine call_range_2 ?_
   refine wpAny_pyIter_range (IsRange.new ..) (small_one (by lia) (by lia) (by lia) (by lia)) ?_
   have hsz:Builtin.Range.rangeSize a (a+(n:Int)) 1=(n:Int):=by rw[rangeSize_one];split<;>lia
   rw[hsz]
   rename_i t1 t2
   have S2:=S1.pushed (Le.refl g1) (S1.st.push {cls:=.type "range",data:=.fields #[.int a t1,.int (a+(n:Int)) t2,.int 1 s1.toks]})
   have S3:=(S2.toks (s1.toks+1))
   have S4:=S3.pushed (Le.refl g1) (S3.st.push {cls:=.type "range_iterator",data:=.fields #[rawInt a,rawInt n,rawInt 1]})
   refine hQ _ _ _ _ _ σ1 g1 _ (l0.trans l1) S4 (GJ hh _ a n) ?_ (Hd S3.st) q
   have e1:(a+((0:Nat):Int)*1)=a:=by simp
   have e2:((n:Int)-((0:Nat):Int))=n:=by simp
   rw[e1,e2]
   exact Heap.get?_push_size _ rfl
  rw[Jj hs]at fin⊢
  exact PyProof.Rows.callWith_type rfl (evalArgs_plain fin))⟩
inductive E8M5(Q:List V→(Hp→Prop)→Hp→Prop)(v:V)(σ1:Hp):Prop
 |mk (fs:_) (h1:v=.idict fs) (h2:Q (fs.map fun p=>V.int p.1) (fun q_=>True) σ1):E8M5 Q v σ1
end
end
section
structure Zai(w:World)(os₀:OsState)(A:Around)(k₀ g₀:Frz)(I:Addr)(fp:List Addr)(items:List V)(Ok:Hp→Prop)(At:Nat→Heap→Prop)(t:Expr):Prop where
 frame:∀i h h',At i h→(∀b∈fp,∀o,h.get? b=some o→h'.get? b=some o)→At i h'
 live:∀i h,At i h→Alive fp h
 turn:∀{i:Nat} {v:V} {s:Shared} {lv:Option Addr} {k g:Frz} {σ:Hp} {B:Value→Shared→Prop} {C:Shared→Prop} {E E':Value→Shared→Prop},items[i]? =some v→At i s.heap→Le g₀ g→Le k₀ k→(∀b,lv=some b→k₀ b=none)→St w os₀ lv k g σ s→Ok σ→Apart fp k g σ→
  (∀x h' tk g',Le g g'→VR w g' v x→At (i+1) h'→St w os₀ lv k g' σ {s with heap:=h',toks:=tk}→Wc fp s.heap h'→Apart fp k g' σ→B x {s with heap:=h',toks:=tk})→
  wpAny (model PW w) A (pyNext (.ref I)) (fun r s₁=>match r with|none=>C s₁|some x=>wpAny (model PW w) A (letOwnedTupleGo t (.ref I) x) (fun q_ s₂=>B x s₂) E' s₁) E s
 fin:∀{s:Shared} {lv:Option Addr} {k g:Frz} {σ:Hp} {C:Shared→Prop} {D:Value→Shared→Prop} {E:Value→Shared→Prop},At items.length s.heap→Le g₀ g→Le k₀ k→(∀b,lv=some b→k₀ b=none)→St w os₀ lv k g σ s→Ok σ→Apart fp k g σ→
  (∀h' tk,St w os₀ lv k g σ {s with heap:=h',toks:=tk}→Wc fp s.heap h'→C {s with heap:=h',toks:=tk})→
  wpAny (model PW w) A (pyNext (.ref I)) (fun r s₁=>match r with|none=>C s₁|some x=>D x s₁) E s
theorem Strm.forT{w:World}{os₀:OsState}{A:Around}{k₀ g₀:Frz}{I:Addr}{fp:List Addr}{items:List V}{Ok:Hp→Prop}{At:Nat→Heap→Prop}(T:Strm w os₀ A k₀ g₀ I fp items Ok At){t:Expr}(ht:VZ t):Zai w os₀ A k₀ g₀ I fp items Ok At t:=
 ⟨T.frame,T.live,fun h1 h2 h3 h4 h5 h6 h7 h8 h9=>T.turn ht h1 h2 h3 h4 h5 h6 h7 h8 h9,fun h1 h2 h3 h4 h5 h6 h7 h8=>T.fin h1 h2 h3 h4 h5 h6 h7 h8⟩
section
variable{w:World}{os₀:OsState}{lv:Option Addr}{d d':Nat}{c:Ctx}{A:Around}{env:Env}{k k' g g':Frz}{ρ ρ':Loc}{σ σ':Hp}{s s':Shared}{X:Addr→Loc→Hp→Prop}{a:Addr}
theorem Qp{E':Value→Shared→Prop}:Yu w os₀ d c A env k g YS E':=fun q_ q_ q_ q_ q_ q_ q_ q_ x=>x.elim
theorem Frz.le_none(k:Frz):Le (fun q_=>none) k:=fun q_ q_ e=>nomatch e
set_option tactic.hygienic true in
theorem Gv{t:Expr}{body:List Stmt}{I:Addr}{fp:List Addr}{items:List V}{Ok:Hp→Prop}{At:Nat→Heap→Prop}{k₀:Frz}{J:Nat→Loc→Hp→Prop}{R:V→Hp→Prop}{Q':Flow→Shared→Prop}{E':Value→Shared→Prop}(S1:Sit w os₀ d c A env k g ρ σ s)
  (ST:Zai w os₀ A k₀ g I fp items Ok At t) (hk0:Le k₀ k) (hL:k₀ env.locals=none) (at0:At 0 s.heap) (F:Apart fp k g σ) (J0:J 0 ρ σ) (JO:∀i ρ σ,J i ρ σ→Ok σ)
  (JT:∀i v ρ1 σ2,items[i]? =some v→J i ρ1 σ2→WA c d t v ρ1 σ2 (fun ρ2 σ3=>WS c d body ρ2 σ3 (J (i+1)) R YS) YS)
  (hN:∀ρ' σ' g' s',Le g g'→Sit w os₀ d c A env k g' ρ' σ' s'→J items.length ρ' σ'→Q' .next s') (hR:∀v ρ' σ' x g' s',Le g g'→VR w g' v x→Sit w os₀ d c A env k g' ρ' σ' s'→R v σ'→Q' (.ret x) s'):
  codeAny (model PW w) A (.forLoop t (.ref I) body [] env) (fun r s'=>match r with| .ok f=>Q' f s'| .error e=>E' e s') s:=by
 have hl:∀b,some env.locals=some b→k₀ b=none:=fun b q=>by cases q;exact hL
 refine codeAny_forLoop_any (fun n s2=>∃i g2 ρ2 σ2,i≤items.length∧n=items.length-i∧Le g g2∧Sit w os₀ d c A env k g2 ρ2 σ2 s2∧At i s2.heap∧Apart fp k g2 σ2∧J i ρ2 σ2) ?_ items.length ⟨0,g,ρ,σ,Nat.zero_le _,rfl,Le.refl _,S1,at0,F,J0⟩
 rintro n s2 ⟨i,g2,ρ2,σ2,hi,rfl,l2,S2,at2,F2,J2⟩
 by_cases he:i=items.length
 ·subst he
  refine ST.fin at2 l2 hk0 hl S2.st (JO _ _ _ J2) F2 fun h' tk S3 e3=>?_
  exact wpAny_execs_nil (hN _ _ g2 _ l2 (S2.mk' (S2.toZU.butL (Le.refl g2) S3 F2 e3)) J2)
 ·have hlt:i<items.length:=Nat.lt_of_le_of_ne hi he
  have hv:items[i]? =some items[i]:=List.getElem?_eq_getElem hlt
  refine ST.turn hv at2 l2 hk0 hl S2.st (JO _ _ _ J2) F2 fun x h' tk g3 l3 rx at3 S3 e3 F3=>?_
  have S4:=S2.mk' (S2.toZU.butL l3 S3 F3 e3)
  have al:Alive fp ({s2 with heap:=h',toks:=tk}:Shared).heap:=ST.live _ _ at3
  have S5:=S4.Jd F3
  refine(JT i _ ρ2 σ2 hv J2).run w os₀ A env _ g3 _ x _ _ S5 rx (fun ρ4 σ4 g4 s4 l4 S6 h4=>?_) Qp
  refine h4.use S6 Qp (fun ρ5 σ5 g5 s5 l5 S7 q_ J5=>?_) fun v ρ5 σ5 x g5 s5 l5 r S7 q=>?_
  ·obtain⟨S8,F8,e8⟩:=S4.unhideL F3 al (l4.trans l5) S7
   exact⟨items.length-(i+1),Nat.pred_lt (Nat.sub_ne_zero_of_lt hlt),i+1,g5,ρ5,σ5,hlt,rfl,l2.trans (l3.trans (l4.trans l5)),S8,ST.frame _ _ _ at3 e8,F8,J5⟩
  ·obtain⟨S8,F8,e8⟩:=S4.unhideL F3 al (l4.trans l5) S7
   exact hR v ρ5 σ5 x g5 s5 (l2.trans (l3.trans (l4.trans l5))) r S8 q
inductive Zf0(d:Nat)(c:Ctx)(ρ:Loc)(t:Expr)(body:List Stmt)(N:Loc→Hp→Prop)(R:V→Hp→Prop)(items:List V)(Ok:Hp→Prop)(σ1:Hp):Prop
 |mk (J:Nat→Loc→Hp→Prop) (h1:J 0 ρ σ1) (h2:(∀i ρ σ,J i ρ σ→Ok σ)) (h3:(∀i v ρ1 σ2,items[i]? =some v→J i ρ1 σ2→WA c d t v ρ1 σ2 (fun ρ2 σ3=>WS c d body ρ2 σ3 (J (i+1)) R YS) YS)) (h4:(∀ρ1 σ2,J items.length ρ1 σ2→N ρ1 σ2)):Zf0 d c ρ t body N R items Ok σ1
theorem Q4{t it:Expr}{body:List Stmt}{pos:Pos}{N:Loc→Hp→Prop}{R:V→Hp→Prop}(hh:c.hd=none)(ht:VZ t)(hf:∀env x,foldedSetIterable it env x=pure x)
  (h:WIt c d it ρ σ (Zf0 d c ρ t body N R) X):WX c d (.For t it body [] pos) ρ σ N R X:=
 WX.mk fun w os₀ A env k g s Q' E' S hE hN hR=>by
  have hA:A.handled=none:=by rw[S.hd,hh];rfl
  refine wpAny_For (h.run w os₀ A env k g s _ _ S hE hA fun I fp At items Ok σ1 g1 s1 l1 S1 ST at0 F h1=>?_) (hf env)
  obtain⟨J,J0,JO,JT,JN⟩:=h1
  exact Gv S1 (ST.forT ht) (Frz.le_none k) rfl at0 F J0 JO JT (fun ρ' σ' g' s' l S' j=>hN _ _ g' _ (l1.trans l) S' (JN _ _ j)) fun v ρ' σ' x g' s' l r S' q=>hR v ρ' σ' x g' s' (l1.trans l) r S' q
inductive E8N2(I:Nat→Loc→Hp→Prop)(n:Nat)(ρ2:Loc)(σ2:Hp):Prop
 |mk (m:_) (h1:m<n) (h2:I m ρ2 σ2):E8N2 I n ρ2 σ2
noncomputable def XC(o scope:Scope):Scope:={scope with names:=scope.names.map fun(n,k)=>if(k== .free&&o.kind== .function&&o.names.lookup n==some .cell)then(n,.cell)else(n,k)}
theorem Zax{scope:Scope}(h:env.scope=c.scope):relabel scope env=XC c.scope scope:=by
 unfold relabel XC Env.kindOf
 rw[h]
noncomputable def W0(c:Ctx)(scope:Scope)(cl:List (Str×Addr)):Ctx:=⟨XC c.scope scope,cl,c.qual,c.code,none,"dict",[]⟩
noncomputable def Uw:List (Str×NameKind)→List (Str×Addr)→List (Str×Addr)→Option (List (Str×Addr))
 | [],_,acc=>some acc
 | (n,k)::r,cells,acc=>if k== .free then(cells.lookup n).bind fun a=>Uw r cells ((n,a)::acc)else Uw r cells acc
theorem Q8{scope:Scope}{cl:List (Str×Addr)}(h:Uw scope.names env.cells []=some cl):closureFor scope env=pure cl:=by
 unfold closureFor
 have key:∀(names:List (Str×NameKind)) (acc:List (Str×Addr)) (f:Str×NameKind→List (Str×Addr)→Sem (ForInStep (List (Str×Addr)))),(∀n k acc,f (n,k) acc=if k== .free then(do let a←cellOf env n;pure (.yield ((n,a)::acc)))else pure (.yield acc))→
   Uw names env.cells acc=some cl→(forIn names acc f:Sem (List (Str×Addr)))=pure cl:=by
  intro names
  induction names with
  |nil=>intro acc f hf h;cases (show some acc=some cl from h);exact List.forIn_nil
  |cons p r ih=>
   intro acc f hf h
   obtain⟨n,k⟩:=p
   rw[List.forIn_cons,hf]
   have h:(if k== .free then(env.cells.lookup n).bind fun a=>Uw r env.cells ((n,a)::acc)else Uw r env.cells acc)=some cl:=h
   by_cases hk:(k== .free)=true
   ·rw[if_pos hk]at h⊢
    cases e:env.cells.lookup n with
    |none=>rw[e]at h;cases h
    |some a=>
     rw[e]at h
     unfold cellOf
     rw[e]
     exact ih _ f hf h
   ·rw[if_neg hk]at h⊢
    exact ih _ f hf h
 have:=key scope.names [] (fun x __s=>if x.2== .free then(do let a←cellOf env x.1;pure (.yield ((x.1,a)::__s)))else pure (.yield __s)) (fun n k acc=>rfl) h
 exact(congrArg (fun m=>m>>=fun cs=>pure cs) this).trans rfl
theorem Hn{prog:Program}{E':Value→Shared→Prop}{D:Addr}{Vs:List Value}{n:Nat}{x:Value}{Q:Value→Shared→Prop}(p:s.heap.get? D=some (Zu Vs n))(hz:Vs.length≤100000)
  (hQ:∀h' n',h'.get? D=some (Zu (Vs++[x]) n')→Heap.SameBut D s.heap h'→Q .none {s with heap:=h'}):wpAny (model prog w) A (call (.builtin "list.append") [.ref D,x]) Q E' s:=by
 refine wpAny_call_entry slot_list_append (ZM p).typeIs entry_list_append ?_ (args_list_append _ _)
 show wpAny _ _ (updateSeq D (·.push x)>>=fun q_=>ret .none) _ _ s
 refine wpAny_bind ?_
 have z:=Heap.get?_update_self (h:=s.heap) (Obj.mapSeq (·.push x)) p rfl
 have y:∃n',Obj.mapSeq (·.push x) (Zu Vs n)=Zu (Vs++[x]) n':=by
  have e:Vs.toArray.push x=(Vs++[x]).toArray:=by simp
  unfold Zu
  rw[←e]
  exact⟨_,rfl⟩
 obtain⟨n',y⟩:=y
 rw[y]at z
 exact wpAny_updateSeq p rfl (wpAny_pure ⟨.none,rfl,hQ _ n' z (Heap.SameBut.update ..)⟩) (by
  rw[List.size_toArray];exact Nat.le_trans hz (by decide)) (by
  rw[Array.size_push,List.size_toArray];exact Nat.succ_le_succ (Nat.le_trans hz (by decide)))
theorem NF{prog:Program}{R:Result→Shared→Prop}{elt target iter:Expr}{ifs:List Expr}{scope:Scope}{pos:Pos}{it acc:Value}(I:Nat→Shared→Prop)
  (turn:∀n s,I n s→wpAny (model prog w) A (pyNext it) (fun r s₁=>match r with
   |none=>R (.ok .next) s₁
   |some v=>wpAny (model prog w) A (letOwnedTupleGo target it v) (fun q_ s₁'=>wpAny (model prog w) A (assign target env v) (fun q_ s₂=>
     wpAny (model prog w) A (forIn ifs true fun c r=>if r=true then do let ok←isTrue c env (eval c env);pure (ForInStep.yield ok)else pure (ForInStep.yield r)) (fun ok s₃=>
      if ok=true then wpAny (model prog w) A (eval elt env) (fun x s₄=>
       wpAny (model prog w) A (call (.builtin "list.append") [acc,x]) (fun q_ s₅=>∃m,m<n∧I m s₅) (notedBy (model prog w) A env fun e s'=>R (.error e) s') s₄) (notedBy (model prog w) A env fun e s'=>R (.error e) s') s₃
      else ∃m,m<n∧I m s₃) (notedBy (model prog w) A env fun e s'=>R (.error e) s') s₂) (notedBy (model prog w) A env fun e s'=>R (.error e) s') s₁') (notedBy (model prog w) A env fun e s'=>R (.error e) s') s₁) (notedBy (model prog w) A env fun e s'=>R (.error e) s') s)
  (n:Nat) (h:I n s):codeAny (model prog w) A (.compLoop (.ListComp elt [⟨target,iter,ifs,0⟩] scope pos) 0 it acc env) R s:=by
 refine codeAny_loop rfl I (fun n s hI=>?_) n h
 show wpAny _ A ((compTurn (.ListComp elt [⟨target,iter,ifs,0⟩] scope pos) 0 it acc env).onRaise (fun x=>do noteFrame x env;theTreesLotGoes x)) _ _ s
 refine wpAny_noted ?_
 rw[compTurn_list]
 refine wpAny_bind (wpAny_standAt (wpAny_bind (wpAny_mono (turn n s hI) (fun r s₁ h₁=>?_) fun q_ q_ h'=>h')))
 cases r with
 |none=>exact wpAny_pure h₁
 |some v=>
  refine wpAny_bind (wpAny_mono h₁ (fun q_ s₁' h₁'=>?_) fun q_ q_ h'=>h')
  refine wpAny_bind (wpAny_mono h₁' (fun q_ s₂ h₂=>wpAny_bind (wpAny_mono h₂ (fun ok s₃ h₃=>?_) fun q_ q_ h'=>h')) fun q_ q_ h'=>h')
  cases ok with
  |false=>exact wpAny_pure ⟨rfl,h₃⟩
  |true=>
   exact wpAny_bind (wpAny_bind (wpAny_mono h₃ (fun x s₄ h₄=>wpAny_bind (wpAny_mono h₄ (fun q_ s₅ h₅=>wpAny_pure (wpAny_pure ⟨rfl,h₅⟩)) fun q_ q_ h'=>h')) fun q_ q_ h'=>h'))
noncomputable def WTs(c:Ctx)(d:Nat):List Expr→Loc→Hp→(Bool→Hp→Prop)→Prop
 | [],_,σ,Q=>Q true σ
 | [e],ρ,σ,Q=>WT c d e ρ σ Q YS
 |_,_,_,_=>False
theorem WTs.use{ifs:List Expr}{Q:Bool→Hp→Prop}{Q':Bool→Shared→Prop}{E':Value→Shared→Prop}(h:WTs c d ifs ρ σ Q)(S:Sit w os₀ d c A env k g ρ σ s)
  (hQ:∀b σ' g' s',Le g g'→Sit w os₀ d c A env k g' ρ σ' s'→Q b σ'→Q' b s'):
  wpAny (model PW w) A (forIn ifs true fun c r=>if r=true then do let ok←isTrue c env (eval c env);pure (ForInStep.yield ok)else pure (ForInStep.yield r)) Q' E' s:=by
 match ifs,h with
 | [],h=>exact wpAny_tests_nil (hQ _ _ g _ (Le.refl g) S h)
 | [e],h=>exact wpAny_tests_one (WT.use h S Qp fun b σ' g' s' l S' q_ q=>hQ _ _ _ _ l S' q)
theorem Sit.reopen{o:Obj}(S:Sit w os₀ d c A env k g ρ σ s)(lo:s.heap.get? env.locals=some o)(l:Le g g')(S':St w os₀ none (put k env.locals o) g' σ' s'):Sit w os₀ d c A env k g' ρ σ' s':=by
 obtain⟨o',lo',lc⟩:=S.lc
 rw[lo]at lo';cases lo'
 obtain⟨sl,e1,_⟩:=S'.kp env.locals o (by simp) (put_self ..)
 obtain⟨m,⟨o2,es,ep,p2,d2,r2⟩,r⟩:=S.ns
 rw[lo]at p2;cases p2
 exact S.mk' {S.toZU with st:=S'.unseal S.kl S.st.m2,ns:=⟨m,⟨_,es,ep,e1,d2,r2⟩,fun x=>(r x).mono l⟩,lc:=⟨_,e1,lc⟩,pins:=S.pins.mono (Le.refl k) l}
theorem Wh:∀(names:List (Str×NameKind)) (h:Heap),(∀x∈names,x.2≠.cell)→pushCells h names=h
 | [],_,_=>rfl
 | (_,kind)::r,h,hc=>by
  unfold pushCells
  rw[if_neg (by simpa using hc _ (.head _))]
  exact Wh r h fun x m=>hc x (.tail _ m)
theorem W1:∀(names:List (Str×NameKind)) (n:Nat) (acc:List (Str×Addr)),(∀x∈names,x.2≠.cell)→cellsFrom n names acc=acc
 | [],_,_,_=>rfl
 | (_,kind)::r,n,acc,hc=>by
  unfold cellsFrom
  rw[if_neg (by simpa using hc _ (.head _))]
  exact W1 r n acc fun x m=>hc x (.tail _ m)
end
end
section
section
variable{w:World}{os₀:OsState}{lv:Option Addr}{d d':Nat}{c:Ctx}{A:Around}{env:Env}{k k' g g':Frz}{ρ ρ':Loc}{σ σ':Hp}{s s':Shared}{X:Addr→Loc→Hp→Prop}{a:Addr}
noncomputable def Hy(c:Ctx)(d:Nat)(t elt:Expr)(ifs:List Expr)(σ:Hp)(v:V)(y:Option V):Prop:=
 WA c d t v [] σ (fun ρ2 σ2=>σ2=σ∧WTs c d ifs ρ2 σ (fun b σ3=>σ3=σ∧if b=true then WE c d elt ρ2 σ (fun u σ4=>σ4=σ∧y=some u) YS else y=none)) YS
theorem ZU.bare(S:ZU w os₀ c env k g ρ σ s):ZU w os₀ c env k g [] σ s:={S with ns:=S.ns.imp fun m h=>⟨h.1,fun x=>trivial⟩}
theorem Sit.bare(S:Sit w os₀ d c A env k g ρ σ s):Sit w os₀ d c A env k g [] σ s:=S.mk' S.toZU.bare
theorem NR{items:List V}{F:V→Option V}{i:Nat}{v:V}(h:items[i]? =some v):(items.take (i+1)).filterMap F=(items.take i).filterMap F++(F v).toList:=by
 rw[List.take_add_one,h,List.filterMap_append]
 cases e:F v<;>simp[e]
theorem HG{Vs:List Value}{n:Nat}:(Zu Vs n).cls≠.type "frame" :=show Value.type "list" ≠.type "frame" by decide
noncomputable abbrev VS:Obj:={cls:=.type "dict",data:=.dict #[]}
noncomputable def Km(scope:Scope)(env:Env)(cl:List (Str×Addr))(C:Addr):Env:={scope:=relabel scope env,locals:=C,globals:=env.globals,cells:=cl,qual:=env.qual,func:=none,code:=env.code,frame:=env.frame,builtins:=env.builtins}
noncomputable def Qq(k:Frz)(L:Addr)(oL:Obj)(C:Addr):Frz:=put (put k L oL) C VS
theorem HR{L C b:Addr}{oL o:Obj}(hC:k C=none)(n:b≠L)(e:k b=some o):Qq k L oL C b=some o:=(Ye _ _ fun z=>by rw[z,hC]at e;cases e).trans ((Ye _ _ n).trans e)
theorem Ou{L C b:Addr}{oL:Obj}(hk:(k L).isSome=true)(n:b≠C)(e:k b=none):Qq k L oL C b=none:=(Ye _ _ n).trans ((Ye _ _ fun z=>by rw[z]at e;rw[e]at hk;cases hk).trans e)
theorem ZdH{L C:Addr}{oL:Obj}(n:L≠C):Qq k L oL C L=some oL:=(Ye _ _ n).trans (put_self ..)
theorem Zci{cc:Ctx}{scope:Scope}{cl:List (Str×Addr)}{C:Addr}{oL:Obj}{H:Heap}
  (S:Sit w os₀ d c A env k g ρ σ s) (hh:A.handled=none) (hc1:cc.scope=XC c.scope scope) (hc2:cc.cells=cl) (hc3:cc.qual=c.qual) (hc4:cc.code=c.code) (hc5:cc.hd=none) (hc6:cc.lty="dict") (hp:JI w cc.pin k g) (hpL:∀p∈cc.pin,p.1≠env.locals) (hkind:scope.kind=.function)
  (lo:s.heap.get? env.locals=some oL) (hC:k C=none) (hCL:env.locals≠C) (S4:St w os₀ (some C) (Qq k env.locals oL C) g σ {s with heap:=H}) (gC:H.get? C=some VS) (nsC:H.Ns C fun q_=>none):
  Sit w os₀ d cc A (Km scope env cl C) (Qq k env.locals oL C) g [] σ {s with heap:=H}:=by
 obtain⟨oL',lo',lcl⟩:=S.lc
 have eo:=Option.some.inj (lo'.symm.trans lo)
 refine⟨{st:=S4,scope:=?_,kind:=?_,cells:=hc2.symm,glob:=S.glob,blt:=S.blt,qual:=S.qual.trans hc3.symm,code:=S.code.trans hc4.symm,ns:=⟨_,nsC,fun x=>trivial⟩,lc:=⟨_,gC,by rw[hc6]⟩,pins:=fun p m=>(hp p m).imp fun o h=>h.imp fun kvs h=>⟨HR hC (hpL p m) h.1,h.2⟩,pinL:=fun p m z=>(hp p m).elim fun o h=>h.elim fun kvs h=>?_},S.room,by rw[hc5];exact hh,?_⟩
 ·exact(Zax S.scope).trans hc1.symm
 ·rw[hc1];exact hkind
 ·have z:p.1=C:=z
  exact nomatch hC.symm.trans ((congrArg k z.symm).trans h.1)
 ·refine S.frs.imp fun top h=>h.imp fun fr h=>⟨h.1,⟨h.2.1.1,fun q=>absurd (hc6.symm.trans q) (by decide)⟩,fun e he=>⟨(h.2.2 e he).1,(h.2.2 e he).2.imp fun F h=>⟨h.1,.inr (h.2.elim (fun x=>?_) fun x=>?_)⟩⟩⟩
  ·have hF:F≠C:=by rw[x.1];exact hCL
   refine⟨hF,oL,by rw[x.1];exact ZdH hCL,?_,?_⟩
   ·rw[←eo,lcl,x.2]
   ·obtain⟨m,⟨o2,es,ep,p2,d2,_⟩,_⟩:=S.ns
    have e2:=congrArg Obj.data (Option.some.inj (lo.symm.trans p2))
    exact fun vs q=>nomatch (q.symm.trans e2).trans d2
  ·exact⟨fun z=>x.2.elim fun o y=>(nomatch hC.symm.trans ((congrArg k (z:F=C).symm).trans y.1)),x.2.imp fun o y=>⟨HR hC x.1 y.1,y.2⟩⟩
theorem Zcj{cc:Ctx}{scope:Scope}{cl:List (Str×Addr)}{C D:Addr}{oL:Obj}{fp:List Addr}{us:List V}{R:Addr→Addr→Shared→Prop}
  (S:Sit w os₀ d c A env k g ρ σ s) (lo:s.heap.get? env.locals=some oL) (hC:k C=none) (hCL:env.locals≠C) (hD:k D=none) (fD:Free σ D) (hDC:D≠C) (hfD:D∉fp) (FF:Apart fp k g σ)
  (hQ:∀D C s' g' m,Le g g'→VR w g' (.lst us) (.ref D)→Sit w os₀ d c A env k g' ρ σ s'→Apart fp k g' σ→Apart [C] k g' σ→s'.heap.Ns C m→R D C s')
  {g1:Frz} {s':Shared} {Vs:List Value} {n:Nat} (l1:Le g g1) (S5:Sit w os₀ d cc A (Km scope env cl C) (Qq k env.locals oL C) g1 [] σ s') (gD5:s'.heap.get? D=some (Zu Vs n)) (r5:VRs w g1 us Vs) (F5:Apart fp (Qq k env.locals oL C) g1 σ):R D C s':=by
 have T5:St w os₀ (some C) (Qq k env.locals oL C) g1 σ s':=S5.st
 have fC:Free σ C:=T5.freeOf (put_self ..)
 have gC:g1 C=none:=T5.kg _ _ (put_self ..)
 have T8:=(T5.retire (Yz hC hCL.symm) (S.st.seal lo).m2).freeze fD (Yz hD fun z=>by have:=S.kl;rw[←z,hD]at this;cases this) gD5 HG
 refine S5.ns.elim fun m5 n5=>hQ D C _ _ m5 (l1.trans T8.2) (.lst _ _ _ n (put_self ..) (r5.mono T8.2)) (S.reopen lo (l1.trans T8.2) T8.1) (fun b m=>⟨(FF b m).1,?_,(FF b m).2.2⟩) (fun b m=>?_) n5.1
 ·exact Yz (F5 b m).2.1 fun z=>hfD (z▸m)
 ·exact List.mem_singleton.mp m▸⟨hC,Yz gC hDC.symm,fC⟩
inductive JCo(w:World)(os₀:OsState)(d:Nat)(cc:Ctx)(A:Around)(cenv:Env)(kC g:Frz)(σ:Hp)(items:List V)(F:V→Option V)(At:Nat→Heap→Prop)(fp:List Addr)(D:Addr)(n:Nat)(s':Shared):Prop
 |mk (i:Nat) (g1:Frz) (Vs:List Value) (m:Nat) (hi:i≤items.length) (hn:n=items.length-i) (l1:Le g g1) (S5:Sit w os₀ d cc A cenv kC g1 [] σ s') (at5:At i s'.heap) (F5:Apart (D::fp) kC g1 σ) (gD5:s'.heap.get? D=some (Zu Vs m)) (r5:VRs w g1 ((items.take i).filterMap F) Vs)
theorem ZaU{elt t:Expr}{ifs:List Expr}{cc:Ctx}{cenv:Env}{kC k₀:Frz}{D I:Addr}{fp:List Addr}{items:List V}{Ok:Hp→Prop}{At:Nat→Heap→Prop}{F:V→Option V}{E' E'':Value→Shared→Prop}
  (ht:VZ t) (ST:Strm w os₀ A k₀ g I fp items Ok At) (hOk:Ok σ) (hz:items.length≤1000) (hfD:D∉fp) (lk0:Le k₀ kC) (k0C:∀b,some cenv.locals=some b→k₀ b=none) (body:∀v∈items,Hy cc d t elt ifs σ v (F v))
  {i:Nat} {g1:Frz} {Vs:List Value} {m:Nat} {s':Shared} {B:Shared→Prop} (hlt:i<items.length) (l1:Le g g1) (S5:Sit w os₀ d cc A cenv kC g1 [] σ s') (at5:At i s'.heap) (F5:Apart (D::fp) kC g1 σ) (gD5:s'.heap.get? D=some (Zu Vs m)) (r5:VRs w g1 ((items.take i).filterMap F) Vs):
  wpAny (model PW w) A (pyNext (.ref I)) (fun r s₁=>match r with
   |none=>B s₁
   |some v=>wpAny (model PW w) A (letOwnedTupleGo t (.ref I) v) (fun q_ s₁'=>wpAny (model PW w) A (assign t cenv v) (fun q_ s₂=>
     wpAny (model PW w) A (forIn ifs true fun c r=>if r=true then do let ok←isTrue c cenv (eval c cenv);pure (ForInStep.yield ok)else pure (ForInStep.yield r)) (fun ok s₃=>
      if ok=true then wpAny (model PW w) A (eval elt cenv) (fun x s₄=>
       wpAny (model PW w) A (call (.builtin "list.append") [.ref D,x]) (fun q_ s₅=>∃m,m<items.length-i∧JCo w os₀ d cc A cenv kC g σ items F At fp D m s₅) E' s₄) E' s₃
      else ∃m,m<items.length-i∧JCo w os₀ d cc A cenv kC g σ items F At fp D m s₃) E' s₂) E' s₁') E'' s₁) E' s':=by
 have hv:items[i]? =some items[i]:=List.getElem?_eq_getElem hlt
 have kD:=(F5 D (.head _)).1
 have lkD:Le kC (put kC D (Zu Vs m)):=Js (.inl kD)
 have T5':=S5.st.hide (F5 D (.head _)).2.2 gD5 kD (F5 D (.head _)).2.1
 refine ST.turn ht hv at5 l1 (lk0.trans lkD) k0C T5' hOk (fun b mb=>⟨Yz (F5 b (.tail _ mb)).1 fun z=>hfD (z▸mb),(F5 b (.tail _ mb)).2⟩) fun x h' tk g3 l3 rx at3 S6' e6 F6'=>?_
 have F6:Apart fp kC g3 σ:=fun b mb=>⟨(F5 b (.tail _ mb)).1,(F6' b mb).2⟩
 have S7:Sit w os₀ d cc A cenv kC g3 [] σ {s' with heap:=h',toks:=tk}:=S5.mk' (S5.toZU.butL l3 (S6'.kdown lkD S5.st.m2 fun b q=>Option.some.inj q▸S5.kl) F6 e6)
 have gD7:h'.get? D=some (Zu Vs m):=e6 _ _ hfD gD5
 have F7:Apart (D::fp) kC g3 σ:=fun b mb=>(List.mem_cons.mp mb).elim (fun e=>e▸⟨kD,S6'.kg _ _ (put_self ..),(F5 _ (.head _)).2.2⟩) (F6 b)
 have al:Alive (D::fp) h':=fun b mb=>(List.mem_cons.mp mb).elim (fun e=>e▸⟨_,gD7,HG⟩) (ST.live _ _ at3 b)
 refine(body _ (List.getElem_mem hlt)).run w os₀ A cenv _ g3 _ x _ _ (S7.Jd F7) rx (fun ρ4 σ4 g4 s4 l4 S9 h4=>?_) Qp
 have e4:=h4.1
 subst e4
 refine h4.2.use S9 fun b σ5 g5 s5 l5 S10 h5=>?_
 have e5:=h5.1
 subst e5
 have h5:=h5.2
 have hs:items.length-(i+1)<items.length-i:=Nat.sub_lt_sub_left hlt (Nat.lt_succ_self i)
 have r6:VRs w g5 ((items.take i).filterMap F) Vs:=r5.mono (l3.trans (l4.trans l5))
 have l5':=l1.trans (l3.trans (l4.trans l5))
 cases b with
 |true=>
  refine WE.use h5 S10 Qp fun u σ6 y g6 s6 l6 ry S11 q_ h6=>?_
  have e6:=h6.1
  subst e6
  have Z:=S7.unhideL F7 al (l4.trans (l5.trans l6)) S11
  have gD12:s6.heap.get? D=some (Zu Vs m):=Z.2.2 D (.head _) _ gD7
  have FD1:Apart [D] kC g6 σ6:=fun b mb=>List.mem_singleton.mp mb▸Z.2.1 _ (.head _)
  refine Hn gD12 ?_ fun h13 n13 e13 hs13=>⟨_,hs,.mk (i+1) g6 (Vs++[y]) n13 hlt rfl (l5'.trans l6) (Z.1.mk' (Z.1.toZU.butL (Le.refl g6) (Z.1.st.butL (s':={s6 with heap:=h13}) FD1 (Uy hs13) rfl rfl) FD1 (Uy hs13))).bare ?_ Z.2.1 e13 ?_⟩
  ·rw[←r6.length]
   exact Nat.le_trans (List.length_filterMap_le ..) (Nat.le_trans (List.length_take_le _ _) (Nat.le_trans (Nat.le_trans (Nat.le_of_lt hlt) hz) (by decide)))
  ·exact ST.frame _ _ _ at3 fun b mb o e=>(hs13.2 b (fun z=>hfD (z▸mb))).trans (Z.2.2 b (.tail _ mb) o e)
  ·rw[NR hv,h6.2]
   exact(r6.mono l6).snoc ry
 |false=>
  have Z:=S7.unhideL F7 al (l4.trans l5) S10
  refine⟨_,hs,.mk (i+1) g5 Vs m hlt rfl l5' Z.1.bare (ST.frame _ _ _ at3 fun b mb o e=>Z.2.2 b (.tail _ mb) o e) Z.2.1 (Z.2.2 D (.head _) _ gD7) ?_⟩
  have h5:F _=none:=h5
  rw[NR hv,h5,Option.toList_none,List.append_nil]
  exact r6
theorem XY{elt t it:Expr}{ifs:List Expr}{scope:Scope}{pos:Pos}{cl:List (Str×Addr)}{cc:Ctx}{I:Addr}{fp:List Addr}{items:List V}{Ok:Hp→Prop}{At:Nat→Heap→Prop}{k₀:Frz}{F:V→Option V}{Q':Value→Shared→Prop}{E':Value→Shared→Prop}
  (S:Sit w os₀ d c A env k g ρ σ s) (hh:A.handled=none) (hc1:cc.scope=XC c.scope scope) (hc2:cc.cells=cl) (hc3:cc.qual=c.qual) (hc4:cc.code=c.code) (hc5:cc.hd=none) (hc6:cc.lty="dict") (hp:JI w cc.pin k g) (hpL:∀p∈cc.pin,p.1≠env.locals) (hkL:k₀ env.locals=none)
  (hkind:scope.kind=.function) (hcell:∀x∈scope.names,x.2≠.cell) (ht:VZ t) (ST:Strm w os₀ A k₀ g I fp items Ok At) (at0:At 0 s.heap) (hk₀:Le k₀ k) (hOk:Ok σ) (FF:Apart fp k g σ) (hz:items.length≤1000)
  (body:∀v∈items,Hy cc d t elt ifs σ v (F v))
  {use:Option (Value→Sem Unit)} (hQ:∀D C s' g' m,Le g g'→VR w g' (.lst (items.filterMap F)) (.ref D)→Sit w os₀ d c A env k g' ρ σ s'→Apart fp k g' σ→Apart [C] k g' σ→s'.heap.Ns C m→compPost (model PW w) A E' use Q' (.ref D) C (.ok .next) s'):
  wpAny (model PW w) A (newList []) (fun acc s₃=>wpAny (model PW w) A (newFunctionEnv scope env.globals cl [] env.qual none .none (some env)) (fun cenv s₄=>
   codeAny (model PW w) A (.compStart (.ListComp elt [⟨t,it,ifs,0⟩] scope pos) 0 (.ref I) acc {cenv with scope:=relabel scope env}) (compPost (model PW w) A E' use Q' acc cenv.locals) s₄) E' s₃) E' s:=by
 refine S.lc.elim fun oL lo=>?_
 have lo:=lo.1
 have lt0:∀b∈fp,b<s.heap.objs.size:=fun b m=>(ST.live _ _ at0 b m).elim fun o e=>Heap.lt_size e.1
 have FD:=S.st.fresh (Nat.le_refl _)
 have FC:Fresh k g σ (s.heap.objs.size+1):=S.st.fresh (Nat.le_succ s.heap.objs.size)
 refine wpAny_newObj_type ?_ (by size_fits)
 simp only[newFunctionEnv,Option.isSome_some,if_true]
 refine wpAny_bind (wpAny_alloc ?_)
 refine wpAny_bind (wpAny_layCells _ (fun name kind cells=>by cases hkc:kind==NameKind.cell<;>simp) _ _ _ _ ?_)
 rw[Wh _ _ hcell,W1 _ _ _ hcell,List.forIn_nil]
 refine wpAny_bind (wpAny_pure (wpAny_pure ?_))
 have hsz:({s with heap:=s.heap.push (Zu [] 0)}:Shared).heap.objs.size=s.heap.objs.size+1:=Heap.size_push ..
 rw[hsz]
 have gD:((s.heap.push (Zu [] 0)).push VS).get? s.heap.objs.size=some (Zu [] 0):=Heap.get?_push_of_some _ (Heap.get?_push_size _ rfl)
 have gC:((s.heap.push (Zu [] 0)).push VS).get? (s.heap.objs.size+1)=some VS:=hsz▸Heap.get?_push_size _ rfl
 have nsC:((s.heap.push (Zu [] 0)).push VS).Ns (s.heap.objs.size+1) fun q_=>none:=hsz▸Heap.Ns.new (s.heap.push (Zu [] 0)) (.type "dict")
 have hCL:env.locals≠s.heap.objs.size+1:=S.lne FC.kn
 have S0:=S.st.seal lo
 have S4:St w os₀ (some (s.heap.objs.size+1)) (Qq k env.locals oL (s.heap.objs.size+1)) g σ {s with heap:=(s.heap.push (Zu [] 0)).push VS}:=by
  have kn:put k env.locals oL (s.heap.objs.size+1)=none:=Yz FC.kn hCL.symm
  have S3:=((S0.push (Zu [] 0)).push VS).hide FC.free gC kn FC.gn
  rw[←NX]at S3
  exact S3.unseal (by rw[put_self];rfl) (by rw[Ye _ _ (Ne.symm (QI S0 kn))];exact S0.m2)
 have Sc:=Zci S hh hc1 hc2 hc3 hc4 hc5 hc6 hp hpL hkind lo FC.kn hCL S4 gC nsC
 have at0':At 0 ((s.heap.push (Zu [] 0)).push VS):=ST.frame _ _ _ at0 fun b m o e=>Heap.get?_push_of_some _ (Heap.get?_push_of_some _ e)
 have hDC:s.heap.objs.size≠s.heap.objs.size+1:=Nat.ne_of_lt (Nat.lt_succ_self _)
 have hfC:∀b∈fp,b≠s.heap.objs.size+1:=fun b m=>Nat.ne_of_lt (Nat.lt_succ_of_lt (lt0 b m))
 have hfD:s.heap.objs.size∉fp:=fun m=>Nat.lt_irrefl _ (lt0 _ m)
 generalize s.heap.objs.size+1=C at*
 generalize s.heap.objs.size=D at*
 generalize (s.heap.push (Zu [] 0)).push VS=H at*
 have nk0:∀{b o},k₀ b=some o→b≠env.locals:=fun e z=>by rw[z,hkL]at e;cases e
 have FF2:Apart (D::fp) (Qq k env.locals oL C) g σ:=fun b m=>(List.mem_cons.mp m).elim (fun e=>e▸⟨Ou S.kl hDC FD.kn,FD.gn,FD.free⟩) fun m=>⟨Ou S.kl (hfC b m) (FF b m).1,(FF b m).2⟩
 have loop:codeAny (model PW w) A (.compLoop (.ListComp elt [⟨t,it,ifs,0⟩] scope pos) 0 (.ref I) (.ref D) (Km scope env cl C)) (compPost (model PW w) A E' use Q' (.ref D) C) {s with heap:=H}:=by
  refine NF (JCo w os₀ d cc A (Km scope env cl C) (Qq k env.locals oL C) g σ items F At fp D) (fun n s' h=>?_) items.length ⟨0,g,[],0,Nat.zero_le _,rfl,Le.refl _,Sc,at0',FF2,gD,.nil⟩
  obtain⟨i,g1,Vs,m,hi,hn,l1,S5,at5,F5,gD5,r5⟩:=h
  have lk0:Le k₀ (Qq k env.locals oL C):=fun b o e=>HR FC.kn (nk0 e) (hk₀ _ _ e)
  have k0C:∀b,some C=some b→k₀ b=none:=fun b q=>Option.some.inj q▸Zi hk₀ FC.kn
  by_cases he:i=items.length
  ·have Ff:Apart fp (Qq k env.locals oL C) g1 σ:=fun b m=>F5 b (.tail _ m)
   rw[he,List.take_length]at r5
   rw[he]at at5
   refine ST.fin at5 l1 lk0 k0C S5.st hOk Ff fun h' tk S6 e6=>?_
   exact Zcj (R:=fun D C s'=>compPost (model PW w) A E' use Q' (.ref D) C (.ok .next) s') S lo FC.kn hCL FD.kn FD.free hDC hfD FF hQ l1 (S5.mk' (S5.toZU.butL (Le.refl g1) S6 Ff e6)) (e6 _ _ hfD gD5) r5 Ff
  ·rw[hn]
   exact ZaU ht ST hOk hz hfD lk0 k0C body (Nat.lt_of_le_of_ne hi he) l1 S5 at5 F5 gD5 r5
 exact codeAny_compStart_list loop (ST.self at0' loop)
theorem Xx{D C:Addr}{m:Str→Option Value}{Q':Value→Shared→Prop}{E':Value→Shared→Prop}(S:Sit w os₀ d c A env k g ρ σ s)(F:Apart [C] k g σ)(n:s.heap.Ns C m)(h:∀s',Sit w os₀ d c A env k g ρ σ s'→Q' (.ref D) s'):compPost (model PW w) A E' none Q' (.ref D) C (.ok .next) s:=
 ⟨m,n,fun h' hs=>h _ (S.mk' (S.toZU.butL (Le.refl g) (S.st.butL F (Uy hs) rfl rfl) F (Uy hs)))⟩
inductive Zfz(d:Nat)(c:Ctx)(elt:Expr)(t:Expr)(ifs:List Expr)(scope:Scope)(cl:List (Str×Addr))(Q:V→Hp→Prop)(items:List V)(Ok:Hp→Prop)(σ1:Hp):Prop
 |mk (h1:Ok σ1) (h2:items.length≤1000) (F:V→Option V) (h3:(∀v∈items,Hy (W0 c scope cl) d t elt ifs σ1 v (F v))) (h4:Q (.lst (items.filterMap F)) σ1):Zfz d c elt t ifs scope cl Q items Ok σ1
theorem UY{elt t it:Expr}{ifs:List Expr}{scope:Scope}{pos:Pos}{cl:List (Str×Addr)}{Q:V→Hp→Prop}(hh:c.hd=none)(ht:VZ t)(hf:∀env x,foldedSetIterable it env x=pure x)
  (hcl:Uw scope.names c.cells []=some cl) (hkind:scope.kind=.function) (hcell:∀x∈scope.names,x.2≠.cell) (hnames:∀x∈scope.names,x.2=.local→scope.names.lookup x.1=some .local)
  (h:WIt c d it ρ σ (Zfz d c elt t ifs scope cl Q) X):WE c d (.ListComp elt [⟨t,it,ifs,0⟩] scope pos) ρ σ Q X:=
 WE.mk fun w os₀ A env k g s Q' E' S hE hQ=>by
  have hA:A.handled=none:=by rw[S.hd,hh];rfl
  rw[eval_ListComp]
  refine wpAny_comprehension_free (use:=none) rfl (hf env) (Q8 (by rw[S.cells];exact hcl)) hkind hnames ?_
  refine h.run w os₀ A env k g s _ _ S hE hA fun I fp At items Ok σ1 g1 s1 l1 S1 ST at0 F1 h1=>?_
  obtain⟨ok,hz,F,body,q⟩:=h1
  exact XY (cc:=W0 c scope cl) S1 hA rfl rfl rfl rfl rfl rfl JI.nil (fun p m=>by cases m) rfl hkind hcell ht ST at0 (Frz.le_none k) ok F1 hz body fun D C s' g' m l r S' q_ FC n=>
   Xx S' FC n fun s2 S2=>hQ _ _ _ g' _ (l1.trans l) r S2 q
noncomputable def GM(c:Ctx)(scope:Scope)(cl:List (Str×Addr))(D:Addr)(fs:List (Int×V)):Ctx:={W0 c scope cl with pin:=[(D,fs)]}
inductive Zfy(d:Nat)(c:Ctx)(elt:Expr)(t:Expr)(ifs:List Expr)(scope:Scope)(cl:List (Str×Addr))(Q:V→Hp→Prop)(v:V)(σ1:Hp):Prop
 |mk (D:_) (fs:_) (h1:v=.ref D) (h2:σ1.ds D=some fs) (h3:fs.length≤1000) (F:Int→Option V) (h4:(∀p∈fs,Hy (GM c scope cl D fs) d t elt ifs (σ1.dropD D) (.int p.1) (F p.1))) (h5:Q (.lst (fs.filterMap fun p=>F p.1)) σ1):Zfy d c elt t ifs scope cl Q v σ1
set_option tactic.hygienic true in
theorem Hv{elt t it:Expr}{ifs:List Expr}{scope:Scope}{pos:Pos}{cl:List (Str×Addr)}{Q:V→Hp→Prop}(hh:c.hd=none)(ht:VZ t)(hf:∀env x,foldedSetIterable it env x=pure x)
  (hcl:Uw scope.names c.cells []=some cl) (hkind:scope.kind=.function) (hcell:∀x∈scope.names,x.2≠.cell) (hnames:∀x∈scope.names,x.2=.local→scope.names.lookup x.1=some .local)
  (h:WE c d it ρ σ (Zfy d c elt t ifs scope cl Q) X):WE c d (.ListComp elt [⟨t,it,ifs,0⟩] scope pos) ρ σ Q X:=
 WE.mk fun w os₀ A env k g s Q' E' S hE hQ=>by
  have hA:A.handled=none:=by rw[S.hd,hh];rfl
  rw[eval_ListComp]
  refine wpAny_comprehension_free (use:=none) rfl (hf env) (Q8 (by rw[S.cells];exact hcl)) hkind hnames ?_
  refine h.use S hE fun v σ1 x g1 s1 l1 r1 S1 hE1 h1=>?_
  obtain⟨D,fs,rfl,e1,hz,F,body,q⟩:=h1
  obtain rfl:=r1.refI
  have I1:=S1.st.ds D fs e1
  obtain⟨kvs,pd,pr⟩:=I1.at_
  obtain⟨o,po,DO⟩:=YQ pd
  obtain⟨es,ep,h1,h2,h3,h4,h5⟩:=id DO
  refine wpAny_pyIter_dict (by simpa using QI S1.st I1.kn) ⟨o,es,po,h1,h2,h3,h4,h5⟩ ?_
  have S2:=S1.pushed (Le.refl g1) (S1.st.push {cls:=.type "dict_keyiterator",data:=.fields #[.ref D,.int 0 0,.int kvs.length 0,.int ep 0]})
  have F2:=Hd S1.st
  have S3:=(S2.weaken (σ1.dropD_le D)).hide (S1.st.freeD e1) (o:=o) (Heap.get?_push_of_some _ po) I1.kn I1.gn
  have hDs:s1.heap.objs.size≠D:=Nat.ne_of_gt (Heap.lt_size po)
  have F3:Apart [s1.heap.objs.size] (put k D o) g1 (σ1.dropD D):=fun b m=>by
   rw[List.mem_singleton]at m;subst m
   have f:=(S1.st.weaken (σ1.dropD_le D)).fresh (Nat.le_refl _)
   exact⟨Yz f.kn hDs,f.gn,f.free⟩
  have hDL:env.locals≠D:=S1.lne I1.kn
  have hitems:(kvs.map fun p=>V.int p.1)=fs.map fun p=>V.int p.1:=by
   have:=congrArg (List.map V.int) pr.1
   rw[List.map_map,List.map_map]at this
   exact this.symm
  refine XY (cc:=GM c scope cl D fs) (k₀:=put (fun q_=>none) D o) (F:=fun v=>F (iAt v)) S3 hA rfl rfl rfl rfl rfl rfl (fun p m=>?_) (fun p m=>?_) (Yz rfl hDL) hkind hcell ht (Bh hA _ D (.inr (put_self ..)) h1 h2 h3 h4 h5) ⟨_,Heap.get?_push_size _ rfl,rfl,rfl⟩ (fun b x e=>?_) trivial F3 ?_ (fun v m=>?_) fun D' C s' g' m l r S' q_ FC n=>?_
  ·rw[show(GM c scope cl D fs).pin=[(D,fs)]from rfl,List.mem_singleton]at m;subst m
   exact⟨o,kvs,put_self ..,DO,pr⟩
  ·rw[show(GM c scope cl D fs).pin=[(D,fs)]from rfl,List.mem_singleton]at m;subst m
   exact Ne.symm hDL
  ·unfold put at e⊢;split at e
   ·rename_i z;rw[if_pos z];exact e
   ·cases e
  ·rw[List.length_map,←pr.length];exact hz
  ·rw[hitems]at m
   obtain⟨p,mp,rfl⟩:=List.mem_map.mp m
   exact body p mp
  ·refine Xx S' FC n fun s2 S2=>?_
   have kD:=S2.st.kp.at (fun q=>hDL (Option.some.inj q)) (put_self k D o) (by rw[h1.1];decide)
   have gD:g' D=none:=S2.st.kg _ _ (put_self ..)
   have S4:=S2.unhide (Js (.inl I1.kn)) S.st.m2 S.kl S.frs (S1.pins.mono (Le.refl k) l)
   have fD:=S1.st.freeD e1
   have S5:=S4.st.addD (a:=D) (fs:=fs) ⟨gD,I1.kn,kvs,DO.dictOf kD,pr.mono l⟩ fD.ss fD.d
   have eσ:({σ1.dropD D with ds:=up (σ1.dropD D).ds D (some fs)}:Hp)=σ1:=by
    unfold Hp.dropD
    simp only[ZQ,YZ _ _ _ e1]
   rw[eσ]at S5
   rw[hitems]at r
   refine hQ _ _ _ g' _ (l1.trans l) r (S4.turn (Le.refl g') S5 fun q_ e=>e) ?_
   have e3:List.filterMap (fun v=>F (iAt v)) (fs.map fun p=>V.int p.1)=fs.filterMap fun p=>F p.1:=by
    rw[List.filterMap_map];rfl
   rw[e3];exact q
inductive Zfx(c:Ctx)(Q:V→Hp→Prop)(a:V)(b:V)(σ2:Hp):Prop
 |mk (D:_) (fs:_) (j:_) (v:_) (h1:a=.ref D) (h2:(D,fs)∈c.pin) (h3:b=.int j) (h4:aget fs j=some v) (h5:Q v σ2):Zfx c Q a b σ2
noncomputable abbrev K8O1(d:Nat)(c:Ctx)(ρ:Loc)(X:Addr→Loc→Hp→Prop)(i:Expr)(Q:V→Hp→Prop)(a:V)(σ1:Hp):Prop:=WE c d i ρ σ1 (Zfx c Q a) X
theorem Kw{o i:Expr}{pos:Pos}{Q:V→Hp→Prop}(h:WE c d o ρ σ (K8O1 d c ρ X i Q) X):WE c d (.Subscript o i pos) ρ σ Q X:=
 W6 h fun a b σ w os₀ A env k g s Q' E' x y hB S va vb hQ=>by
  obtain⟨D,fs,j,v,rfl,m,rfl,hv,q⟩:=hB
  obtain⟨_,rfl⟩:=vb.intI;obtain rfl:=va.refI
  obtain⟨o,kvs,kD,DO,pr⟩:=S.pins _ m
  have nL:=S.pinL _ m
  have hd:=DO.dictOf (S.st.kp.at (fun q=>nL (Option.some.inj q).symm) kD (by rw[DO.cls];decide))
  obtain⟨z,hz,rz⟩:=pr.get hv
  exact tail_any hd.typeIs slot_dict_getitem.lookup (wpAny_getItem_of (knd:=intKind PW w) (k:=j) (by simp[intKind,Value.isInt]) hd.mapOf hz (hQ _ _ _ g _ (Le.refl g) rz (S.toks _) q)) (We _ _ _).choose_spec
end
end
section
section
variable{w:World}{os₀:OsState}{lv:Option Addr}{d d':Nat}{c:Ctx}{A:Around}{env:Env}{k k' g g':Frz}{ρ ρ':Loc}{σ σ':Hp}{s s':Shared}{a:Addr}{X:Addr→Hp→Prop}{Q:V→Hp→Prop}
noncomputable def UK(σ:Hp):V→Option (List V)
 | .tup vs=>some vs
 |v=>ZV σ v
inductive Zfw(w:World)(g:Frz)(s:Shared)(x:Value)(vs:List V):Prop
 |mk (a:_) (Vs:_) (n:_) (T:_) (h1:x=.ref a) (h2:(T="list" ∨T="tuple")) (h3:s.heap.get? a=some {cls:=.type T,data:=.seq Vs.toArray n}) (h4:VRs w g vs Vs):Zfw w g s x vs
theorem St.seq(S:St w os₀ lv k g σ s){v:V}{x:Value}{vs:List V}(e:UK σ v=some vs)(r:VR w g v x):Zfw w g s x vs:=by
 cases v with
 |tup us=>
  cases e
  cases r with
  |tup a vs Vs p q=>exact⟨a,Vs,0,"tuple",rfl,.inr rfl,S.fr _ _ p,q⟩
 |ref b=>
  obtain⟨a,Vs,n,h1,h2,h3⟩:=S.list (v:=.ref b) e r
  exact⟨a,Vs,n,"list",h1,.inl rfl,h2,h3⟩
 |lst us=>
  obtain⟨a,Vs,n,h1,h2,h3⟩:=S.list (v:=.lst us) e r
  exact⟨a,Vs,n,"list",h1,.inl rfl,h2,h3⟩
 |_=>simp[UK,ZV]at e
theorem St.grow(S:St w os₀ lv k g σ s){h':Heap}{tk:Nat}(e:∀b o,s.heap.get? b=some o→h'.get? b=some o):St w os₀ lv k g σ {s with heap:=h',toks:=tk}:=S.keep e rfl rfl
theorem YX{v:V}{vs:List V}(e:UK σ v=some vs)(hz:vs.length≤100000)(h:Q (.int vs.length) σ):ZO d (.bi (.builtin "len")) [v] σ Q X:=
 ⟨fun w os₀ A k g s fv xs Q' E' S rf ra rm hh fr hQ hX=>by
  obtain rfl:=rf.biI
  cases ra with
  |cons r r2=>
  cases r2
  obtain⟨a,Vs,n,T,rfl,hT,p,rr⟩:=S.seq e r
  have hf:((Vs.toArray.size:Nat):Int)<2^63:=by rw[List.size_toArray,←rr.length];lia
  have e1:Vs.toArray.size=vs.length:=by rw[List.size_toArray,rr.length]
  rcases hT with rfl|rfl
  ·refine call_len_list (ZM p) hf ?_
   rw[e1]
   exact hQ _ _ _ g _ (Le.refl g) (.int _ _) (S.toks _) h
  ·refine PyProof.Rows.len_tuple (t:=a) (items:=Vs.toArray) ⟨_,p,rfl,n,rfl⟩ hf ?_
   rw[e1]
   exact hQ _ _ _ g _ (Le.refl g) (.int _ _) (S.toks _) h⟩
theorem Zbs{i:Int}(h:Q (.int i) σ):ZO d (.bi (.type "int")) [.int i] σ Q X:=
 ⟨fun w os₀ A k g s fv xs Q' E' S rf ra rm hh fr hQ hX=>by
  obtain rfl:=rf.biI
  cases ra with
  |cons r r2=>
  cases r2;obtain⟨_,rfl⟩:=r.intI
  exact call_int_int (hQ _ _ _ g _ (Le.refl g) (.int _ _) S h)⟩
theorem St.putFrz(S:St w os₀ lv k g σ s){D:Addr}{o:Obj}(F:Fresh k g σ D)(e:s.heap.get? D=some o)(hc:o.cls≠.type "frame"):St w os₀ lv k (put g D o) σ s∧Le g (put g D o):=S.freeze F.free F.kn e hc
theorem Xi{v:V}{vs:List V}(e:UK σ v=some vs)(hz:vs.length≤100000)(h:Q (.tup vs) σ):ZO d (.bi (.type "tuple")) [v] σ Q X:=
 ⟨fun w os₀ A k g s fv xs Q' E' S rf ra rm hh fr hQ hX=>by
  obtain rfl:=rf.biI
  cases ra with
  |cons r r2=>
  cases r2
  obtain⟨a,Vs,n,T,rfl,hT,p,rr⟩:=S.seq e r
  rcases hT with rfl|rfl
  ·refine call_tuple_list (ZM p) (fun h' kp=>?_) (by rw[List.size_toArray,←rr.length];exact Nat.le_trans hz (by decide))
   have S1:St w os₀ none k g σ {s with heap:=h'}:=S.keep kp rfl rfl
   obtain⟨S2,l,v⟩:=S1.newTup rr
   exact hQ _ _ _ _ _ l v S2 h
  ·refine call_tuple_same ⟨_,p,rfl,n,rfl⟩ ?_
   have hx:VR w g (.tup vs) (.ref a):=by
    cases v with
    |tup us=>
     cases e;exact r
    |ref b=>cases r;have:=(S.ls _ _ e).cls p;simp at this
    |lst us=>cases r with|lst _ _ _ _ q _=>rw[S.fr _ _ q]at p;simp at p
    |_=>simp[UK,ZV]at e
   exact hQ _ _ _ g _ (Le.refl g) hx S h⟩
theorem Ng{v:V}{vs:List V}(e:UK σ v=some vs)(hz:vs.length≤100000)(h:Q (.lst vs) σ):ZO d (.bi (.type "list")) [v] σ Q X:=
 ⟨fun w os₀ A k g s fv xs Q' E' S rf ra rm hh fr hQ hX=>by
  obtain rfl:=rf.biI
  cases ra with
  |cons r r2=>
  cases r2
  obtain⟨a,Vs,n,T,rfl,hT,p,rr⟩:=S.seq e r
  refine call_list_seq a hT p rfl rfl (fun h' c' kp e'=>?_) (by rw[List.size_toArray,←rr.length];exact Nat.le_trans hz (by decide))
  have F:=S.fresh (Nat.le_refl _)
  have S1:St w os₀ none k g σ {s with heap:=h'}:=S.keep kp rfl rfl
  obtain⟨S2,l⟩:=S1.putFrz F e' (by simp)
  exact hQ _ _ _ _ _ l (.lst _ _ _ c' (put_self ..) (rr.mono l)) S2 h⟩
theorem Nf{v:V}{vs:List V}(e:UK σ v=some vs)(hz:vs.length≤100000)(h:∀D,σ.ls D=none→Q (.ref D) {σ with ls:=up σ.ls D (some vs)}):ZO d (.bi (.type "list")) [v] σ Q X:=
 ⟨fun w os₀ A k g s fv xs Q' E' S rf ra rm hh fr hQ hX=>by
  obtain rfl:=rf.biI
  cases ra with
  |cons r r2=>
  cases r2
  obtain⟨a,Vs,n,T,rfl,hT,p,rr⟩:=S.seq e r
  refine call_list_seq a hT p rfl rfl (fun h' c' kp e'=>?_) (by rw[List.size_toArray,←rr.length];exact Nat.le_trans hz (by decide))
  have F:=S.fresh (Nat.le_refl _)
  have S1:St w os₀ none k g σ {s with heap:=h'}:=S.keep kp rfl rfl
  exact hQ _ _ _ g _ (Le.refl g) (.ref _) (S1.addL ⟨F.gn,F.kn,Vs,c',e',rr⟩) (h _ F.ls)⟩
theorem Yo{D:Addr}{v:V}{vs:List V}(e:σ.ls D=some vs)(hz:vs.length≤100000)(h:Q .none {σ with ls:=up σ.ls D (some (vs++[v]))}):ZO d (.bi (.builtin "list.append")) [.ref D,v] σ Q X:=
 ⟨fun w os₀ A k g s fv xs Q' E' S rf ra rm hh fr hQ hX=>by
  obtain rfl:=rf.biI
  cases ra with
  |cons r r2=>
  cases r2 with
  |cons r3 r4=>
  cases r4;obtain rfl:=r.refI
  obtain⟨Vs,n,p,rr⟩:=(S.ls D vs e).at_
  refine Hn p (by rw[←rr.length];exact hz) fun h' n' e' hs=>?_
  exact hQ _ _ _ g _ (Le.refl g) .none (S.setL (s':={s with heap:=h'}) e (fun b o n q=>(hs.2 b n).trans q) e' (rr.snoc r3) rfl rfl) h⟩
theorem OR{Vs:List Value}{y:Value}:(Vs++[y]).toArray.eraseIdxIfInBounds ((Vs++[y]).toArray.size-1)=Vs.toArray:=by
 have h:(Vs++[y]).toArray.size-1<(Vs++[y]).toArray.size:=by simp
 rw[Array.eraseIdxIfInBounds,dif_pos h]
 apply Array.toList_inj.mp
 simp only[List.size_toArray,List.length_append,List.length_cons,List.length_nil,Nat.zero_add,Nat.add_sub_cancel,List.eraseIdx_toArray,List.eraseIdx_append_of_length_le (Nat.le_refl _),Nat.sub_self]
 simp
inductive Zfv(w:World)(g:Frz)(vs:List V)(v:V)(xs:List Value):Prop
 |mk (ys:_) (y:_) (h1:xs=ys++[y]) (h2:VRs w g vs ys) (h3:VR w g v y):Zfv w g vs v xs
theorem VRs.unsnoc{vs:List V}{v:V}{xs:List Value}(h:VRs w g (vs++[v]) xs):Zfv w g vs v xs:=by
 have h1:=h.take vs.length
 have h2:=h.drop vs.length
 simp only[List.take_left,List.drop_left]at h1 h2
 cases e:xs.drop vs.length with
 |nil=>rw[e]at h2;cases h2
 |cons y r=>
  rw[e]at h2
  cases h2 with
  |cons a b=>
  cases b
  exact⟨xs.take vs.length,y,by rw[←e,List.take_append_drop],h1,a⟩
theorem ZfT{D:Addr}{v:V}{vs:List V}(e:σ.ls D=some (vs++[v]))(hz:vs.length≤10000)(h:Q v {σ with ls:=up σ.ls D (some vs)}):ZO d (.bi (.builtin "list.pop")) [.ref D] σ Q X:=
 ⟨fun w os₀ A k g s fv xs Q' E' S rf ra rm hh fr hQ hX=>by
  obtain rfl:=rf.biI
  cases ra with
  |cons r r2=>
  cases r2;obtain rfl:=r.refI
  obtain⟨Vs,n,p,rr⟩:=(S.ls D _ e).at_
  obtain⟨ys,y,rfl,r1,r2⟩:=rr.unsnoc
  have hsz:(ys++[y]).toArray.size=vs.length+1:=by simp[r1.length]
  refine call_meets PySem.F.slot_list_pop ⟨_,p,rfl⟩ PySem.F.entry_list_pop (PySem.F.args_list_pop_1 _) (PySem.MeetsSeq.list_pop_last D (ys++[y]).toArray n y (by simp) (by rw[hsz];exact Nat.le_trans (Nat.succ_le_succ hz) (by decide))) ⟨p,?_⟩
  have z:=Heap.get?_update_self (h:=s.heap) (Obj.mapSeq fun xs=>xs.eraseIdxIfInBounds ((ys++[y]).toArray.size-1)) p rfl
  have y':∃n',Obj.mapSeq (fun xs=>xs.eraseIdxIfInBounds ((ys++[y]).toArray.size-1)) (Zu (ys++[y]) n)=Zu ys n':=by
   have:∀(f:Array Value→Array Value) (xs:Array Value) (n:Nat),∃n',Obj.mapSeq f {cls:=.type "list",data:=.seq xs n}={cls:=.type "list",data:=.seq (f xs) n'}:=fun f xs n=>⟨_,rfl⟩
   obtain⟨n',q⟩:=this (fun xs=>xs.eraseIdxIfInBounds ((ys++[y]).toArray.size-1)) (ys++[y]).toArray n
   exact⟨n',q.trans (by rw[OR])⟩
  obtain⟨n',y'⟩:=y'
  rw[y']at z
  exact hQ _ _ _ g _ (Le.refl g) r2 (S.setL (s':={s with heap:=_}) e (fun b o n q=>(Heap.get?_update_ne _ _ _ _ n).trans q) z r1 rfl rfl) h⟩
theorem Ki{v dv:V}{fs:List (Int×V)}{i:Int}(e:Wo σ v=some fs)(h:Q ((aget fs i).getD dv) σ):ZO d (.bi (.builtin "dict.get")) [v,.int i,dv] σ Q X:=
 ⟨fun w os₀ A k g s fv xs Q' E' S rf ra rm hh fr hQ hX=>by
  obtain rfl:=rf.biI
  cases ra with
  |cons r r2=>
  cases r2 with
  |cons r3 r4=>
  cases r4 with
  |cons r5 r6=>
  cases r6;obtain⟨_,rfl⟩:=r3.intI
  obtain⟨D,kvs,rfl,hd,pr,nm⟩:=S.idict e r
  refine call_meetsIn PySem.F.slot_dict_get hd.typeIs PySem.F.entry_dict_get (PySem.F.args_dict_get_3 _ _ _) (meets_dict_get_default (intKind PW w) D (k:=i) (by simp[intKind,Value.isInt]) nm _) ⟨_,hd.mapOf,?_⟩
  refine hQ _ _ _ g _ (Le.refl g) ?_ (S.toks _) h
  cases q:aget fs i with
  |none=>rw[pr.get_none q];exact r5
  |some y=>
   obtain⟨z,hz,rz⟩:=pr.get q
   rw[hz];exact rz⟩
end
end
end Internal
namespace Internal
open PySem PySem.W PyProof.Rows PySem.Calls
section
theorem YN:Zt 550 "held" :=fun P=>by kernel_rfl
theorem Hz:Zv 550 "held" :=fun P=>by kernel_rfl
theorem BB:Zt 667 "iset" :=fun P=>by kernel_rfl
theorem B2:Zv 667 "iset" :=fun P=>by kernel_rfl
theorem Z0:Zt 667 "regs" :=fun P=>by kernel_rfl
theorem Xk:Zv 667 "regs" :=fun P=>by kernel_rfl
theorem XN:Zt 667 "xmm" :=fun P=>by kernel_rfl
theorem X9:Zv 667 "xmm" :=fun P=>by kernel_rfl
theorem Wp:Zt 667 "flags" :=fun P=>by kernel_rfl
theorem Wf:Zv 667 "flags" :=fun P=>by kernel_rfl
theorem Yh:Zt 667 "memory" :=fun P=>by kernel_rfl
theorem V6:Zv 667 "memory" :=fun P=>by kernel_rfl
theorem ZL:Zt 667 "rip" :=fun P=>by kernel_rfl
theorem YB:Zv 667 "rip" :=fun P=>by kernel_rfl
theorem Wq:Zt 667 "begin" :=fun P=>by kernel_rfl
theorem Ul:Zv 667 "begin" :=fun P=>by kernel_rfl
theorem Jq:Zt 667 "segments" :=fun P=>by kernel_rfl
theorem UC:Zv 667 "segments" :=fun P=>by kernel_rfl
theorem Je:Zt 667 "is_halted" :=fun P=>by kernel_rfl
theorem Qb:Zv 667 "is_halted" :=fun P=>by kernel_rfl
theorem Zm:Zt 232 "state" :=fun P=>by kernel_rfl
theorem Kz:Zv 232 "state" :=fun P=>by kernel_rfl
theorem X4:Zt 232 "advance" :=fun P=>by kernel_rfl
theorem X0:Zv 232 "advance" :=fun P=>by kernel_rfl
theorem Yv:Zt 232 "points" :=fun P=>by kernel_rfl
theorem U1:Zv 232 "points" :=fun P=>by kernel_rfl
theorem Ue:Zt 232 "watches" :=fun P=>by kernel_rfl
theorem Ud:Zv 232 "watches" :=fun P=>by kernel_rfl
theorem ZB:Zt 232 "calls" :=fun P=>by kernel_rfl
theorem K0:Zv 232 "calls" :=fun P=>by kernel_rfl
theorem U3:Zt 232 "broken" :=fun P=>by kernel_rfl
theorem XB:Zv 232 "broken" :=fun P=>by kernel_rfl
theorem UE:Zt 232 "count" :=fun P=>by kernel_rfl
theorem UD:Zv 232 "count" :=fun P=>by kernel_rfl
theorem Jf:Zt 232 "latest" :=fun P=>by kernel_rfl
theorem U2:Zv 232 "latest" :=fun P=>by kernel_rfl
theorem UZ:Zv 232 "what" :=fun P=>by kernel_rfl
theorem Z1:Zt 900 "name" :=fun P=>by kernel_rfl
theorem Xy:Zv 900 "name" :=fun P=>by kernel_rfl
theorem ZG:Zt 900 "operands" :=fun P=>by kernel_rfl
theorem V3:Zv 900 "operands" :=fun P=>by kernel_rfl
theorem Wg:Zv 900 "prefix" :=fun P=>by kernel_rfl
theorem VY:Zt 772 "kind" :=fun P=>by kernel_rfl
theorem Np:Zv 772 "kind" :=fun P=>by kernel_rfl
theorem QO:Zt 772 "register" :=fun P=>by kernel_rfl
theorem GK:Zv 772 "register" :=fun P=>by kernel_rfl
theorem KJ:Zt 806 "kind" :=fun P=>by kernel_rfl
theorem Nr:Zv 806 "kind" :=fun P=>by kernel_rfl
theorem D3:Zt 806 "worth" :=fun P=>by kernel_rfl
theorem De:Zv 806 "worth" :=fun P=>by kernel_rfl
theorem Nq:Zv 806 "name" :=fun P=>by kernel_rfl
theorem N9:Zt 847 "kind" :=fun P=>by kernel_rfl
theorem No:Zv 847 "kind" :=fun P=>by kernel_rfl
theorem D0:Zt 847 "worth" :=fun P=>by kernel_rfl
theorem Dd:Zv 847 "worth" :=fun P=>by kernel_rfl
theorem N0:Zt 847 "name" :=fun P=>by kernel_rfl
theorem Nn:Zv 847 "name" :=fun P=>by kernel_rfl
theorem Gj:Zv 435 "name" :=fun P=>by kernel_rfl
theorem QC:Zt 435 "kind" :=fun P=>by kernel_rfl
theorem Gk:Zv 435 "kind" :=fun P=>by kernel_rfl
theorem Qd:Zt 435 "number" :=fun P=>by kernel_rfl
theorem XA:Zv 435 "number" :=fun P=>by kernel_rfl
theorem J9:Zt 435 "size" :=fun P=>by kernel_rfl
theorem Gi:Zv 435 "size" :=fun P=>by kernel_rfl
theorem Jm:Zt 260 "instruction" :=fun P=>by kernel_rfl
theorem VO:Zv 260 "instruction" :=fun P=>by kernel_rfl
theorem K9:Zt 260 "length" :=fun P=>by kernel_rfl
theorem Ky:Zv 260 "length" :=fun P=>by kernel_rfl
theorem GL:Zv 260 "form" :=fun P=>by kernel_rfl
theorem Xz:Zv 260 "prefixes" :=fun P=>by kernel_rfl
theorem KQ:Zt 344 "cf" :=fun P=>by kernel_rfl
theorem KG:Zv 344 "cf" :=fun P=>by kernel_rfl
theorem KN:Zt 344 "pf" :=fun P=>by kernel_rfl
theorem KD:Zv 344 "pf" :=fun P=>by kernel_rfl
theorem KR:Zt 344 "af" :=fun P=>by kernel_rfl
theorem KH:Zv 344 "af" :=fun P=>by kernel_rfl
theorem KL:Zt 344 "zf" :=fun P=>by kernel_rfl
theorem KB:Zv 344 "zf" :=fun P=>by kernel_rfl
theorem KM:Zt 344 "sf" :=fun P=>by kernel_rfl
theorem KC:Zv 344 "sf" :=fun P=>by kernel_rfl
theorem KO:Zt 344 "of" :=fun P=>by kernel_rfl
theorem KE:Zv 344 "of" :=fun P=>by kernel_rfl
theorem KP:Zt 344 "df" :=fun P=>by kernel_rfl
theorem KF:Zv 344 "df" :=fun P=>by kernel_rfl
theorem WJ:Zz 232 130 "break_at" :=fun P=>by kernel_rfl
theorem K7:Zz 232 137 "clear" :=fun P=>by kernel_rfl
theorem K5:Zz 232 144 "watch" :=fun P=>by kernel_rfl
theorem X3:Zz 232 151 "unwatch" :=fun P=>by kernel_rfl
theorem J8:Zz 232 156 "seen" :=fun P=>by kernel_rfl
theorem XH:Zz 232 163 "is_met" :=fun P=>by kernel_rfl
theorem WI:Zz 232 170 "returned" :=fun P=>by kernel_rfl
theorem Ve:Zz 232 177 "step" :=fun P=>by kernel_rfl
theorem JZ:Zz 232 184 "led" :=fun P=>by kernel_rfl
theorem HF:Zz 232 191 "go" :=fun P=>by kernel_rfl
theorem XG:Zz 232 198 "run_to" :=fun P=>by kernel_rfl
theorem Wj:Zz 232 205 "step_over" :=fun P=>by kernel_rfl
theorem XI:Zz 232 212 "finish" :=fun P=>by kernel_rfl
theorem K4:Zz 232 217 "where" :=fun P=>by kernel_rfl
theorem Wk:Zz 232 224 "backtrace" :=fun P=>by kernel_rfl
theorem VU:Zz 232 229 "stack_rows" :=fun P=>by kernel_rfl
theorem B6:Zz 344 292 "told" :=fun P=>by kernel_rfl
theorem B7:Zz 344 299 "pack" :=fun P=>by kernel_rfl
theorem GS:Zz 344 306 "unpack" :=fun P=>by kernel_rfl
theorem B8:Zz 344 320 "copy" :=fun P=>by kernel_rfl
theorem GR:Zz 550 481 "octet" :=fun P=>by kernel_rfl
theorem X2:Zz 550 488 "set_octet" :=fun P=>by kernel_rfl
theorem YM:Zz 550 495 "read" :=fun P=>by kernel_rfl
theorem GQ:Zz 550 502 "write" :=fun P=>by kernel_rfl
theorem K1:Zz 550 519 "written" :=fun P=>by kernel_rfl
theorem HE:Zz 550 540 "copy" :=fun P=>by kernel_rfl
theorem HD:Zz 550 547 "told" :=fun P=>by kernel_rfl
theorem Dr:Zz 667 582 "get" :=fun P=>by kernel_rfl
theorem Vd:Zz 667 589 "put" :=fun P=>by kernel_rfl
theorem Gm:Zz 667 596 "put_low" :=fun P=>by kernel_rfl
theorem QB:Zz 667 622 "size_of" :=fun P=>by kernel_rfl
theorem Xl:Zz 667 629 "read" :=fun P=>by kernel_rfl
theorem Wi:Zz 667 636 "write" :=fun P=>by kernel_rfl
theorem Xm:Zz 667 643 "push" :=fun P=>by kernel_rfl
theorem XF:Zz 667 650 "pop" :=fun P=>by kernel_rfl
theorem UB:Zz 667 657 "told" :=fun P=>by kernel_rfl
theorem B5:Zz 667 664 "copy" :=fun P=>by kernel_rfl
end
end Internal
namespace Internal
open PySem PySem.W PyProof.Rows PySem.Calls PySem.Spec
section
section
variable{σ:Hp}{d:Nat}{fd:FuncData}
theorem XZ(names:List (Str×NameKind)):∀(n:Nat) (σ:Hp),(names.all fun x=>x.2 != .cell)=true→cellsσ n names σ=σ:=
 List.rec (fun q_ q_ q_=>rfl) (fun q_ q_ i n σ h=>have h:=Bool.and_eq_true_iff.mp h;(if_neg (bne_iff_ne.mp h.1∘beq_iff_eq.mp)).trans (i n σ h.2)) names
noncomputable def DW(fd:FuncData):List Stmt:=match fd.body with
 | .stmts b=>b
 |_=>[]
theorem Zc{f:Addr}{args vs:List V}(ns:List Str){Q:V→Hp→Prop}{X:Addr→Hp→Prop}(fd:FuncData)(ha:Xh f fd)(hX:Excs X)(bd:YY fd args ns vs)(hb:fd.body=.stmts (DW fd))(hl:ns.length=vs.length)(hc:(fd.scope.names.all fun x=>x.2 != .cell)=true)
  (h:∀n,WNs (Yp fd n) ns vs [] σ fun ρ' σ'=>WS (Yp fd n) d (DW fd) ρ' σ' (fun q_ σ=>Q .none σ) Q (fun a q_ σ=>X a σ)):Zd (d+1) (.ref f) args σ Q X:=
 Yq fd ha hb hX bd hl fun n F=>by rw[XZ _ _ _ hc];exact h n
theorem Zd.u{d':Nat}{f:V}{args:List V}{Q Q':V→Hp→Prop}{X:Addr→Hp→Prop}(h:Zd d f args σ Q noX)(hd:d≤d')(q:∀v σ',Q v σ'→Q' v σ'):ZO d' f args σ Q' X:=h.w.mono hd q fun q_ q_ z=>z.elim
theorem Zd.e{d':Nat}{f:V}{args:List V}{a:V}{b:Hp}{Q':V→Hp→Prop}{X:Addr→Hp→Prop}(h:Zd d f args σ (fun v σ'=>v=a∧σ'=b) noX)(hd:d≤d')(q:Q' a b):ZO d' f args σ Q' X:=
 h.u hd fun q_ q_ z=>by obtain⟨rfl,rfl⟩:=z;exact q
theorem Zd.v{d':Nat}{f:V}{args:List V}{a:V}{P:Hp→Prop}{Q':V→Hp→Prop}{X:Addr→Hp→Prop}(h:Zd d f args σ (fun v σ'=>v=a∧P σ') noX)(hd:d≤d')(q:∀σ',P σ'→Q' a σ'):ZO d' f args σ Q' X:=
 h.u hd fun q_ q_ z=>by obtain⟨rfl,z⟩:=z;exact q _ z
theorem Zd.x{α:Type}{d':Nat}{f:V}{args:List V}{F:α→V}{P:α→Prop}{b:Hp}{Q':V→Hp→Prop}{X:Addr→Hp→Prop}(h:Zd d f args σ (fun v σ'=>(∃i,P i∧v=F i)∧σ'=b) noX)(hd:d≤d')(q:∀i σ',P i→σ'=b→Q' (F i) σ'):ZO d' f args σ Q' X:=
 h.u hd fun q_ q_ z=>by obtain⟨⟨i,h,rfl⟩,z⟩:=z;exact q i _ h z
theorem Zd.y{α:Type}{d':Nat}{f:V}{args:List V}{F:α→V}{b:Hp}{Q':V→Hp→Prop}{X:Addr→Hp→Prop}(h:Zd d f args σ (fun v σ'=>(∃i,v=F i)∧σ'=b) noX)(hd:d≤d')(q:∀i σ',σ'=b→Q' (F i) σ'):ZO d' f args σ Q' X:=
 h.u hd fun q_ q_ z=>by obtain⟨⟨i,rfl⟩,z⟩:=z;exact q i _ z
theorem Yj{a:V}{n:Str}(h:∀x,bindArgs fd ⟨[x],[]⟩=pure [(n,x)]):YY fd [a] [n] [a]:=
 fun w g s xs X r=>by
  cases r with
  |cons r1 r2=>cases r2;exact⟨_,.cons r1 .nil,BindsTo.of_eq (h _)⟩
theorem ZH{a b:V}{n m:Str}(h:∀x y,bindArgs fd ⟨[x,y],[]⟩=pure [(n,x),(m,y)]):YY fd [a,b] [n,m] [a,b]:=
 fun w g s xs X r=>by
  cases r with
  |cons r1 r=>cases r with
  |cons r2 r=>cases r;exact⟨_,.cons r1 (.cons r2 .nil),BindsTo.of_eq (h _ _)⟩
theorem Jr{a b c:V}{n m l:Str}(h:∀x y z,bindArgs fd ⟨[x,y,z],[]⟩=pure [(n,x),(m,y),(l,z)]):YY fd [a,b,c] [n,m,l] [a,b,c]:=
 fun w g s xs X r=>by
  cases r with
  |cons r1 r=>cases r with
  |cons r2 r=>cases r with
  |cons r3 r=>cases r;exact⟨_,.cons r1 (.cons r2 (.cons r3 .nil)),BindsTo.of_eq (h _ _ _)⟩
theorem Hm{a b c e:V}{n m l o:Str}(h:∀x y z w,bindArgs fd ⟨[x,y,z,w],[]⟩=pure [(n,x),(m,y),(l,z),(o,w)]):YY fd [a,b,c,e] [n,m,l,o] [a,b,c,e]:=
 fun w g s xs X r=>by
  cases r with
  |cons r1 r=>cases r with
  |cons r2 r=>cases r with
  |cons r3 r=>cases r with
  |cons r4 r=>cases r;exact⟨_,.cons r1 (.cons r2 (.cons r3 (.cons r4 .nil))),BindsTo.of_eq (h _ _ _ _)⟩
theorem ZcM{a b c e f:V}{n m l o p:Str}(h:∀x y z w v,bindArgs fd ⟨[x,y,z,w,v],[]⟩=pure [(n,x),(m,y),(l,z),(o,w),(p,v)]):YY fd [a,b,c,e,f] [n,m,l,o,p] [a,b,c,e,f]:=
 fun w g s xs X r=>by
  cases r with
  |cons r1 r=>cases r with
  |cons r2 r=>cases r with
  |cons r3 r=>cases r with
  |cons r4 r=>cases r with
  |cons r5 r=>cases r;exact⟨_,.cons r1 (.cons r2 (.cons r3 (.cons r4 (.cons r5 .nil)))),BindsTo.of_eq (h _ _ _ _ _)⟩
theorem Og{a n:Int}(h:0≤n):iop .RShift a n=some (a/2^n.toNat):=if_pos h
theorem QK{a n:Int}(h:0≤n)(h2:n≤1000000)(h3:a.natAbs<2^64):iop .LShift a n=some (a*2^n.toNat):=if_pos ⟨h,h2,h3⟩
theorem Y3{a n:Int}(h:a.natAbs<2^64)(h2:n.natAbs<2^64):iop .Mult a n=some (a*n):=if_pos ⟨h,h2⟩
theorem Un{a n:Int}(h:0<n):iop .Mod a n=some (a % n):=if_pos h
theorem HH{a n:Int}(h:0<n)(h2:n.natAbs<2^64):iop .FloorDiv a n=some (a/n):=if_pos ⟨h,h2⟩
theorem Gd(i:Int)(n:Nat):Builtin.bitAnd i (2^n-1)=i % 2^n:=by
 have hp:(0:Int)<2^n:=Int.pow_pos (by decide)
 have e1:((2:Int)^n-1).toNat=2^n-1:=by
  have:(2:Int)^n=((2^n:Nat):Int):=by push_cast;rfl
  exact(congrArg (fun x:Int=>(x-1).toNat) this).trans (Int.toNat_sub (2^n) 1)
 have e2:((2^n:Nat):Int)=(2:Int)^n:=by push_cast;rfl
 have hm1:(0:Int)≤2^n-1:=Int.sub_nonneg_of_le hp
 by_cases h:0≤i
 ·rw[bitAnd_pp h hm1,e1,Nat.and_two_pow_sub_one_eq_mod]
  obtain⟨m,rfl⟩:=Int.eq_ofNat_of_zero_le h
  rw[Int.toNat_natCast]
  push_cast;rfl
 ·rw[bitAnd_np h hm1,e1]
  cases i with
  |ofNat m=>exact absurd (Int.natCast_nonneg m) h
  |negSucc m=>
   rw[show Builtin.bitNot (Int.negSucc m)=(m:Int)from Int.add_sub_cancel (m:Int) 1,Int.toNat_natCast,Nat.and_comm,Nat.and_two_pow_sub_one_eq_mod,←e2]
   exact(Int.negSucc_emod m (e2▸hp)).symm
theorem ZeI{n:Int}(h0:0≤n)(h1:n≤128):Zd 1 (.ref 80) [.int n] σ (fun v σ'=>v=.int (2^n.toNat-1)∧σ'=σ) noX:=by
 refine Zc (d:=0) ["size"] Oo (fun P=>by kernel_rfl) Zf (Yj fun x=>rfl) rfl rfl rfl fun N=>?_
 refine Zg rfl ?_
 refine Zn (Q3 (JL (JL (W7 (YW rfl rfl rfl ?_)))))
 refine⟨1,n,_,rfl,rfl,if_pos ⟨h0,by exact Int.le_trans (by assumption) (by decide),by decide⟩,W7 ⟨_,_,_,rfl,rfl,rfl,?_,rfl⟩⟩
 rw[Int.one_mul]
theorem Qh{i n:Int}(h0:0≤n)(h1:n≤128):Zd 2 (.ref 87) [.int i,.int n] σ (fun v σ'=>v=.int (i % 2^n.toNat)∧σ'=σ) noX:=by
 refine Zc (d:=1) ["worth","size"] On (fun P=>by kernel_rfl) Zf (ZH fun x y=>rfl) rfl rfl rfl fun N=>?_
 refine Zg rfl (Zg rfl ?_)
 refine Zn (Q3 (JL (YW rfl rfl rfl ?_)))
 refine Qi rfl rfl (Zw (v:=.ref 80) rfl (fun P=>by kernel_rfl) rfl rfl ⟨fun P=>by kernel_rfl,?_⟩)
 refine Zh (YW rfl rfl rfl (ZW ?_)) rfl
 refine(ZeI h0 h1).e (Nat.le_refl 1) ?_
 refine⟨_,_,_,rfl,rfl,rfl,?_,rfl⟩
 rw[Gd]
noncomputable def Yt:Loc→Loc→Prop
 | [],_=>True
 | (x,v)::r,b=>aget b x=some v∧Yt r b
theorem Yt.get{a b:Loc}(h:Yt a b){x:Str}{v:V}:aget a x=some v→aget b x=some v:=
 List.rec (motive:=fun a=>Yt a b→aget a x=some v→aget b x=some v) (fun q_ e=>nos e) (fun p r i h=>Jh (M:=fun o=>o=some v→aget b x=some v) (fun c e=>c▸h.1.trans e) fun q_ e=>i h.2 e) a h
section
variable{w:World}{os₀:OsState}{c:Ctx}{A:Around}{env:Env}{k g:Frz}{ρ ρ':Loc}{s:Shared}{X:Addr→Loc→Hp→Prop}
theorem ZU.view(S:ZU w os₀ c env k g ρ σ s)(h:Yt ρ' ρ):ZU w os₀ c env k g ρ' σ s:=
 {S with ns:=let⟨m,a,b⟩:=S.ns;⟨m,a,fun x=>by
   cases e:aget ρ' x with
   |none=>trivial
   |some v=>have:=b x;rw[h.get e]at this;exact this⟩}
theorem Sit.view(S:Sit w os₀ d c A env k g ρ σ s)(h:Yt ρ' ρ):Sit w os₀ d c A env k g ρ' σ s:=S.mk' (S.toZU.view h)
theorem WG.view{α β:Type}{rel:World→Frz→β→α→Prop}{t:Env→Sem α}{Q:β→Loc→Hp→Prop}(q:Yt ρ' ρ)(h:WG rel t c d ρ' σ Q X):WG rel t c d ρ σ Q X:=
 ⟨fun w os₀ A env k g s P E S hQ hE=>h.run w os₀ A env k g s P E (S.view q) hQ hE⟩
theorem WS.view{st:List Stmt}{N:Loc→Hp→Prop}{R:V→Hp→Prop}(q:Yt ρ' ρ)(h:WS c d st ρ' σ N R X):WS c d st ρ σ N R X:=WG.view q h
theorem WA.view{t:Expr}{v:V}{Q:Loc→Hp→Prop}(q:Yt ρ' ρ)(h:WA c d t v ρ' σ Q X):WA c d t v ρ σ Q X:=
 ⟨fun w os₀ A env k g s x Q' E' S r hQ hE=>h.run w os₀ A env k g s x Q' E' (S.view q) r hQ hE⟩
inductive Zaq(I:Nat→Loc→Hp→Prop)(n:Nat)(ρ2:Loc)(σ2:Hp):Prop
 |mk (m:_) (h1:m<n) (h2:I m ρ2 σ2):Zaq I n ρ2 σ2
theorem U8{test:Expr}{body:List Stmt}{pos:Pos}{N:Loc→Hp→Prop}{R:V→Hp→Prop}(I:Nat→Loc→Hp→Prop)(n:Nat)(h0:I n ρ σ)
  (turn:∀n ρ σ,I n ρ σ→∃ρ',Yt ρ' ρ∧WT c d test ρ' σ (fun b σ1=>if b=true then WS c d body ρ' σ1 (Zaq I n) R YS else N ρ' σ1) YS):WX c d (.While test body [] pos) ρ σ N R X:=
 WX.mk fun w os₀ A env k g s Q' E' S hE hN hR=>by
  refine wpAny_While ?_
  refine codeAny_whileLoop (fun n s2=>∃g2 ρ2 σ2,Le g g2∧Sit w os₀ d c A env k g2 ρ2 σ2 s2∧I n ρ2 σ2) ?_ n ⟨g,ρ,σ,Le.refl _,S,h0⟩
  rintro n s2 ⟨g2,ρ2,σ2,l2,S2,J2⟩
  obtain⟨ρ',hv,ht⟩:=turn n ρ2 σ2 J2
  refine ht.use (S2.view hv) Qp fun b σ3 g3 s3 l3 S3 q_ h3=>?_
  cases b with
  |true=>
   refine WS.use h3 S3 Qp (fun ρ5 σ5 g5 s5 l5 S7 q_ J5=>?_) fun v ρ5 σ5 x g5 s5 l5 r S7 q=>?_
   ·obtain⟨m,hm,q⟩:=J5
    exact⟨m,hm,g5,ρ5,σ5,l2.trans (l3.trans l5),S7,q⟩
   ·exact hR v ρ5 σ5 x g5 s5 (l2.trans (l3.trans l5)) r S7 q
  |false=>exact wpAny_execs_nil (hN _ _ g3 _ (l2.trans l3) S3 h3)
end
end
end
end Internal
namespace Internal
open PySem PySem.W PyProof.Rows PySem.Calls PySem.Spec
local macro_rules | `(tactic| walk_at "w") => `(tactic| repeat walk_at "n88")
local macro_rules | `(tactic| walk_at "n88") => `(tactic| first
 |refine Zn ?_|refine Ji ?_|refine Q3 ?_|refine HW ?_|refine Ja ?_|refine Y5 ?_ rfl
 |refine Zah rfl ?_
 |refine Zcs rfl ?_|refine Zh ?_ rfl|refine Zg rfl ?_|refine ZS ?_ rfl|refine JL ?_
 |refine ZC rfl rfl ?_|refine Qi rfl rfl ?_
 |refine HX ?_ rfl rfl|refine Zy ?_)
section
section
variable{σ:Hp}{d:Nat}
noncomputable def ZI(m:List (Int×Int)):List (Int×V):=m.map fun p=>(p.1,.int p.2)
noncomputable def mget(m:List (Int×Int))(x:Int):Int:=(aget m x).getD 0
theorem ZaA(m:List (Int×Int))(x:Int):(aget (ZI m) x).getD (.int 0)=.int (mget m x):=
 (congrArg (fun x=>x.getD (V.int 0)) (BW V.int x m)).trans (Option.rec (motive:=fun o=>(o.map V.int).getD (.int 0)=.int (o.getD 0)) rfl (fun q_=>rfl) (aget m x))
theorem Vf(m:List (Int×Int))(x u:Int):aset (ZI m) x (.int u)=ZI (aset m x u):=ZcN V.int x u m
structure Qu(σ:Hp)(M dM H:Addr)(m:List (Int×Int)):Prop where
 is:σ.is M=some ⟨false,550,dM,[("held",.ref H)]⟩
 ds:σ.ds H=some (ZI m)
 oct:∀p∈m,0≤p.2∧p.2<256
theorem UM{m:List (Int×Int)}(h:∀p∈m,0≤p.2∧p.2<256)(x:Int):0≤mget m x∧mget m x<256:=ZeS (P:=fun x=>0≤x∧x<256) ⟨Int.le_refl 0,by decide⟩ h x
noncomputable def Hp.mem(σ:Hp)(H:Addr)(m:List (Int×Int)):Hp:={σ with ds:=up σ.ds H (some (ZI m))}
theorem ZdJ{M dM H:Addr}{m:List (Int×Int)}{p:Int}(I:Qu σ M dM H m):Zd 3 (.ref 481) [.ref M,.int p] σ (fun v σ'=>v=.int (mget m (p % 2^64))∧σ'=σ) noX:=by
 refine Zc (d:=2) ["self","place"] VJ (fun P=>by kernel_rfl) Zf (ZH fun x y=>rfl) rfl rfl rfl fun N=>?_
 walk_at "w"
 refine⟨_,_,_,Za I.is,YN,rfl,rfl,?_⟩
 refine⟨_,_,Ua PySem.F.slot_dict_get PySem.F.type_dict_get I.ds,trivial,?_⟩
 walk_at "w"
 refine Zw (v:=.ref 87) rfl (fun P=>by kernel_rfl) rfl rfl ⟨fun P=>by kernel_rfl,?_⟩
 walk_at "w"
 refine(Qh (by decide) (by decide)).u (Nat.le_refl 2) ?_
 rintro _ _ ⟨rfl,rfl⟩
 walk_at "w"
 refine Ki I.ds ⟨?_,rfl⟩
 rw[ZaA];rfl
theorem NH{M dM H:Addr}{m:List (Int×Int)}{p v:Int}(I:Qu σ M dM H m)(hz:m.length≤10000):Zd 3 (.ref 488) [.ref M,.int p,.int v] σ (fun r σ'=>r=.none∧σ'=σ.mem H (aset m (p % 2^64) v)) noX:=by
 refine Zc (d:=2) ["self","place","octet"] Ug (fun P=>by kernel_rfl) Zf (Jr fun x y z=>rfl) rfl rfl rfl fun N=>?_
 walk_at "w"
 refine Qs (YW rfl rfl rfl (ZS (YW rfl rfl rfl ⟨_,_,_,Za I.is,YN,rfl,rfl,?_⟩) rfl))
 walk_at "w"
 refine Zw (v:=.ref 87) rfl (fun P=>by kernel_rfl) rfl rfl ⟨fun P=>by kernel_rfl,?_⟩
 walk_at "w"
 refine(Qh (by decide) (by decide)).u (Nat.le_refl 2) ?_
 rintro _ _ ⟨rfl,rfl⟩
 refine⟨H,_,_,rfl,I.ds,rfl,by rw[ZI,List.length_map];exact Nat.le_trans (by assumption) (by decide),?_⟩
 refine Ji ⟨rfl,?_⟩
 rw[Vf];rfl
noncomputable def mread(m:List (Int×Int))(p:Int):Nat→Int
 |0=>0
 |n+1=>mread m p n+mget m ((p+n) % 2^64)*2^(8*n)
theorem W3{M dM H:Addr}{m:List (Int×Int)}{p:Int}{n:Nat}(I:Qu σ M dM H m)(hn:n≤1000):Zd 4 (.ref 495) [.ref M,.int p,.int n] σ (fun r σ'=>r=.int (mread m p n)∧σ'=σ) noX:=by
 refine Zc (d:=3) ["self","place","width"] Ww (fun P=>by kernel_rfl) Zf (Jr fun x y z=>rfl) rfl rfl rfl fun N=>?_
 walk_at "w"
 refine Q4 rfl (.inl rfl) (fun q_ q_=>rfl) ?_
 refine Y9 ?_ rfl
 refine YH rfl (fun P=>by kernel_rfl) (fun P=>by kernel_rfl) rfl ⟨rfl,?_⟩
 walk_at "w"
 refine⟨n,rfl,Nat.lt_of_le_of_lt hn (by decide),?_⟩
 refine⟨fun i ρ σ'=>Yt [("self",.ref M),("place",.int p),("worth",.int (mread m p i))] ρ∧σ'=σ,⟨⟨rfl,rfl,rfl,trivial⟩,rfl⟩,fun q_ q_ q_ q_=>trivial,?_,?_⟩
 ·rintro i v ρ1 σ2 hi ⟨hv,rfl⟩
  obtain⟨hi',rfl⟩:i<n∧v=.int i:=by
   have h1:=(List.getElem?_eq_some_iff.mp hi).1
   rw[List.length_map,List.length_range]at h1
   rw[List.getElem?_map,List.getElem?_range h1]at hi
   exact⟨h1,(Option.some.inj hi).symm⟩
  refine WA.view hv ?_
  walk_at "w"
  refine⟨_,_,Kh (Za I.is) GR rfl,fun P=>by kernel_rfl,?_⟩
  walk_at "w"
  refine⟨_,_,_,rfl,rfl,rfl,?_⟩
  walk_at "w"
  refine(ZdJ I).u (Nat.le_refl 3) ?_
  rintro _ _ ⟨rfl,rfl⟩
  walk_at "w"
  have hb:=UM I.oct ((p+i) % 2^64)
  refine⟨_,_,_,rfl,rfl,if_pos ⟨by decide,(show i<2^64 from Nat.lt_of_lt_of_le (Nat.lt_of_lt_of_le hi' hn) (by decide))⟩,?_⟩
  refine⟨_,_,_,rfl,rfl,if_pos ⟨Int.mul_nonneg (by decide) (Int.natCast_nonneg i),by lia,Hr hb.1 hb.2 (n:=256) (by decide)⟩,?_⟩
  refine⟨_,_,_,rfl,rfl,rfl,?_⟩
  walk_at "w"
  refine⟨⟨rfl,rfl,?_,trivial⟩,rfl⟩
  have e:(8*(i:Int)).toNat=8*i:=rfl
  rw[e];rfl
 ·rintro ρ1 σ2 ⟨hv,rfl⟩
  refine WS.view hv ?_
  walk_at "w"
  refine⟨?_,rfl⟩
  simp
theorem Qu.set{M dM H:Addr}{m m':List (Int×Int)}(I:Qu σ M dM H m)(h:∀p∈m',0≤p.2∧p.2<256):Qu (σ.mem H m') M dM H m':=⟨I.is,up_self ..,h⟩
theorem Hp.mem_mem(H:Addr)(m m':List (Int×Int)):(σ.mem H m).mem H m'=σ.mem H m':=by unfold Hp.mem;simp only[ZQ]
theorem Qu.self{M dM H:Addr}{m:List (Int×Int)}(I:Qu σ M dM H m):σ.mem H m=σ:=by unfold Hp.mem;rw[YZ _ _ _ I.ds]
noncomputable def mwrite(m:List (Int×Int))(p:Int)(v:Int):Nat→List (Int×Int)
 |0=>m
 |n+1=>aset (mwrite m p v n) ((p+n) % 2^64) (v/2^(8*n) % 256)
theorem Vc{m:List (Int×Int)}(h:∀p∈m,0≤p.2∧p.2<256)(p v:Int):∀n,∀q∈mwrite m p v n,0≤q.2∧q.2<256
 |0=>h
 |n+1=>Vw (P:=fun x=>0≤x∧x<256) ⟨Int.emod_nonneg _ (by decide),Int.emod_lt_of_pos _ (by decide)⟩ (Vc h p v n)
theorem UA(m:List (Int×Int))(p v:Int):∀n,(mwrite m p v n).length≤m.length+n
 |0=>Nat.le_refl _
 |n+1=>Nat.le_trans (Q2 _ _ _) (Nat.succ_le_succ (UA m p v n))
theorem ZdI{M dM H:Addr}{m:List (Int×Int)}{p v:Int}{n:Nat}(I:Qu σ M dM H m)(hn:n≤1000)(hz:m.length≤5000):Zd 4 (.ref 502) [.ref M,.int p,.int n,.int v] σ (fun r σ'=>r=.none∧σ'=σ.mem H (mwrite m p v n)) noX:=by
 refine Zc (d:=3) ["self","place","width","worth"] VI (fun P=>by kernel_rfl) Zf (Hm fun x y z w=>rfl) rfl rfl rfl fun N=>?_
 walk_at "w"
 refine Q4 rfl (.inl rfl) (fun q_ q_=>rfl) ?_
 refine Y9 ?_ rfl
 refine YH rfl (fun P=>by kernel_rfl) (fun P=>by kernel_rfl) rfl ⟨rfl,?_⟩
 walk_at "w"
 refine⟨n,rfl,Nat.lt_of_le_of_lt hn (by decide),?_⟩
 refine⟨fun i ρ σ'=>Yt [("self",.ref M),("place",.int p),("worth",.int v)] ρ∧σ'=σ.mem H (mwrite m p v i),⟨⟨rfl,rfl,rfl,trivial⟩,I.self.symm⟩,fun q_ q_ q_ q_=>trivial,?_,?_⟩
 ·rintro i u ρ1 σ2 hi ⟨hv,rfl⟩
  obtain⟨hi',rfl⟩:i<n∧u=.int i:=by
   have h1:=(List.getElem?_eq_some_iff.mp hi).1
   rw[List.length_map,List.length_range]at h1
   rw[List.getElem?_map,List.getElem?_range h1]at hi
   exact⟨h1,(Option.some.inj hi).symm⟩
  have I2:=I.set (Vc I.oct p v i)
  refine WA.view hv ?_
  walk_at "w"
  refine⟨_,_,Kh (Za I2.is) X2 rfl,fun P=>by kernel_rfl,?_⟩
  walk_at "w"
  refine⟨_,_,_,rfl,rfl,rfl,?_⟩
  walk_at "w"
  refine⟨_,_,_,rfl,rfl,if_pos ⟨by decide,(show i<2^64 from Nat.lt_of_lt_of_le (Nat.lt_of_lt_of_le hi' hn) (by decide))⟩,?_⟩
  refine⟨_,_,_,rfl,rfl,Og (by exact Int.natCast_nonneg _),?_⟩
  walk_at "w"
  refine⟨_,_,_,rfl,rfl,rfl,?_⟩
  walk_at "w"
  refine(NH I2 (Nat.le_trans (UA ..) (Nat.le_trans (Nat.add_le_add hz (Nat.le_of_lt (Nat.lt_of_lt_of_le hi' hn))) (by decide)))).u (Nat.le_refl 3) ?_
  rintro _ _ ⟨rfl,rfl⟩
  walk_at "w"
  refine⟨⟨rfl,rfl,rfl,trivial⟩,?_⟩
  have e:(8*(i:Int)).toNat=8*i:=rfl
  rw[Hp.mem_mem,e,show(255:Int)=2^8-1 by decide,Gd]
  rfl
 ·rintro ρ1 σ2 ⟨hv,rfl⟩
  refine WS.view hv ?_
  walk_at "w"
  refine⟨rfl,?_⟩
  simp
end
end
section
section
variable{w:World}{os₀:OsState}{lv:Option Addr}{d d':Nat}{c:Ctx}{A:Around}{env:Env}{k k' g g':Frz}{ρ ρ':Loc}{σ σ':Hp}{s s':Shared}{a:Addr}{X:Addr→Hp→Prop}{Q:V→Hp→Prop}
theorem St.newI(S:St w os₀ lv k g σ s)(C:Addr):St w os₀ lv k g {σ with is:=up σ.is (s.heap.objs.size+1) (some ⟨false,C,s.heap.objs.size,[]⟩)} {s with heap:=(s.heap.push emptyDict).push (instObj C s.heap.objs.size)}:=by
 have F1:=S.fresh (Nat.le_refl _)
 have F2:=S.fresh (Nat.le_succ s.heap.objs.size)
 have S1:=(S.push emptyDict).push (instObj C s.heap.objs.size)
 have e1:((s.heap.push emptyDict).push (instObj C s.heap.objs.size)).get? s.heap.objs.size=some emptyDict:=Heap.get?_push_of_some _ (Heap.get?_push_size _ rfl)
 have e2:((s.heap.push emptyDict).push (instObj C s.heap.objs.size)).get? (s.heap.objs.size+1)=some (instObj C s.heap.objs.size):=by
  have:((s.heap.push emptyDict).push (instObj C s.heap.objs.size)).get? (s.heap.push emptyDict).objs.size=some (instObj C s.heap.objs.size):=Heap.get?_push_size _ rfl
  rwa [Heap.size_push]at this
 refine S1.addI ⟨F2.gn,F2.kn,⟨_,e2,?_⟩,⟨F1.gn,F1.kn,[],⟨_, #[],0,e1,⟨rfl,rfl,rfl⟩,rfl,(fun e he=>by simp at he),.nil,by simp⟩,PR.nil⟩⟩ F1.ds F1.ss fun b r' q_ e=>F1.d b r' e
 unfold JH
 rw[if_neg (by simp)]
structure Q9(C f:Addr):Prop where
 makes:∀P,makesIn (KK P) C=true
 init:∀P,findIn (KK P) (.ref C) "__init__" =some (some (.ref f))
 ty:∀P,typeIn (KK P) (.ref f)=some (.type "function")
theorem Room.make{C:Addr}{vals:List Value}(R:Room (d+1) A):Room d (A.under (.builtin "type.__call__" ⟨.ref C::vals,[]⟩)):=
 ⟨by have:=R.depth;rw[depth_under_make];lia,by have:=R.units;show A.units+1+64*d≤9000;lia⟩
theorem Ub{C f:Addr}{args:List V}(ok:Q9 C f)
  (h:∀n,(∀m,n≤m→Free σ m)→Zd d (.ref f) (.ref (n+1)::args) {σ with is:=up σ.is (n+1) (some ⟨false,C,n,[]⟩)} (fun v σ'=>v=.none∧Q (.ref (n+1)) σ') X):Zd (d+1) (.ref C) args σ Q X:=
 ⟨fun w os₀ A k g s fv xs R S rf ra rm hh fr hQ hR=>by
  obtain rfl:=rf.refI
  have S1:=S.newI C
  have FF:∀m,s.heap.objs.size≤m→Free σ m:=fun m hm=>(S.fresh hm).free
  have hm:=makes_of (M:=model PW w) S.KIn (ok.makes _)
  have hi:=looks_findIn (M:=model PW w) S.KIn (ok.init _)
  obtain⟨hp,gn,dr,tk,os⟩:=s
  refine make_core hm hi (fun self=>bind_fn S.KIn self (ok.ty _)) (.inl rfl) ?_
  refine(h _ FF).run w os₀ _ k g _ _ _ _ S1 (.ref _) (.cons (.ref _) ra) rm.make hh fr (fun v σ' x g' s' l r S' q=>?_) fun a σ' g' s' l S' F q=>hR a σ' g' s' l S' F q
  obtain⟨rfl,q⟩:=q
  obtain rfl:=r.noneI
  exact⟨rfl,hQ _ _ _ g' _ l (.ref _) S' q⟩⟩
inductive Zfu(σ:Hp)(Q:V→Hp→Prop)(C:Addr)(n:Nat)(v:V)(σ':Hp):Prop
 |mk (h1:v=.none) (fs:_) (h2:σ'={σ with is:=up σ.is (n+1) (some ⟨false,C,n,fs⟩)}) (h3:Q (.obj C fs) σ):Zfu σ Q C n v σ'
theorem JV{C f:Addr}{args:List V}(ok:Q9 C f)
  (h:∀n,σ.is (n+1)=none→Zd d (.ref f) (.ref (n+1)::args) {σ with is:=up σ.is (n+1) (some ⟨false,C,n,[]⟩)} (Zfu σ Q C n) noX):Zd (d+1) (.ref C) args σ Q X:=
 ⟨fun w os₀ A k g s fv xs R S rf ra rm hh fr hQ hR=>by
  have h0:Zd (d+1) (.ref C) args σ (fun v σ'=>∃a r,v=.ref a∧σ'.is a=some r∧r.x=false∧σ'.dropI a=σ∧Q (.obj r.C r.fs) σ) noX:=
   Ub ok fun n F=>⟨fun w os₀ A k g s fv xs R S rf ra rm hh fr hQ hR=>(h n (F _ (Nat.le_succ n)).is).run w os₀ A k g s fv xs R S rf ra rm hh fr (fun v σ' x g' s' l r S' q=>by
    obtain⟨rfl,fs,rfl,q⟩:=q
    refine hQ _ _ _ g' _ l r S' ⟨rfl,n+1,⟨false,C,n,fs⟩,rfl,up_self ..,rfl,?_,q⟩
    unfold Hp.dropI
    simp only[ZQ]
    rw[YZ _ _ _ (F _ (Nat.le_succ n)).is]) hR⟩
  refine h0.run w os₀ A k g s fv xs R S rf ra rm hh fr (fun v σ' x g' s' l r S' q=>?_) fun a σ' g' s' l S' F q=>q.elim
  obtain⟨a,r0,rfl,e,hx,rfl,q⟩:=q
  obtain rfl:=r.refI
  obtain⟨g2,S2,l2,v2⟩:=S'.fixI e hx
  exact hQ _ _ _ g2 _ (l.trans l2) v2 S2 q⟩
structure Zdg(C f:Addr)(name:Str):Prop where
 sp:∀P,specialIn (KK P) (.ref C) "__getattribute__" =some (some (.builtin "type.__getattribute__"))
 rd:∀P,readsIn (KK P) C (.type "type")=true
 fc:∀P,findCls (KK P) (.ref C) (.type "type") name=some (.val (.ref f))
theorem GD{C f:Addr}{name:Str}(ok:Zdg C f name):GE name (.ref C) σ (.ref f) []:=
 fun w os₀ lv A k g s x pl Q' E' S r h=>by
  obtain rfl:=r.refI
  exact method_cls S.KIn (ok.sp _) (cls_value S.KIn (ok.rd _) (ok.fc _) rfl (h _ _ _ (.ref _) .nil))
theorem WZ:Zdg 737 713 "__init__" :=⟨fun P=>by kernel_rfl,fun P=>by kernel_rfl,fun P=>by kernel_rfl⟩
theorem Nw:Q9 435 397:=⟨fun P=>by kernel_rfl,fun P=>by kernel_rfl,fun P=>by kernel_rfl⟩
theorem ZbG:Q9 344 285:=⟨fun P=>by kernel_rfl,fun P=>by kernel_rfl,fun P=>by kernel_rfl⟩
theorem Za5:Q9 550 474:=⟨fun P=>by kernel_rfl,fun P=>by kernel_rfl,fun P=>by kernel_rfl⟩
theorem ZbF:Q9 667 575:=⟨fun P=>by kernel_rfl,fun P=>by kernel_rfl,fun P=>by kernel_rfl⟩
theorem Zes:Q9 772 755:=⟨fun P=>by kernel_rfl,fun P=>by kernel_rfl,fun P=>by kernel_rfl⟩
theorem Zet:Q9 806 789:=⟨fun P=>by kernel_rfl,fun P=>by kernel_rfl,fun P=>by kernel_rfl⟩
theorem Zer:Q9 847 823:=⟨fun P=>by kernel_rfl,fun P=>by kernel_rfl,fun P=>by kernel_rfl⟩
theorem HB:Q9 900 864:=⟨fun P=>by kernel_rfl,fun P=>by kernel_rfl,fun P=>by kernel_rfl⟩
theorem OB:Q9 260 250:=⟨fun P=>by kernel_rfl,fun P=>by kernel_rfl,fun P=>by kernel_rfl⟩
theorem Ny:Q9 232 122:=⟨fun P=>by kernel_rfl,fun P=>by kernel_rfl,fun P=>by kernel_rfl⟩
inductive Zft(ρ:Loc)(name:Str)(N:Loc→Hp→Prop)(y:V)(v:V)(σ2:Hp):Prop
 |mk (a:_) (x:_) (C:_) (dd:_) (fs:_) (h1:v=.ref a) (h2:σ2.is a=some ⟨x,C,dd,fs⟩) (h3:Zv C name) (h4:Nat.ble fs.length 1000=true) (h5:N ρ {σ2 with is:=up σ2.is a (some ⟨x,C,dd,aset fs name y⟩)}):Zft ρ name N y v σ2
noncomputable abbrev K8T1(d:Nat)(c:Ctx)(ρ:Loc)(X:Addr→Loc→Hp→Prop)(o:Expr)(name:Str)(N:Loc→Hp→Prop)(y:V)(σ1:Hp):Prop:=WE c d o ρ σ1 (Zft ρ name N y) X
theorem YV{c:Ctx}{ρ:Loc}{X:Addr→Loc→Hp→Prop}{o:Expr}{name:Str}{p pos:Pos}{e:Expr}{N:Loc→Hp→Prop}{R:V→Hp→Prop}
  (h:WE c d e ρ σ (K8T1 d c ρ X o name N) X):WX c d (.Assign [.Attribute o name p] e pos) ρ σ N R X:=
 ZdV (h.mono fun y σ1 q=>WE.mono q fun v σ2 ⟨a,x,C,dd,fs,h1,h2,h3,h4,h5⟩=>⟨a,⟨x,C,dd,fs⟩,h1,h2,h3,nB h4,h5⟩)
end
end
end Internal
namespace Internal
open PySem PySem.W PyProof.Rows PySem.Calls PySem.Spec
local macro_rules | `(tactic| walk_at "w") => `(tactic| repeat walk_at "n88")
local macro_rules | `(tactic| walk_at "n88") => `(tactic| first
 |refine Zn ?_|refine Ji ?_|refine Q3 ?_|refine HW ?_|refine Ja ?_|refine Y5 ?_ rfl
 |refine Zah rfl ?_
 |refine Zcs rfl ?_|refine Zh ?_ rfl|refine Zg rfl ?_|refine ZS ?_ rfl|refine JL ?_
 |refine ZC rfl rfl ?_|refine Qi rfl rfl ?_
 |refine YV ?_
 |refine HX ?_ rfl rfl|refine Zy ?_)
section
section
variable{σ:Hp}{d:Nat}
theorem ON{a b c e:V}{x dx:Addr}(h:σ.is x=some ⟨false,435,dx,[]⟩):Zd 1 (.ref 397) [.ref x,a,b,c,e] σ (fun v σ'=>v=.none∧σ'={σ with is:=up σ.is x (some ⟨false,435,dx,[("name",a),("kind",b),("number",c),("size",e)]⟩)}) noX:=by
 refine Zc (d:=0) ["self","name","kind","number","size"] QU (fun P=>by kernel_rfl) Zf (ZcM fun x y z w v=>rfl) rfl rfl rfl fun N=>?_
 walk_at "w"
 refine⟨_,_,_,_,_,rfl,h,Gj,rfl,?_⟩
 walk_at "w"
 refine⟨_,_,_,_,_,rfl,up_self ..,Gk,rfl,?_⟩
 walk_at "w"
 refine⟨_,_,_,_,_,rfl,up_self ..,XA,rfl,?_⟩
 walk_at "w"
 refine⟨_,_,_,_,_,rfl,up_self ..,Gi,rfl,?_⟩
 walk_at "w"
 refine⟨rfl,?_⟩
 simp only[ZQ]
 rfl
theorem Zac{a b c e:V}:Zd 2 (.ref 435) [a,b,c,e] σ (fun v σ'=>v=.obj 435 [("name",a),("kind",b),("number",c),("size",e)]∧σ'=σ) noX:=by
 refine JV Nw fun n hn=>?_
 refine(ON (up_self ..)).mono (Nat.le_refl 1) ?_ fun q_ q_ q=>q.elim
 rintro _ _ ⟨rfl,rfl⟩
 refine⟨rfl,_,?_,rfl,rfl⟩
 simp only[ZQ]
theorem XL{a:V}{x dx C:Addr}(h:σ.is x=some ⟨false,C,dx,[]⟩)(ok:Zv C "kind"):Zd 1 (.ref 713) [.ref x,a] σ (fun v σ'=>v=.none∧σ'={σ with is:=up σ.is x (some ⟨false,C,dx,[("kind",a)]⟩)}) noX:=by
 refine Zc (d:=0) ["self","kind"] Uf (fun P=>by kernel_rfl) Zf (ZH fun x y=>rfl) rfl rfl rfl fun N=>?_
 walk_at "w"
 refine⟨_,_,_,_,_,rfl,h,ok,rfl,?_⟩
 walk_at "w"
 exact⟨rfl,rfl⟩
theorem Zgw{a:V}:Zd 3 (.ref 772) [a] σ (fun v σ'=>v=.obj 772 [("kind",.str "reg"),("register",a)]∧σ'=σ) noX:=by
 refine JV Zes fun n hn=>?_
 refine Zc (d:=1) ["self","register"] VH (fun P=>by kernel_rfl) Zf (ZH fun x y=>rfl) rfl rfl rfl fun N=>?_
 walk_at "w"
 refine Zw (v:=.ref 737) rfl (fun P=>by kernel_rfl) rfl rfl ⟨_,_,GD WZ,fun P=>by kernel_rfl,?_⟩
 walk_at "w"
 refine(XL (up_self ..) Np).u (Nat.le_refl 1) ?_
 rintro _ _ ⟨rfl,rfl⟩
 walk_at "w"
 refine⟨_,_,_,_,_,rfl,up_self ..,GK,rfl,?_⟩
 walk_at "w"
 refine⟨rfl,_,?_,rfl,rfl⟩
 simp only[ZQ]
 rfl
theorem ZdR{a b:V}:YY QV [a,b] ["self","worth","name"] [a,b,.str ""]:=fun w g s xs X r=>by
 cases r with
 |cons r1 r=>cases r with
 |cons r2 r=>cases r;exact⟨[_,_,.str "" 1252],.cons r1 (.cons r2 (.cons (.str _ _) .nil)),BindsTo.of_defaults (T:=782) rfl (X 782 {cls:=.type "tuple",data:=.seq #[.str "" 1252] 0} (by kernel_rfl)) rfl rfl rfl⟩
theorem ZcL{a:V}:Zd 3 (.ref 806) [a] σ (fun v σ'=>v=.obj 806 [("kind",.str "imm"),("worth",a),("name",.str "")]∧σ'=σ) noX:=by
 refine JV Zet fun n hn=>?_
 refine Zc (d:=1) ["self","worth","name"] QV (fun P=>by kernel_rfl) Zf ZdR rfl rfl rfl fun N=>?_
 walk_at "w"
 refine Zw (v:=.ref 737) rfl (fun P=>by kernel_rfl) rfl rfl ⟨_,_,GD WZ,fun P=>by kernel_rfl,?_⟩
 walk_at "w"
 refine(XL (up_self ..) Nr).u (Nat.le_refl 1) ?_
 rintro _ _ ⟨rfl,rfl⟩
 walk_at "w"
 refine⟨_,_,_,_,_,rfl,up_self ..,De,rfl,?_⟩
 walk_at "w"
 refine⟨_,_,_,_,_,rfl,up_self ..,Nq,rfl,?_⟩
 walk_at "w"
 refine⟨rfl,_,?_,rfl,rfl⟩
 simp only[ZQ]
 rfl
theorem ZdQ{a b:V}:YY QT [a,b] ["self","worth","name"] [a,b,.str ""]:=fun w g s xs X r=>by
 cases r with
 |cons r1 r=>cases r with
 |cons r2 r=>cases r;exact⟨[_,_,.str "" 1294],.cons r1 (.cons r2 (.cons (.str _ _) .nil)),BindsTo.of_defaults (T:=816) rfl (X 816 {cls:=.type "tuple",data:=.seq #[.str "" 1294] 0} (by kernel_rfl)) rfl rfl rfl⟩
theorem ZcK{a:V}:Zd 3 (.ref 847) [a] σ (fun v σ'=>v=.obj 847 [("kind",.str "rel"),("worth",a),("name",.str "")]∧σ'=σ) noX:=by
 refine JV Zer fun n hn=>?_
 refine Zc (d:=1) ["self","worth","name"] QT (fun P=>by kernel_rfl) Zf ZdQ rfl rfl rfl fun N=>?_
 walk_at "w"
 refine Zw (v:=.ref 737) rfl (fun P=>by kernel_rfl) rfl rfl ⟨_,_,GD WZ,fun P=>by kernel_rfl,?_⟩
 walk_at "w"
 refine(XL (up_self ..) No).u (Nat.le_refl 1) ?_
 rintro _ _ ⟨rfl,rfl⟩
 walk_at "w"
 refine⟨_,_,_,_,_,rfl,up_self ..,Dd,rfl,?_⟩
 walk_at "w"
 refine⟨_,_,_,_,_,rfl,up_self ..,Nn,rfl,?_⟩
 walk_at "w"
 refine⟨rfl,_,?_,rfl,rfl⟩
 simp only[ZQ]
 rfl
theorem Zbj{a b c:V}:YY Jb [a,b,c] ["self","name","operands","prefix"] [a,b,c,.str ""]:=fun w g s xs X r=>by
 cases r with
 |cons r1 r=>cases r with
 |cons r2 r=>cases r with
 |cons r3 r=>cases r;exact⟨[_,_,_,.str "" 1344],.cons r1 (.cons r2 (.cons r3 (.cons (.str _ _) .nil))),BindsTo.of_defaults (T:=857) rfl (X 857 {cls:=.type "tuple",data:=.seq #[.str "" 1344] 0} (by kernel_rfl)) rfl rfl rfl⟩
theorem BP{a:V}{ops:List V}(hz:ops.length≤1000):Zd 3 (.ref 900) [a,.tup ops] σ (fun v σ'=>v=.obj 900 [("name",a),("operands",.tup ops),("prefix",.str "")]∧σ'=σ) noX:=by
 refine JV HB fun n hn=>?_
 refine Zc (d:=1) ["self","name","operands","prefix"] Jb (fun P=>by kernel_rfl) Zf Zbj rfl rfl rfl fun N=>?_
 walk_at "w"
 refine⟨_,_,_,_,_,rfl,up_self ..,Xy,rfl,?_⟩
 walk_at "w"
 refine YH (v:=.type "tuple") rfl (fun P=>by kernel_rfl) (fun P=>by kernel_rfl) rfl ⟨trivial,?_⟩
 walk_at "w"
 refine Xi rfl (Nat.le_trans hz (by decide)) ?_
 walk_at "w"
 refine⟨_,_,_,_,_,rfl,up_self ..,V3,rfl,?_⟩
 walk_at "w"
 refine⟨_,_,_,_,_,rfl,up_self ..,Wg,rfl,?_⟩
 walk_at "w"
 refine⟨rfl,_,?_,rfl,rfl⟩
 simp only[ZQ]
 rfl
theorem Kb{a b c e:V}:Zd 3 (.ref 260) [a,b,c,e] σ (fun v σ'=>v=.obj 260 [("instruction",a),("length",b),("form",c),("prefixes",e)]∧σ'=σ) noX:=by
 refine JV OB fun n hn=>?_
 refine Zc (d:=1) ["self","instruction","length","form","prefixes"] Uh (fun P=>by kernel_rfl) Zf (ZcM fun x y z w v=>rfl) rfl rfl rfl fun N=>?_
 walk_at "w"
 refine⟨_,_,_,_,_,rfl,up_self ..,VO,rfl,?_⟩
 walk_at "w"
 refine⟨_,_,_,_,_,rfl,up_self ..,Ky,rfl,?_⟩
 walk_at "w"
 refine⟨_,_,_,_,_,rfl,up_self ..,GL,rfl,?_⟩
 walk_at "w"
 refine⟨_,_,_,_,_,rfl,up_self ..,Xz,rfl,?_⟩
 walk_at "w"
 refine⟨rfl,_,?_,rfl,rfl⟩
 simp only[ZQ]
 rfl
end
end
section
section
variable{w:World}{A:Around}{E:Value→Shared→Prop}{h:Heap}{g:Array GenState}{dr:Drawn}{t:Nat}{os:OsState}
noncomputable abbrev YF(C t:Addr):Obj:={cls:=.ref C,data:=.fields #[.ref t,.none,.none,.none,.bool false,.none]}
theorem Wb(P:Params):(KK P).lookup 71=some (excClassObj "MachineError" "MachineError" 71 70 [.ref 46] [.ref 46,.type "Exception",.type "BaseException",.type "object"] true [] [] false none none (some (.ref 62)) none (some (.str "MachineError" 250)) (some (.str "MachineError" 258)) (some (.bool true)) "Exception.__new__"):=by kernel_rfl
theorem at46(P:Params):(KK P).lookup 46=some (excClassObj "MintError" "MintError" 46 45 [.type "Exception"] [.type "Exception",.type "BaseException",.type "object"] true [] [.ref 59,.ref 71] false none none (some (.ref 22)) none (some (.str "MintError" 196)) (some (.str "MintError" 204)) (some (.bool true)) "Exception.__new__"):=by kernel_rfl
theorem ZeA(P:Params):findIn (KK P) (.ref 71) "__init__" =some (some (.ref 36)):=by kernel_rfl
theorem Zgn(P:Params):typeIn (KK P) (.ref 36)=some (.type "function"):=by kernel_rfl
theorem BF{rest:List Value}{Q:Unit→Shared→Prop}(X:(KK w.params).In h)(hq:Q () ⟨h,g,dr,t,os⟩):wpAny (model PW w) A (checkBuiltinCall "Exception.__new__" ⟨.ref 71::rest,[]⟩) Q E ⟨h,g,dr,t,os⟩:=by
 have hC:=X _ _ (Wb w.params)
 have F:=PySem.F.excBase_Exception
 have hcont:([Value.ref 71,.ref 46,.type "Exception",.type "BaseException",.type "object"]).contains (.type "Exception")=true:=by decide
 have hstar:=F.noStar
 simp only[checkBuiltinCall,F.newKind,F.newSplit,F.newRow]
 repeat (first|refine wpAny_loadPart_at hC ?_| (refine wpAny_isSubtype_exc hC ?_;rw[hcont])|refine wpAny_staticBase_exc hC ?_|refine wpAny_madeBy_exc hC ?_|simp only[bne_self_eq_false,Bool.false_eq_true,if_false]|wp_step)
 exact hq
theorem ZdE{rest:List Value}{R:Result→Shared→Prop}(X:(KK w.params).In h)
  (hq:R (.ok (.ret (.ref (h.objs.size+1)))) ⟨(h.push {cls:=.type "tuple",data:=.seq rest.toArray}).push (YF 71 h.objs.size),g,dr,t,os⟩) (hrest:rest.length≤sizeLine:=by size_fits):
  codeAny (model PW w) A (.builtin "Exception.__new__" ⟨.ref 71::rest,[]⟩) R ⟨h,g,dr,t,os⟩:=by
 have hC:=X _ _ (Wb w.params)
 have Fn:=PySem.F.excBase_Exception
 have hends:=Fn.ends
 have hcB:([Value.ref 71,.ref 46,.type "Exception",.type "BaseException",.type "object"]).contains (.type "Exception")=true:=by decide
 have hcA:([Value.ref 71,.ref 46,.type "Exception",.type "BaseException",.type "object"]).contains (.type "AttributeError")=false:=by decide
 have hcN:([Value.ref 71,.ref 46,.type "Exception",.type "BaseException",.type "object"]).contains (.type "NameError")=false:=by decide
 refine codeAny_builtinAt Fn.entry ?_
 unfold Builtin.«BaseException.__new__»
 refine PySem.wpAt_bind ?_
 show PySem.wpAt _ _ _ (stack>>=_) _ _ _
 refine PySem.wpAt_bind (PySem.wpAt_stack fun p below=>PySem.wpAt_of_wpAny ?_)
 wp_walk
 refine PySem.wpAt_of_wpAny ?_
 rw[Fn.owner]
 repeat (first|with_reducible refine wpAny_madeHere_exc Fn.canon hC ?_|with_reducible refine wpAny_loadPart_at hC ?_| (with_reducible refine wpAny_isSubtype_exc hC ?_;first|rw[hcB]|rw[hcA]|rw[hcN])|wp_step)
 show R _ _
 rw[Heap.size_push]
 exact hq
theorem BE{x:Value}{Q:Fin→Shared→Prop}(X:(KK w.params).In h)
  (hq:codeAny (model PW w) A (.call (.ref 36) ⟨[.ref (h.objs.size+1),x],[]⟩) (fun r s'=>match r with| .ok (.ret v)=>v=.none∧Q (.done (.ret (.ref (h.objs.size+1)))) s'| .ok _=>False| .error e=>E e s')
   ⟨(h.push {cls:=.type "tuple",data:=.seq #[x]}).push (YF 71 h.objs.size),g,dr,t,os⟩):
  wpAny (model PW w) A (Builtin.«type.__call__» ⟨.ref 71::[x],[]⟩) Q E ⟨h,g,dr,t,os⟩:=by
 have hC:=X _ _ (Wb w.params)
 have F:=PySem.F.excBase_Exception
 repeat (first|with_reducible refine wpAny_loadPart_at hC ?_|with_reducible refine wpAny_madeBy_exc hC ?_|wp_step)
 refine codeAny_call_builtin_code (Code.quiet_builtin _ F.quiet) (BF X ?_)
 refine ZdE X ?_
 show wpAny _ _ _ _ _ _
 have k:∀b o,h.get? b=some o→((h.push {cls:=.type "tuple",data:=.seq #[x]}).push (YF 71 h.objs.size)).get? b=some o:=fun b o e=>Heap.get?_push_of_some _ (Heap.get?_push_of_some _ e)
 have X1:(KK w.params).In ((h.push {cls:=.type "tuple",data:=.seq #[x]}).push (YF 71 h.objs.size)):=fun a o e=>k _ _ (X a o e)
 have hC₁:=X1 _ _ (Wb w.params)
 have hget:((h.push {cls:=.type "tuple",data:=.seq #[x]}).push (YF 71 h.objs.size)).get? (h.objs.size+1)=some (YF 71 h.objs.size):=by heap_get
 have hcC:([Value.ref 71,.ref 46,.type "Exception",.type "BaseException",.type "object"]).contains (.ref 71)=true:=by decide
 unfold isInstance
 repeat (first|with_reducible refine wpAny_loadPart_at hget ?_| (with_reducible refine wpAny_isSubtype_exc hC₁ ?_;rw[hcC])|wp_step)
 show wpAny _ _ (typeLookup (.ref 71) _) _ _ _
 refine(looks_findIn (M:=model PW w) X1 (ZeA _)).here ?_
 dsimp only
 refine wpAny_holding (wpAny_bind ((bind_fn (M:=model PW w) X1 (.ref (h.objs.size+1)) (Zgn _)).here ?_))
 dsimp only
 refine wpAny_bind (wpAny_call (codeAny_mono hq fun r s' hr=>?_))
 cases r with
 |error e=>exact hr
 |ok f=>
  cases f with
  |ret v=>
   obtain⟨rfl,hr⟩:=hr
   refine wpAny_pure ?_
   dsimp only
   rw[if_neg (by decide)]
   exact wpAny_pure hr
  |_=>exact hr.elim
theorem HQ{x:Value}{Q:Value→Shared→Prop}(X:(KK w.params).In h)
  (hq:codeAny (model PW w) (A.under (.builtin "type.__call__" ⟨.ref 71::[x],[]⟩)) (.call (.ref 36) ⟨[.ref (h.objs.size+1),x],[]⟩) (fun r s'=>match r with| .ok (.ret v)=>v=.none∧Q (.ref (h.objs.size+1)) s'| .ok _=>False| .error e=>E e s')
   ⟨(h.push {cls:=.type "tuple",data:=.seq #[x]}).push (YF 71 h.objs.size),g,dr,t,os⟩):
  wpAny (model PW w) A (call (.ref 71) [x]) Q E ⟨h,g,dr,t,os⟩:=by
 have hC:=X _ _ (Wb w.params)
 have f1:=tc_lookup
 have f2:=tc_bind (.ref 71)
 have hT:(⟨h,g,dr,t,os⟩:Shared).TypeIs (.ref 71) "type" :=⟨_,hC,rfl⟩
 refine wpAny_call (codeAny_of_tree ?_)
 show wpAny _ _ (callAny (.ref 71) _) _ _ _
 repeat (any_goals (first|assumption|with_reducible refine wpAny_loadPart_at hC ?_|wp_step))
 refine⟨rfl,?_⟩
 refine codeAny_call_builtin_at (Code.quiet_builtin _ (by decide+kernel)) entry_typeCall (wpAny_check_type_call_sub hC (BE X ?_))
 refine codeAny_mono hq fun r s' hr=>?_
 cases r with
 |error e=>exact hr
 |ok f=>cases f<;>first|exact hr|exact hr.elim
theorem Zca{s:Shared}{name:Str}{v:Value}{pl:Sem Bool}{Q:Value×List Value→Shared→Prop}(X:(KK w.params).In s.heap)(e:∀P,findCls (KK P) (.type "Exception") (.type "type") name=some (.val v))(hh:handedIn v=true)
  (h:Q (v,[]) {s with toks:=s.toks+1}):wpAny (model PW w) A (getMethod (.type "Exception") name pl) Q E s:=by
 have hstub:opaqueClassAbove (.type "Exception")=pure none:=by unfold opaqueClassAbove;dsimp only;rw[show Manifest.isStub "Exception" =false by decide+kernel];rfl
 have ht:typeOf (.type "Exception")=pure (.type "type"):=by first|rfl|kernel_rfl
 have L0:Looks (model PW w) s.heap (typeOf (.type "Exception")) (.type "type"):=Looks.of_pure ht
 have hg:∀P,findIn (KK P) (.type "type") "__getattribute__" =some (some (.builtin "type.__getattribute__")):=fun P=>by kernel_rfl
 unfold getMethod specialOf
 refine wpAny_bind (wpAny_bind (L0.here ((looks_findIn X (hg _)).here ?_)))
 dsimp only
 rw[if_pos canon_tga]
 refine wpAny_bind (wpAny_mono (Q:=fun v=>Q (v,[])) (E:=E) ?_ (fun q_ q_ z=>wpAny_pure z) fun q_ q_ z=>z)
 have LO:Looks (model PW w) s.heap (opaqueClassAbove (.type "Exception")) none:=Looks.of_pure hstub
 exact cls_open X LO L0 (hg _) (looks_hook X (r:=none) (by rfl)) (by show subIn (KK _) _ _=_;rfl) (e _)
  (wpAny_pure (by show wpAny _ _ (handedOut v) _ _ _;rw[handedOut_of hh];exact wpAny_pure h))
theorem Zcb(P:Params):findCls (KK P) (.type "Exception") (.type "type") "__init__" =some (.val (.builtin "Exception.__init__")):=by kernel_rfl
theorem BG{s:Shared}{a t:Addr}{x:Value}{Q:Value→Shared→Prop}(X:(KK w.params).In s.heap)(ha:s.heap.get? a=some (YF 71 t))
  (h:∀s' t',But a s.heap s'.heap→s'.heap.get? a=some (YF 71 t')→s'.gens=s.gens→s'.os=s.os→Q .none s'):wpAny (model PW w) A (call (.builtin "Exception.__init__") [.ref a,x]) Q E s:=by
 have F:=PySem.F.excBase_Exception
 obtain⟨hp,g,dr,tk,os⟩:=s
 have hC:=X _ _ (Wb w.params)
 have hcB:([Value.ref 71,.ref 46,.type "Exception",.type "BaseException",.type "object"]).contains (.type "Exception")=true:=by decide
 refine wpAny_call (codeAny_call_builtin F.init.plain F.initEntry ?_)
 have hshort:=F.noStar
 simp only[checkBuiltinCall,F.initKind,F.initSplit,F.initRow]
 repeat (first| (with_reducible refine wpAny_loadPart_at ha ?_)|with_reducible refine wpAny_loadPart_at hC ?_| (with_reducible refine wpAny_isSubtype_exc hC ?_;rw[hcB])|wp_step)
 exact h _ hp.objs.size (fun b o n e=>(Heap.get?_update_ne _ _ _ _ n).trans (Heap.get?_push_of_some _ e)) (Heap.get?_update_self _ (Heap.get?_push_of_some _ ha) rfl) rfl rfl
end
section
variable{w:World}{os₀:OsState}{lv:Option Addr}{d:Nat}{c:Ctx}{A:Around}{env:Env}{k k' g g':Frz}{ρ ρ':Loc}{σ σ':Hp}{s s':Shared}{X:Addr→Loc→Hp→Prop}{a:Addr}
set_option tactic.hygienic true in
theorem St.rekeep(S:St w os₀ lv k g σ s){o o':Obj}(ke:k a=some o)(hne:lv≠some a)(b:But a s.heap s'.heap)(p:s'.heap.get? a=some o')(hgen:s'.gens=s.gens)(hos:s'.os=s.os):St w os₀ lv (put k a o') g σ s':=by
 have ga:g a=none:=S.kg _ _ ke
 have st:∀{b'},k b'=none→∀o,s.heap.get? b'=some o→s'.heap.get? b'=some o:=fun {b'} q o e=>b _ _ (fun z=>by rw[z,ke]at q;cases q) e
 have dn:∀{b'},k b'=none→put k a o' b'=none:=fun {b'} q=>Yz q (fun z=>by rw[z,ke]at q;cases q)
 refine⟨fun b' x n q=>?_,fun b' q=>⟨?_,?_⟩,fun b' x q=>b _ _ (fun z=>by rw[z,ga]at q;cases q) (S.fr _ _ q),fun a x q=>((S.ls a x q).stay (st (S.ls a x q).kn)).more (Le.refl g) (S.ls a x q).gn (dn (S.ls a x q).kn),
  fun a x q=>((S.ds a x q).stay (st (S.ds a x q).kn)).more (Le.refl g) (S.ds a x q).gn (dn (S.ds a x q).kn),fun a x q=>((S.ss a x q).stay (st (S.ss a x q).kn)).more (Le.refl g) (S.ss a x q).gn (dn (S.ss a x q).kn),
  fun a x q=>((S.is a x q).stay (st (S.is a x q).kn) (st (S.is a x q).d.kn)).more (Le.refl g) (S.is a x q).gn (dn (S.is a x q).kn) (S.is a x q).d.gn (dn (S.is a x q).d.kn),
  fun a x q=>((S.cs a x q).stay (st (S.cs a x q).kn)).more (Le.refl g) (S.cs a x q).gn (dn (S.cs a x q).kn),fun a x q=>((S.ts a x q).stay (st (S.ts a x q).kn)).more (Le.refl g) (S.ts a x q).gn (dn (S.ts a x q).kn),
  S.sd,S.id,S.K,S.nf,fun b' x q=>?_,?_,hgen.trans S.gens,hos.trans S.os⟩
 ·unfold put at q;split at q
  ·rename_i z;subst z;cases q;exact⟨_,p,fun q_=>rfl⟩
  ·rename_i z
   obtain⟨sl,e,q2⟩:=S.kp b' x n q
   exact⟨sl,b _ _ z e,q2⟩
 ·unfold put;split
  ·rfl
  ·exact(S.lv b' q).1
 ·obtain⟨o2,e⟩:=(S.lv b' q).2
  exact⟨o2,b _ _ (fun z=>hne (by rw[←z];exact q)) e⟩
 ·unfold put at q;split at q
  ·rename_i z;subst z;exact ga
  ·exact S.kg b' x q
 ·unfold put;split
  ·rfl
  ·exact S.m2
noncomputable def del(k:Frz)(a:Addr):Frz:=fun b=>if b=a then none else k b
theorem Zcg(k:Frz)(a:Addr):del k a a=none:=if_pos rfl
theorem DK(k:Frz){a b:Addr}(n:b≠a):del k a b=k b:=if_neg n
theorem ZeG(k:Frz)(a:Addr):Le (del k a) k:=fun b o e=>by
 unfold del at e;split at e
 ·cases e
 ·exact e
theorem Jc.re(F:Jc k c.lty A env)(h:∀b o,k b=some o→o.cls=.type "frame" →k' b=some o):Jc k' c.lty A env:=by
 obtain⟨top,fr,f1,f2,f3⟩:=F
 refine⟨top,fr,f1,f2,fun e he=>?_⟩
 obtain⟨x1,L,x2,x3⟩:=f3 e he
 exact⟨x1,L,x2,x3.imp id fun⟨y0,o,y1,y2,y3⟩=>⟨y0,o,h _ _ y1 y2,y2,y3⟩⟩
theorem JI.re(F:JI w c.pin k g)(h:∀b o,k b=some o→o.cls=.type "dict" →k' b=some o):JI w c.pin k' g:=fun p m=>let⟨o,kvs,x,y,z⟩:=F p m;⟨o,kvs,h _ _ x y.cls,y,z⟩
theorem Sit.rekeep(S:Sit w os₀ d c A env k g ρ σ s){o o':Obj}(ke:k a=some o)(hne:env.locals≠a)(hc:o.cls=.ref 71)(b:But a s.heap s'.heap)(p:s'.heap.get? a=some o')(hgen:s'.gens=s.gens)(hos:s'.os=s.os):Sit w os₀ d c A env (put k a o') g ρ σ s':=by
 have nn:∀b x (T:String),k b=some x→x.cls=.type T→put k a o' b=some x:=fun b x T e q=>by
  rw[Ye]
  ·exact e
  ·intro z;rw[z,ke]at e;cases e;rw[hc]at q;cases q
 obtain⟨o1,a1,b1⟩:=S.lc
 obtain⟨m,⟨o2,es,ep,p2,q2⟩,r2⟩:=S.ns
 exact {S with st:=S.st.rekeep ke (fun q=>hne (Option.some.inj q)) b p hgen hos,ns:=⟨m,⟨o2,es,ep,b _ _ hne p2,q2⟩,r2⟩,lc:=⟨o1,b _ _ hne a1,b1⟩,pins:=S.pins.re fun b x e q=>nn b x _ e q,frs:=S.frs.re fun b x e q=>nn b x _ e q}
theorem Sit.unput(S:Sit w os₀ d c A env k g ρ σ s){o:Obj}(ke:k a=some o)(hne:env.locals≠a)(hsm:sysModules≠a)(hc:o.cls=.ref 71):Sit w os₀ d c A env (del k a) g ρ σ s∧Free σ a∧g a=none∧s.heap.get? a=some o:=by
 have nn:∀b x (T:String),k b=some x→x.cls=.type T→del k a b=some x:=fun b x T e q=>by
  rw[DK]
  ·exact e
  ·intro z;rw[z,ke]at e;cases e;rw[hc]at q;cases q
 have hm:(del k a sysModules).isSome=true:=by rw[DK _ hsm];exact S.st.m2
 have e1:=S.st.kp.at (fun q=>hne (Option.some.inj q)) ke (by rw[hc];simp)
 exact⟨{S with st:=S.st.kdown (ZeG k a) hm (fun b q=>by cases q;rw[DK _ hne];exact S.kl),pins:=S.pins.re fun b x e q=>nn b x _ e q,frs:=S.frs.re fun b x e q=>nn b x _ e q},S.st.freeOf ke,S.st.kg _ _ ke,e1⟩
structure Be(name:Str):Prop where
 set:∀P,findIn (KK P) (.ref 71) "__setattr__" =some (some (.builtin "object.__setattr__"))
 has:∀P,(clsIn (KK P) 71).any (·.hasDict)=true
 no:∀P,takerIn (KK P) 71 name=some none
theorem Zdp:Be "what" :=⟨fun P=>by kernel_rfl,fun P=>by kernel_rfl,fun P=>by kernel_rfl⟩
theorem ZfZ:Be "at" :=⟨fun P=>by kernel_rfl,fun P=>by kernel_rfl,fun P=>by kernel_rfl⟩
theorem Zgc(P:Params):(clsIn (KK P) 71).map (·.mro)=some [.ref 71,.ref 46,.type "Exception",.type "BaseException",.type "object"]:=by kernel_rfl
theorem GP{ox:Obj}{od:Option Obj}{name:Str}{tk:Tok}{v:Value}{R:Result→Shared→Prop}(X:(KK w.params).In s.heap)(I:W.InstAt s.heap a ox 71 od)(ok:Be name)
  (h:∀b,wpAny (model PW w) A.in1 (Builtin.ObjectAttr.storeInOwnDict (.ref a) (.ref 71) (.str name tk) name v b)
   (fun fin s'=>match fin with| .done f=>R (.ok f) s'| .again c'=>c'.quiet=true∧codeAny (model PW w) A c' R s') (fun e s'=>R (.error e) s') s):
  codeAny (model PW w) A (.call (.builtin "object.__setattr__") ⟨[.ref a,.str name tk,v],[]⟩) R s:=by
 have SF:=PySem.F.store_object
 obtain⟨cd,hc,ho⟩:=Option.map_eq_some_iff.mp (Zgc w.params)
 have sub:Looks (model PW w) s.heap (isInstance (.ref a) (.type "object")) true:=I.type.andThen (looks_mroIn X (by unfold mroIn;rw[hc,Option.bind_some,ho];decide))
 refine codeAny_call_builtin SF.slot.plain SF.entry (@check_slot (model PW w) _ _ s "object.__setattr__" "object" "__setattr__" (.ref a) [.str name tk,v] [] _ SF.kind SF.split sub (SF.args (.ref a) (.str name tk) v) ?_)
 obtain⟨attr,ha,hr⟩:=Option.bind_eq_some_iff.mp (ok.no w.params)
 have hm:Looks (model PW w) s.heap (mroOf (.ref 71)) cd.mro:=(looks_clsIn X hc).andThen .now
 have L3:Looks (model PW w) s.heap (Builtin.ObjectAttr.storeTaker? attr) none:=by
  cases attr with
  |none=>cases hr;exact .now
  |some a=>
   obtain⟨b,hb,hbb⟩:=Option.map_eq_some_iff.mp hr
   refine(looks_takesIn X hb).andThen ?_
   cases b
   ·exact .now
   ·cases hbb
 rw[osa_eq,refuse_eq]
 refine wpAny_bind (wpAny_bind (I.type.here (wpAny_bind (hm.here ?_))))
 rw[ho,refuseLoop_ref,refuseLoop_ref,PySem.F.store_Exception.passes]
 refine wpAny_pure (wpAny_bind (I.type.here (wpAny_bind ((looks_findIn X ha).here (wpAny_bind (L3.here ?_))))))
 exact h _
theorem ZdD{r:Rec}(hC:r.C=71){name:Str}{tk:Tok}{y:V}{x:Value}{R:Result→Shared→Prop}(S:St w os₀ lv k g σ s)(e:σ.is a=some r)(rx:VR w g y x)(ok:Be name)(hz:r.fs.length≤1000)
  (h:∀s',St w os₀ lv k g {σ with is:=up σ.is a (some {r with fs:=aset r.fs name y})} s'→(∀b o,b≠r.d→s.heap.get? b=some o→s'.heap.get? b=some o)→R (.ok (.ret .none)) s'):
  codeAny (model PW w) A (.call (.builtin "object.__setattr__") ⟨[.ref a,.str name tk,x],[]⟩) R s:=by
 have I:=S.is a r e
 obtain⟨o,p,ro⟩:=I.at_
 obtain⟨kvs,pd,q⟩:=I.d.at_
 obtain⟨od,pod,D⟩:=YQ pd
 have IA:W.InstAt s.heap a o 71 (some od):=⟨p,ro.cls.trans (by rw[hC]),ro.notCls,by rw[ro.dict];exact pod⟩
 refine GP S.KIn IA ok fun b=>?_
 obtain⟨cd,hc,hd'⟩:=any_some (ok.has w.params)
 have h1:=ro.cls
 have h2:=ro.dict
 have h3:=ro.notCls
 obtain⟨oc,odi,oda,osl⟩:=o
 dsimp only at h1 h2
 rw[hC]at h1
 subst h1 h2
 refine wpAny_bind (wpAny_pure (wpAny_bind (wpAny_bind (wpAny_loadPart p (wpAny_bind ((looks_clsIn S.KIn hc).here ?_))))))
 rw[hd']
 refine wpAny_pure (a:=some r.d) (wpAny_bind (wpAny_pure (wpAny_bind ?_)))
 refine WH pd fun h' hd hs=>?_
 obtain⟨od',es,ep,pod',_,hdd,_,hpp,_⟩:=id hd
 have hl:es.size≤sizeLine+1:=by
  have e1:=hpp.length
  have e2:es.toList.length=es.size:=by simp
  have e3:=stored_length_le kvs name x
  have e4:=q.length
  rw[sizeLine_eq];lia
 refine wpAny_bind (wpAny_lookBehind pod' (by rw[hdd];exact pastItsLine_dict hl) ?_)
 have hb:But r.d s.heap h':=fun b o n e=>(hs.2 b n).trans e
 exact wpAny_pure (h _ (S.setI (s':={s with heap:=h',toks:=s.toks+1}) e hb hd (q.set (let⟨_,_,_,_,_,_,z⟩:=D;z) rx) rfl rfl) hb)
theorem ZdC{r:Rec}(hC:r.C=71){name:Str}{y:V}{x:Value}{Q':Unit→Shared→Prop}{E':Value→Shared→Prop}(S:Sit w os₀ d c A env k g ρ σ s)(e:σ.is a=some r)(rx:VR w g y x)(ok:Be name)(hz:r.fs.length≤1000)
  (h:∀s',Sit w os₀ d c A env k g ρ {σ with is:=up σ.is a (some {r with fs:=aset r.fs name y})} s'→(∀o,s.heap.get? a=some o→s'.heap.get? a=some o)→Q' () s'):wpAny (model PW w) A (setAttr (.ref a) name x) Q' E' s:=by
 have I:=S.st.is a r e
 obtain⟨o,p,ro⟩:=I.at_
 obtain⟨kvs,pd,q⟩:=I.d.at_
 obtain⟨od,pod,D⟩:=YQ pd
 refine set_plain S.KIn (ox:=o) (od:=some od) ⟨p,ro.cls.trans (by rw[hC]),ro.notCls,by rw[ro.dict];exact pod⟩ (ok.set _) ?_
 have hl:env.locals≠r.d:=S.lne I.d.kn
 have hne:a≠r.d:=XE p pod (by rw[ro.cls,D.cls];simp)
 exact ZdD hC (S.toks (s.toks+1)).st e rx ok hz fun s' S' hb=>h s' (S.turn (Le.refl g) S' fun o e=>hb _ _ hl e) fun o e=>hb _ _ hne e
theorem ZbY(S:Sit w os₀ d c A env k g ρ σ s)(F:Free σ a)(hk:k a=none)(hg:g a=none){t:Addr}(p:s.heap.get? a=some (YF 71 t)){name:Str}{y:V}{x:Value}(rx:VR w g y x)(ok:Be name){Q':Unit→Shared→Prop}{E':Value→Shared→Prop}
  (h:∀s' dd vs,Sit w os₀ d c A env k g ρ {σ with is:=up σ.is a (some ⟨true,71,dd,[(name,y)]⟩)} s'→s'.heap.get? a=some (Yr 71 dd vs)→vs[1]? =some .none→Q' () s'):wpAny (model PW w) A (setAttr (.ref a) name x) Q' E' s:=by
 refine set_plain S.KIn (ox:=YF 71 t) (od:=none) ⟨p,rfl,rfl,trivial⟩ (ok.set _) ?_
 have S0:=S.toks (s.toks+1)
 have IA:InstAt ({s with toks:=s.toks+1}:Shared).heap a (YF 71 t) 71 none:=⟨p,rfl,rfl,trivial⟩
 refine GP S0.KIn IA ok fun b=>?_
 obtain⟨cd,hc,hd'⟩:=any_some (ok.has w.params)
 refine wpAny_bind (wpAny_pure (wpAny_bind (wpAny_bind (wpAny_loadPart p (wpAny_bind ((looks_clsIn S0.KIn hc).here ?_))))))
 rw[hd']
 dsimp only
 rw[if_neg (by decide),if_neg (by decide)]
 refine wpAny_bind (wpAny_alloc ?_)
 have p1:=Heap.get?_push_of_some {cls:=.type "dict",data:=.dict #[]} p
 refine wpAny_bind (wpAny_update p1 ?_)
 show wpAny _ _ (pure (some _)) _ _ _
 refine wpAny_pure ?_
 dsimp only
 have FD:=S0.st.fresh (Nat.le_refl _)
 have S1:=S0.push {cls:=.type "dict",data:=.dict #[]}
 generalize hf:(fun o:Obj=>({cls:=o.cls,dict:=some s.heap.objs.size,data:=o.data,slots:=o.slots}:Obj))=f
 have S2:=S1.other F hk hg f
 have ne:s.heap.objs.size≠a:=Nat.ne_of_gt (Heap.lt_size p)
 have pD:((s.heap.push {cls:=.type "dict",data:=.dict #[]}).update a f).get? s.heap.objs.size=some {cls:=.type "dict",data:=.dict #[]}:=(Heap.get?_update_ne _ _ _ _ ne).trans (Heap.get?_push_size _ rfl)
 have pa:((s.heap.push {cls:=.type "dict",data:=.dict #[]}).update a f).get? a=some (Yr 71 s.heap.objs.size #[.ref t,.none,.none,.none,.bool false,.none]):=by
  rw[←hf];exact Heap.get?_update_self _ p1 rfl
 have pd:((s.heap.push {cls:=.type "dict",data:=.dict #[]}).update a f).DictOf (PySem.strKind PW w) s.heap.objs.size []:=⟨_, #[],0,pD,⟨rfl,rfl,rfl⟩,rfl,(fun e he=>by simp at he),.nil,by simp⟩
 have S3:=S2.st.addI (a:=a) (r:=⟨true,71,s.heap.objs.size,[]⟩) ⟨hg,hk,⟨_,pa,by unfold JH;rw[if_pos rfl];exact⟨_,rfl⟩⟩,⟨FD.gn,FD.kn,[],pd,PR.nil⟩⟩ FD.ds FD.ss (fun b r' q_ e=>FD.d b r' e)
 have S4:=S2.turn (Le.refl g) S3 fun q_ e=>e
 unfold Builtin.ObjectAttr.storeInDict
 refine wpAny_bind (wpAny_pure (wpAny_bind ?_))
 refine WH pd fun h' hd hs=>?_
 obtain⟨od',es,ep,pod',_,hdd,_,hpp,_⟩:=id hd
 have hl:es.size≤sizeLine+1:=by
  have e1:=hpp.length
  have e2:es.toList.length=es.size:=by simp
  have e3:=stored_length_le ([]:List (Str×Value)) name x
  rw[sizeLine_eq]
  simp only[List.length_nil]at e3
  lia
 refine wpAny_bind (wpAny_lookBehind pod' (by rw[hdd];exact pastItsLine_dict hl) ?_)
 have hb:But s.heap.objs.size ((s.heap.push {cls:=.type "dict",data:=.dict #[]}).update a f) h':=fun b o n e=>(hs.2 b n).trans e
 have S5:=S3.setI (fs':=[(name,y)]) (s':={s with heap:=h',toks:=s.toks+1+1}) (up_self ..) hb hd ((PR.nil (α:=Str)).set (by simp) rx) rfl rfl
 simp only[ZQ]at S5
 have hL:env.locals≠s.heap.objs.size:=Nat.ne_of_lt S.llt
 refine wpAny_pure ?_
 exact h _ _ _ (S2.turn (Le.refl g) S5 fun o e=>hb _ _ hL e) (hb _ _ (Ne.symm ne) pa) rfl
theorem Wl(S:Sit w os₀ d c A env k g ρ σ s){x:Str}{pos:Pos}{v:V}{Q':Value→Shared→Prop}{E':Value→Shared→Prop}(hk:c.scope.names.lookup x=some .local)(hv:aget ρ x=some v)(hd:(x==("__debug__" :Str))=false)(h:∀y,VR w g v y→Q' y s):wpAny (model PW w) A (eval (.Name x pos) env) Q' E' s:=by
 obtain⟨m,a,b⟩:=S.ns
 have q:=b x
 rw[hv]at q
 obtain⟨y,e,r⟩:=q.some
 exact wpAny_Name (wpAny_loadName_local S.fn ((S.kindOf x).trans hk) a e (h y r)) hd
noncomputable abbrev WV(y:V):List (Str×V):=[("what",y),("at",.none)]
noncomputable abbrev Vr(a:Addr)(y:V):Loc:=[("self",.ref a),("what",y),("at",.none)]
set_option tactic.hygienic true in
theorem Zcc{N:Nat}{t:Addr}{y:V}(S:Sit w os₀ d (Yp Z6 N) A env k g (Vr a y) σ s)(ke:k a=some (YF 71 t))(hne:env.locals≠a)(hsm:sysModules≠a){Q':Flow→Shared→Prop}{E':Value→Shared→Prop}
  (h:∀g' s' dd vs,Le g g'→Sit w os₀ d (Yp Z6 N) A env (del k a) g' (Vr a y) {σ with is:=up σ.is a (some ⟨true,71,dd,WV y⟩)} s'→s'.heap.get? a=some (Yr 71 dd vs)→vs[1]? =some .none→Q' .next s'):wpAny (model PW w) A (execs (DW Z6) env) Q' E' s:=by
 have hA:A.handled=none:=S.hd
 refine wpAny_execs_cons (wpAny_Expr_any ?_ (by have e:=S.scope;unfold interactive;rw[e];rfl) rfl)
 refine' MethodCall_ (pl:=?pl) ?ev ?he
 case he=>exact rfl
 refine(show WE (Yp Z6 N) d _ (Vr a y) σ (fun v σ'=>v=.bi (.type "Exception")∧σ'=σ) YS from YH (v:=.type "Exception") rfl (fun P=>by kernel_rfl) (fun P=>by kernel_rfl) rfl ⟨rfl,rfl⟩).use S Qp fun v σ1 x g1 s1 l1 r S1 q_ q=>?_
 obtain⟨rfl,rfl⟩:=q
 obtain rfl:=r.biI
 refine Zca S1.KIn Zcb rfl ?_
 have S2:=S1.toks (s1.toks+1)
 refine callWith_of (P:=fun q_=>True) rfl (fun hp q_=>⟨.machine,.inr (.inl rfl),.now⟩) (evalArgs_plain ?_)
 refine(show WL (Yp Z6 N) d _ (Vr a y) σ1 (fun vs σ'=>vs=[.ref a,y]∧σ'=σ1) YS from Zh (YW rfl rfl rfl (Zh (YW rfl rfl rfl (ZW ⟨rfl,rfl⟩)) rfl)) rfl).use S2 Qp fun vs σ2 xs g2 s2 l2 r2 S3 q_ q=>?_
 obtain⟨rfl,rfl⟩:=q
 cases r2 with
 |cons r3 r4=>
 obtain rfl:=r3.refI
 cases r4 with
 |cons r5 r6=>
 cases r6
 refine⟨trivial,?_⟩
 have e3:=S3.st.kp.at (fun q=>hne (Option.some.inj q)) ke (by simp)
 refine BG S3.KIn e3 fun s4 t' hb p hgen hos=>?_
 have S4:=S3.rekeep ke hne rfl hb p hgen hos
 clear S3 S2 S1 S e3
 refine wpAny_execs_cons (plainObj_wpAny_Assign_Attribute ?_ rfl)
 refine(show WE (Yp Z6 N) d _ (Vr a y) σ2 (fun v σ'=>v=y∧σ'=σ2) YS from YW rfl rfl rfl ⟨rfl,rfl⟩).use S4 Qp fun v σ6 x6 g6 s6 l6 r6 S6 q_ q=>?_
 obtain⟨rfl,rfl⟩:=q
 refine(show WE (Yp Z6 N) d _ (Vr a v) σ6 (fun v σ'=>v=.ref a∧σ'=σ6) YS from YW rfl rfl rfl ⟨rfl,rfl⟩).use S6 Qp fun v7 σ7 x7 g7 s7 l7 r7 S7 q_ q=>?_
 obtain⟨rfl,rfl⟩:=q
 obtain rfl:=r7.refI
 obtain⟨S8,F8,g8,e8⟩:=S7.unput (put_self ..) hne hsm rfl
 have hk':∀o,del (put k a o) a=del k a:=fun o=>by funext b;unfold del put;split<;>rfl
 rw[hk']at S8
 refine ZbY S8 F8 (Zcg ..) g8 e8 (r6.mono l7) Zdp fun s9 dd vs S9 p9 v9=>?_
 refine wpAny_execs_cons (plainObj_wpAny_Assign_Attribute ?_ rfl)
 refine Wl S9 (x:="at") rfl rfl rfl fun x10 r10=>?_
 refine Wl S9 (x:="self") rfl rfl rfl fun x11 r11=>?_
 obtain rfl:=r11.refI
 refine ZdC rfl S9 (up_self ..) r10 ZfZ (by simp) fun s12 S12 k12=>?_
 simp only[ZQ]at S12
 exact wpAny_execs_nil (h g7 s12 dd vs (l1.trans (l2.trans (l6.trans l7))) S12 (k12 _ p9) v9)
theorem at29(P:Params):(KK P).lookup 29=some {cls:=.type "tuple",data:=.seq #[.none] 0}:=by kernel_rfl
set_option tactic.hygienic true in
theorem ZbZ{y:V}{x:Value}{Q' E':Value→Shared→Prop}(S:St w os₀ none k g σ s)(r:VR w g y x)(rm:Room (d+2) A)(hh:A.handled=none)(fr:Frames k A)
  (hQ:∀e dd vs g' s',σ.is e=none→Le g g'→St w os₀ none k g' {σ with is:=up σ.is e (some ⟨true,71,dd,WV y⟩)} s'→s'.heap.get? e=some (Yr 71 dd vs)→vs[1]? =some .none→Q' (.ref e) s'):wpAny (model PW w) A (call (.ref 71) [x]) Q' E' s:=by
  obtain⟨hp,gn,dr,tk,os⟩:=s
  have F2:Fresh k g σ (hp.objs.size+1):=S.fresh (Nat.le_succ hp.objs.size)
  have S1:St w os₀ none k g σ ⟨(hp.push {cls:=.type "tuple",data:=.seq #[x]}).push (YF 71 hp.objs.size),gn,dr,tk,os⟩:=(S.push {cls:=.type "tuple",data:=.seq #[x]}).push (YF 71 hp.objs.size)
  have e2:((hp.push {cls:=.type "tuple",data:=.seq #[x]}).push (YF 71 hp.objs.size)).get? (hp.objs.size+1)=some (YF 71 hp.objs.size):=by
   have:((hp.push {cls:=.type "tuple",data:=.seq #[x]}).push (YF 71 hp.objs.size)).get? (hp.push {cls:=.type "tuple",data:=.seq #[x]}).objs.size=some (YF 71 hp.objs.size):=Heap.get?_push_size _ rfl
   rwa [Heap.size_push]at this
  have S2:St w os₀ none (put k (hp.objs.size+1) (YF 71 hp.objs.size)) g σ ⟨(hp.push {cls:=.type "tuple",data:=.seq #[x]}).push (YF 71 hp.objs.size),gn,dr,tk,os⟩:=S1.hide (a:=hp.objs.size+1) F2.free e2 F2.kn F2.gn
  refine HQ S.KIn ?_
  have ha:Xh 36 Z6:=fun P=>by kernel_rfl
  have ok:=ha.ok w.params
  have fr2:Frames (put k (hp.objs.size+1) (YF 71 hp.objs.size)) (A.under (.builtin "type.__call__" ⟨.ref 71::[x],[]⟩)):=by
   obtain⟨fl,f1,f2⟩:=fr
   refine⟨fl,f1,fun e he=>?_⟩
   obtain⟨x1,L,o,x2,x3,x4⟩:=f2 e he
   exact⟨x1,L,o,x2,Js (.inl F2.kn) _ _ x3,x4⟩
  have rm2:Room (d+1) (A.under (.builtin "type.__call__" ⟨.ref 71::[x],[]⟩)):=rm.make
  refine codeAny_call_function rm2.dlt (S2.KIn _ _ (ha.at_ _)) rfl ok.co ok.gen rfl (codeRec_of S2.KIn (ha.code _)) ?_
  have hb:BindsTo (⟨(hp.push {cls:=.type "tuple",data:=.seq #[x]}).push (YF 71 hp.objs.size),gn,dr,tk,os⟩:Shared) Z6 ⟨[.ref (hp.objs.size+1),x],[]⟩ ((["self","what","at"]:List Str).zip [Value.ref (hp.objs.size+1),x,Value.none]):=
   BindsTo.of_defaults (T:=29) rfl (S2.KIn 29 _ (at29 _)) rfl rfl rfl
  refine hb _ _ _ _ ?_
  refine Gu (A:=A.under (.builtin "type.__call__" ⟨.ref 71::[x],[]⟩)) (fa:=36) (N:=fun n ρ' σ'=>ρ'=Vr (hp.objs.size+1) y∧σ'=σ) (ns:=["self","what","at"]) (vs:=[.ref (hp.objs.size+1),y,.none]) S2 hh ok.glob ok.blt ok.kind fr2 (.cons (.ref _) (.cons r (.cons .none .nil))) (fun n q_=>?hN) rfl fun n env o ρ' σ' s' hk hE hn SF B q_=>⟨SF.st.nolimit,?_⟩
  case hN=>
   rw[XZ _ _ _ rfl]
   exact Zg rfl (Zg rfl (Zg rfl ⟨rfl,rfl⟩))
  obtain⟨rfl,rfl⟩:=B
  have SS:Sit w os₀ d (Yp Z6 n) _ env (put (put k (hp.objs.size+1) (YF 71 hp.objs.size)) n o) g _ σ' s':=⟨SF,rm2.deeper,hh,hE _ rfl⟩
  subst hn
  have nn:env.locals≠hp.objs.size+1:=fun q=>by rw[←q,put_self]at hk;cases hk
  refine codeAny_func (Zcc SS (by rw[Ye _ _ (Ne.symm nn),put_self]) nn (fun q=>QI S F2.kn q.symm) fun g3 s3 dd vs l3 S3 p3 v3=>?_)
  have hk3:del (put (put k (hp.objs.size+1) (YF 71 hp.objs.size)) env.locals o) (hp.objs.size+1)=put k env.locals o:=by
   funext b
   unfold del put
   split
   ·rename_i z;subst z;rw[if_neg (Ne.symm nn)];exact F2.kn.symm
   ·rfl
  rw[hk3]at S3
  rw[Ye _ _ nn]at hk
  exact⟨rfl,hQ _ dd vs g3 _ F2.is l3 (S3.st.retire hk S.m2) p3 v3⟩
end
end
section
section
variable{w:World}{os₀:OsState}{lv:Option Addr}{d:Nat}{c:Ctx}{A:Around}{env:Env}{k k' g g':Frz}{ρ ρ':Loc}{σ σ':Hp}{s s':Shared}{X:Addr→Loc→Hp→Prop}{a:Addr}
theorem O6{x:Sem Value}{Q':Flow→Shared→Prop}{E':Value→Shared→Prop}(hh:A.handled=none)
  (h:wpAny (model PW w) A x (fun v s₁=>∃a dd vs,v=.ref a∧(KK w.params).In s₁.heap∧s₁.heap.get? a=some (Yr 71 dd vs)∧vs[1]? =some .none∧E' (.ref a) s₁) E' s):wpAny (model PW w) A (raiseStmt env (some x) none) Q' E' s:=by
 have hcB:([Value.ref 71,.ref 46,.type "Exception",.type "BaseException",.type "object"]).contains (.type "BaseException")=true:=by decide
 unfold raiseStmt
 refine wpAny_bind (wpAny_mono h (fun v s₁ h₁=>?_) fun q_ q_ x=>x)
 obtain⟨e,dd,vs,rfl,K,he,h1,hE⟩:=h₁
 obtain⟨hp,g,dr,tk,os⟩:=s₁
 have hC:=K _ _ (Wb w.params)
 repeat (first|with_reducible refine wpAny_loadPart_at he ?_|with_reducible refine wpAny_loadPart_at hC ?_| (with_reducible refine wpAny_isSubtype_exc hC ?_;rw[hcB])|with_reducible refine wpAny_field he rfl h1 ?_|wp_step)
 exact wpAny_raiseNew_none hh hE
theorem Ze4(P:Params):keepIn (KK P) (.ref 71)=true:=by kernel_rfl
theorem GA{np cpos pos:Pos}{e:Expr}{N:Loc→Hp→Prop}{R:V→Hp→Prop}(hh:c.hd=none)(hn:c.scope.names.lookup ("MachineError" :Str)=some .globalImplicit)(hs:JM [e]=true)
  (h:WE c (d+2) e ρ σ (fun y σ1=>∀a dd,σ1.is a=none→X a ρ {σ1 with is:=up σ1.is a (some ⟨true,71,dd,WV y⟩)}) X):WX c (d+2) (.Raise (some (.Call (.Name "MachineError" np) [e] [] cpos)) none pos) ρ σ N R X:=
 WX.mk fun w os₀ A env k g s Q' E' S hE hN hR=>by
  have hA:A.handled=none:=by rw[S.hd,hh];rfl
  rw[arm_exec_Raise]
  refine wpAny_bind (wpAny_standAt (O6 hA ?_))
  show wpAny (model PW w) A (do let v←eval (.Call (.Name "MachineError" np) [e] [] cpos) env;standAt pos;pure v) _ _ _
  refine wpAny_bind (wpAny_Call_NameR ?_)
  have hname:WE c (d+2) (.Name "MachineError" np) ρ σ (fun f σ0=>f=.ref 71∧σ0=σ) X:=Zw (v:=.ref 71) hn (fun P=>by kernel_rfl) rfl rfl ⟨rfl,rfl⟩
  refine hname.use S hE fun f σ0 fv g1 s1 l1 rf S1 hE1 h1=>?_
  obtain⟨rfl,rfl⟩:=h1
  obtain rfl:=rf.refI
  refine callWith_of (P:=fun hp=>Frag.In (KK w.params) hp) (by rw[Jj hs];simp[backTo]) (fun hp P=>keeps_K (Ze4 w.params) hp P) ?_
  have hl:WL c (d+2) [e] ρ σ0 (fun vs σ2=>∃y,vs=[y]∧∀a dd,σ2.is a=none→X a ρ {σ2 with is:=up σ2.is a (some ⟨true,71,dd,WV y⟩)}) X:=Zh (h.mono fun y σ1 q=>ZW ⟨y,rfl,q⟩) (Bool.and_eq_true_iff.mp hs).1
  have fin:wpAny (model PW w) A (spliced (backTo cpos (starEach [e] env))) (fun xs s'=>Frag.In (KK w.params) s'.heap∧wpAny (model PW w) A (call (.ref 71) ([]++xs)) (fun v s'=>wpAny (model PW w) A (do standAt pos;pure v) (fun v s₁=>∃a dd vs,v=.ref a∧(KK w.params).In s₁.heap∧s₁.heap.get? a=some (Yr 71 dd vs)∧vs[1]? =some .none∧E' (.ref a) s₁) E' s') E' s') E' s1:=
   hl.use S1 hE1 fun vs σ1 xs g2 s2 l2 r2 S2 hE2 q=>by
    obtain⟨y,rfl,q⟩:=q
    cases r2 with
    |cons r3 r4=>
    cases r4
    obtain⟨o,lo,lc⟩:=S2.lc
    refine⟨S2.KIn,ZbZ (S2.st.seal lo) r3 S2.room hA (Jc.put S2.toZU lo S2.frs) fun e dd vs g' s' e0 l S' p v=>wpAny_bind (wpAny_standAt (wpAny_pure ?_))⟩
    have S3:=S2.reopen lo l S'
    exact⟨e,dd,vs,rfl,S3.KIn,p,v,hE2 _ _ _ g' _ l S3 ⟨_,_,p,rfl,.inl v⟩ (q e dd e0)⟩
  rw[Jj hs]at fin⊢
  exact evalArgs_plain fin
theorem Gr(S:Sit w os₀ d c A env k g ρ σ s){x:Str}{pos:Pos}{v:Value}{Q':Value→Shared→Prop}{E':Value→Shared→Prop}(hk:c.scope.names.lookup x=some .globalImplicit)(hn:∀P,nsIn (KK P) mainGlobals x=some (some v))(hd:(x==("__debug__" :Str))=false)(h:Q' v s):wpAny (model PW w) A (eval (.Name x pos) env) Q' E' s:=
 Name_function_global S.fn ((S.kindOf x).trans hk) (loadGlobal_global (by rw[S.glob];exact S.st.main) (mg_of S.KIn S.st.main (hn _)) h) hd
theorem DH{Q':Bool→Shared→Prop}{E':Value→Shared→Prop}{dd:Addr}{vs:Array Value}(K:(KK w.params).In s.heap)(he:s.heap.get? a=some (Yr 71 dd vs))(h:Q' true s):wpAny (model PW w) A (excMatches (.ref a) (.ref 71)) Q' E' s:=by
 obtain⟨hp,g,dr,tk,os⟩:=s
 have hC:=K _ _ (Wb w.params)
 have hcB:([Value.ref 71,.ref 46,.type "Exception",.type "BaseException",.type "object"]).contains (.type "BaseException")=true:=by decide
 have hcC:([Value.ref 71,.ref 46,.type "Exception",.type "BaseException",.type "object"]).contains (.ref 71)=true:=by decide
 have f:=tc_notTuple
 unfold excMatches
 repeat (first| (with_reducible refine wpAny_loadPart_at he ?_)|with_reducible refine wpAny_loadPart_at hC ?_| (with_reducible refine wpAny_isSubtype_exc hC ?_;first|rw[hcB]|rw[hcC])|wp_step)
 exact h
theorem ZaP{Q':Bool→Shared→Prop}{E':Value→Shared→Prop}{dd:Addr}{vs:Array Value}(K:(KK w.params).In s.heap)(he:s.heap.get? a=some (Yr 71 dd vs))(h:Q' true s):wpAny (model PW w) A (excMatches (.ref a) (.ref 46)) Q' E' s:=by
 obtain⟨hp,g,dr,tk,os⟩:=s
 have hC:=K _ _ (Wb w.params)
 have hD:=K _ _ (at46 w.params)
 have hcB:([Value.ref 46,.type "Exception",.type "BaseException",.type "object"]).contains (.type "BaseException")=true:=by decide
 have hcC:([Value.ref 71,.ref 46,.type "Exception",.type "BaseException",.type "object"]).contains (.ref 46)=true:=by decide
 have f:=tc_notTuple
 unfold excMatches
 repeat (first| (with_reducible refine wpAny_loadPart_at he ?_)|with_reducible refine wpAny_loadPart_at hD ?_|with_reducible refine wpAny_loadPart_at hC ?_| (with_reducible refine wpAny_isSubtype_exc hD ?_;rw[hcB])| (with_reducible refine wpAny_isSubtype_exc hC ?_;rw[hcC])|wp_step)
 exact h
theorem Sit.mark(S:Sit w os₀ d c A env k g ρ σ s)(a:Addr):Sit w os₀ d {c with hd:=some a} (A.mark (some (.ref a))) env k g ρ σ s:=
 {S with room:=⟨S.room.depth,S.room.units⟩,hd:=rfl,frs:=S.frs}
theorem Sit.unmark{A':Around}{h':Option Addr}{g2:Frz}{ρ2:Loc}{σ2:Hp}{s2:Shared}(S0:Sit w os₀ d c A env k g ρ σ s)(S:Sit w os₀ d {c with hd:=h'} A' env k g2 ρ2 σ2 s2):Sit w os₀ d c A env k g2 ρ2 σ2 s2:=
 {S with room:=S0.room,hd:=S0.hd,frs:=S0.frs}
noncomputable def Kx(C:Addr):Prop:=C=46∨C=71
set_option tactic.hygienic true in
theorem Dz(S:Sit w os₀ d c A env k g ρ σ s)(hc:c.lty="frame"){r:Rec}(e:σ.is a=some r)(hx:r.x=true)(hC:r.C=71)(F:Flies k g σ s a env.locals){x:Str}{np pos:Pos}{C:Addr}(hC2:Kx C)
  (hk:c.scope.names.lookup x=some .globalImplicit) (hn:∀P,nsIn (KK P) mainGlobals x=some (some (.ref C))) (hd:(x==("__debug__" :Str))=false)
  {b₀:Stmt} {suite:List Stmt} {rest:List ExceptHandler} {N:Loc→Hp→Prop} {R:V→Hp→Prop} (h:WS {c with hd:=some a} d (b₀::suite) ρ σ N R YS) {Q':Flow→Shared→Prop} {E':Value→Shared→Prop}
  (hN:∀ρ' σ' g' s',Le g g'→Sit w os₀ d c A env k g' ρ' σ' s'→N ρ' σ'→Q' .next s') (hR:∀v ρ' σ' x g' s',Le g g'→VR w g' v x→Sit w os₀ d c A env k g' ρ' σ' s'→R v σ'→Q' (.ret x) s'):
  wpAny (model PW w) A (noteFrame (.ref a) env) (fun q_ s₂=>wpAny (model PW w) A (setFlight (.ref a) none) (fun q_ s₃=>wpAny (model PW w) A (handleBy (.ref a) env (.ExceptHandler (some (.Name x np)) none (b₀::suite) pos::rest)) Q' E' s₃) E' s₂) E' s:=by
 refine UV S hc e hx F fun s2 vs T S2 h1 h2 H=>?_
 refine YK S2 e hx h1 h2 H none fun s3 S3 h3 H3=>?_
 rw[hC]at h3
 have S4:=S3.mark a
 refine wpAny_handleBy_cons (codeAny_handlers_test (Gr S4 hk hn hd ?_)) (by intro q;cases q)
 have:wpAny (model PW w) (A.mark (some (.ref a))) (setFlight (.ref a) none) (fun q_ s₁=>wpAny (model PW w) (A.mark (some (.ref a))) (execs (b₀::suite) env) Q' (notedBy (model PW w) (A.mark (some (.ref a))) env (cameBackBy (model PW w) A env E')) s₁) (notedBy (model PW w) (A.mark (some (.ref a))) env (cameBackBy (model PW w) A env E')) s3:=by
  refine YK S4 e hx (by rw[hC];exact h3) h2 (H3.mono fun q_ q=>q) none fun s5 S5 h5 H5=>?_
  exact h.use S5 Qp (fun ρ' σ' g' s' l S' q_ q=>hN ρ' σ' g' s' l (S.unmark S') q) fun v ρ' σ' x g' s' l r S' q=>hR v ρ' σ' x g' s' l r (S.unmark S') q
 rcases hC2 with rfl|rfl
 ·exact ZaP S3.KIn h3 (codeAny_handlers_suite this)
 ·exact DH S3.KIn h3 (codeAny_handlers_suite this)
theorem Za6{M:Model}{E:Value→Shared→Prop}{a:Addr}{m}{name:Str}{c:Value}{Q:Bool→Shared→Prop}(hn:s.heap.Ns a m)(hc:∀o,s.heap.get? a=some o→o.cls=c)
  (hQ:∀h' m',h'.Ns a m'→Heap.SameBut a s.heap h'→(∃o,h'.get? a=some o∧o.cls=c)→Q (m name).isSome {s with heap:=h'}):wpAny M A (nsDel a name) Q E s:=by
 obtain⟨o,es,ep,ho,hd,hk,hm⟩:=id hn
 have hany:es.any (·.refKey)=false:=by
  rw[Array.any_eq_false'];intro e he;obtain⟨n,t,h⟩:=hk e he;simp[DictEntry.refKey,h]
 have hsome:(m name).isSome=es.any (·.key.isStr name):=by
  rw[←hm name];simp only[nsFind,findBy,Option.isSome_map]
  rw[Bool.eq_iff_iff];simp only[Array.find?_isSome,Array.any_eq_true]
  constructor
  ·rintro ⟨x,hx,hp⟩;obtain⟨i,hi,rfl⟩:=Array.mem_iff_getElem.mp hx;exact⟨i,hi,hp⟩
  ·rintro ⟨i,hi,hp⟩;exact⟨_,Array.getElem_mem hi,hp⟩
 have hhas:nsHas name o=pure (es.any (·.key.isStr name)):=by
  rw[nsHas_eq];unfold nsHasByArray;rw[hd]
  show(if(es.any fun x=>x.key.isStr name)=true then _ else _)=_
  generalize (es.any fun x=>x.key.isStr name)=b
  cases b<;>simp[hany]
 unfold nsDel
 refine wpAny_bind (wpAny_loadPart ho ?_)
 rw[hhas]
 refine wpAny_bind (wpAny_pure ?_)
 rw[←hsome]
 cases hmn:(m name).isSome
 ·have:=hQ s.heap m hn (.refl ..) ⟨o,ho,hc o ho⟩
  rw[hmn]at this
  exact wpAny_pure this
 ·refine wpAny_bind (wpAny_updatePart ho (wpAny_pure ?_))
  have key:∃m',(s.heap.update a (Obj.dropName name)).Ns a m'∧∃o',(s.heap.update a (Obj.dropName name)).get? a=some o'∧o'.cls=c:=by
   have hco:=hc o ho
   obtain⟨cl,d,dt,sl⟩:=o
   subst hd
   cases hi:es.findIdx? (·.key.isStr name)with
   |some i=>
    have e1:=Heap.get?_update_self (h:=s.heap) (Obj.dropName name) ho (by simp only[Obj.dropName_eq,Obj.dropNameByArray,hi]<;>rfl)
    exact⟨_,⟨_,_,ep+1,e1,(by simp only[Obj.dropName_eq,Obj.dropNameByArray,hi]<;>rfl),hk.erase i,fun q_=>rfl⟩,_,e1,by simp only[Obj.dropName_eq,Obj.dropNameByArray,hi];exact hco⟩
   |none=>
    have e1:=Heap.get?_update_self (h:=s.heap) (Obj.dropName name) ho (by simp only[Obj.dropName_eq,Obj.dropNameByArray,hi]<;>rfl)
    exact⟨_,⟨_,es,ep,e1,(by simp only[Obj.dropName_eq,Obj.dropNameByArray,hi]<;>rfl),hk,fun q_=>rfl⟩,_,e1,by simp only[Obj.dropName_eq,Obj.dropNameByArray,hi];exact hco⟩
  obtain⟨m',k1,k2⟩:=key
  have:=hQ _ m' k1 (.update ..) k2
  rw[hmn]at this
  exact this
theorem Bm(S:Sit w os₀ d c A env k g ρ σ s){n:Str}{pos:Pos}(hl:c.scope.names.lookup n=some .local){Q':Unit→Shared→Prop}{E':Value→Shared→Prop}
  (h:∀s',Sit w os₀ d c A env k g [] σ s'→Heap.SameBut env.locals s.heap s'.heap→Q' () s'):wpAny (model PW w) A (do bindName env n .none;unbindBehindTheSuite env n pos) Q' E' s:=by
 obtain⟨m,hm,_⟩:=S.ns
 obtain⟨o,lo,lc⟩:=S.lc
 have hlo:=(S.kindOf n).trans hl
 have hp:(env.scope.kind== .class|| (env.scope.kind== .module&&env.locals !=env.globals))=false:=by rw[S.fn];rfl
 refine wpAny_bind (wpAny_bindName (JW hlo S.fn hm (c:=.type c.lty) (fun o' e=>by rw[lo]at e;cases e;exact lc) fun h₁ hn₁ hs₁ hc₁=>?_))
 unfold unbindBehindTheSuite
 refine wpAny_onRaise ?_
 unfold unbindName
 refine wpAny_bind (wpAny_point (wpAny_bind ?_))
 unfold deleteName
 simp only[hlo,hp]
 rw[if_neg (by decide)]
 obtain⟨o1,e1,c1⟩:=hc₁
 refine wpAny_bind (Za6 hn₁ (c:=.type c.lty) (fun o' e=>by rw[e1]at e;cases e;exact c1) fun h₂ m₂ hn₂ hs₂ hc₂=>?_)
 simp only[if_true,Option.isSome_some,Bool.not_true,Bool.false_eq_true,if_false]
 have hb:But env.locals s.heap h₂:=fun b o n e=>((hs₁.trans hs₂).2 b n).trans e
 obtain⟨o',es,ep,p',q'⟩:=id hn₂
 have S1:=S.st.live (s':={s with heap:=h₂,toks:=s.toks+1}) hb ⟨o',p'⟩ rfl rfl
 exact wpAny_pure (wpAny_point (h _ (S.mk' {S.toZU with st:=S1,ns:=⟨m₂,hn₂,fun x=>trivial⟩,lc:=hc₂}) (hs₁.trans hs₂)))
theorem ZaK(S:Sit w os₀ d c A env k g ρ σ s)(hc:c.lty="frame"){r:Rec}(e:σ.is a=some r)(hx:r.x=true)(hC:r.C=71)(F:Flies k g σ s a env.locals){x n:Str}{np pos:Pos}{C:Addr}(hC2:Kx C)
  (hk:c.scope.names.lookup x=some .globalImplicit) (hn:∀P,nsIn (KK P) mainGlobals x=some (some (.ref C))) (hd:(x==("__debug__" :Str))=false) (hl:c.scope.names.lookup n=some .local)
  {b₀:Stmt} {suite:List Stmt} {rest:List ExceptHandler} {R:V→Hp→Prop} (h:WS {c with hd:=some a} d (b₀::suite) (aset ρ n (.ref a)) σ (fun q_ q_=>False) R YS) {Q':Flow→Shared→Prop} {E':Value→Shared→Prop}
  (hR:∀v ρ' σ' x g' s',Le g g'→VR w g' v x→Sit w os₀ d c A env k g' ρ' σ' s'→R v σ'→Q' (.ret x) s'):
  wpAny (model PW w) A (noteFrame (.ref a) env) (fun q_ s₂=>wpAny (model PW w) A (setFlight (.ref a) none) (fun q_ s₃=>wpAny (model PW w) A (handleBy (.ref a) env (.ExceptHandler (some (.Name x np)) (some n) (b₀::suite) pos::rest)) Q' E' s₃) E' s₂) E' s:=by
 refine UV S hc e hx F fun s2 vs T S2 h1 h2 H=>?_
 refine YK S2 e hx h1 h2 H none fun s3 S3 h3 H3=>?_
 rw[hC]at h3
 have S4:=S3.mark a
 refine wpAny_handleBy_cons (codeAny_handlers_test (Gr S4 hk hn hd ?_)) (by intro q;cases q)
 have this:∀{R':Result→Shared→Prop},(∀v ρ' σ' x g' s',Le g g'→VR w g' v x→Sit w os₀ d c A env k g' ρ' σ' s'→R v σ'→R' (.ok (.ret x)) s')→codeAny (model PW w) (A.mark (some (.ref a))) (.handlers (.ref a) [.ExceptHandler none (some n) (b₀::suite) pos] env) R' s3:=fun hR'=>by
  refine codeAny_handlers_suite_as ?_
  refine YK S4 e hx (by rw[hC];exact h3) h2 (H3.mono fun q_ q=>q) none fun s5 S5 h5 H5=>?_
  refine S5.toZU.store (VR.ref a) hl fun s6 F6=>?_
  have S6:=S5.mk' F6
  exact h.use S6 Qp (fun ρ' σ' g' s' l S' q_ q=>q.elim) fun v ρ' σ' x g' s' l r S' q=>hR' v ρ' σ' x g' s' l r (S.unmark S') q
 have fin:∀v ρ' σ' x g' s',Le g g'→VR w g' v x→Sit w os₀ d c A env k g' ρ' σ' s'→R v σ'→wpAny (model PW w) A (do bindName env n .none;unbindBehindTheSuite env n pos) (fun q_ s₃=>Q' (.ret x) s₃) E' s':=fun v ρ' σ' x g' s' l r S' q=>
  Bm S' hl fun s7 S7 q_=>hR v [] σ' x g' s7 l r S7 q
 rcases hC2 with rfl|rfl
 ·exact ZaP S3.KIn h3 (this fin)
 ·exact DH S3.KIn h3 (this fin)
inductive Zfs(d:Nat)(c:Ctx)(b₀:Stmt)(suite:List Stmt)(N:Loc→Hp→Prop)(R:V→Hp→Prop)(a:Addr)(ρ1:Loc)(σ1:Hp):Prop
 |mk (dd:_) (fs:_) (h1:σ1.is a=some ⟨true,71,dd,fs⟩) (h2:WS {c with hd:=some a} d (b₀::suite) ρ1 σ1 N R YS):Zfs d c b₀ suite N R a ρ1 σ1
theorem ZeT{body:List Stmt}{x:Str}{np pos hp:Pos}{C:Addr}{b₀:Stmt}{suite:List Stmt}{N:Loc→Hp→Prop}{R:V→Hp→Prop}(hc:c.lty="frame")(hC2:Kx C)
  (hk:c.scope.names.lookup x=some .globalImplicit) (hn:∀P,nsIn (KK P) mainGlobals x=some (some (.ref C))) (hd:(x==("__debug__" :Str))=false)
  (h:WS c d body ρ σ N R (Zfs d c b₀ suite N R)):WX c d (.Try body [.ExceptHandler (some (.Name x np)) none (b₀::suite) hp] [] [] pos) ρ σ N R X:=
 WX.mk fun w os₀ A env k g s Q' E' S hE hN hR=>wpAny_Try_except (h.use S (fun a ρ1 σ1 g1 s1 l1 S1 F1 q=>by
   obtain⟨dd,fs,e,q⟩:=q
   exact Dz S1 hc e rfl rfl F1 hC2 hk hn hd q (fun ρ' σ' g' s' l S' q=>hN ρ' σ' g' s' (l1.trans l) S' q) fun v ρ' σ' x g' s' l r S' q=>hR v ρ' σ' x g' s' (l1.trans l) r S' q)
  (fun ρ' σ' g' s' l S' q_ q=>wpAny_execs_nil (hN ρ' σ' g' s' l S' q)) fun v ρ' σ' x g' s' l r S' q=>hR v ρ' σ' x g' s' l r S' q)
inductive Zfr(d:Nat)(c:Ctx)(n:Str)(b₀:Stmt)(suite:List Stmt)(R:V→Hp→Prop)(a:Addr)(ρ1:Loc)(σ1:Hp):Prop
 |mk (dd:_) (fs:_) (h1:σ1.is a=some ⟨true,71,dd,fs⟩) (h2:WS {c with hd:=some a} d (b₀::suite) (aset ρ1 n (.ref a)) σ1 (fun q_ q_=>False) R YS):Zfr d c n b₀ suite R a ρ1 σ1
theorem Zcp{body:List Stmt}{x n:Str}{np pos hp:Pos}{C:Addr}{b₀:Stmt}{suite:List Stmt}{N:Loc→Hp→Prop}{R:V→Hp→Prop}(hc:c.lty="frame")(hC2:Kx C)
  (hk:c.scope.names.lookup x=some .globalImplicit) (hn:∀P,nsIn (KK P) mainGlobals x=some (some (.ref C))) (hd:(x==("__debug__" :Str))=false) (hl:c.scope.names.lookup n=some .local)
  (h:WS c d body ρ σ N R (Zfr d c n b₀ suite R)):WX c d (.Try body [.ExceptHandler (some (.Name x np)) (some n) (b₀::suite) hp] [] [] pos) ρ σ N R X:=
 WX.mk fun w os₀ A env k g s Q' E' S hE hN hR=>wpAny_Try_except (h.use S (fun a ρ1 σ1 g1 s1 l1 S1 F1 q=>by
   obtain⟨dd,fs,e,q⟩:=q
   exact ZaK S1 hc e rfl rfl F1 hC2 hk hn hd hl q fun v ρ' σ' x g' s' l r S' q=>hR v ρ' σ' x g' s' (l1.trans l) r S' q)
  (fun ρ' σ' g' s' l S' q_ q=>wpAny_execs_nil (hN ρ' σ' g' s' l S' q)) fun v ρ' σ' x g' s' l r S' q=>hR v ρ' σ' x g' s' l r S' q)
end
end
section
section
variable{w:World}{os₀:OsState}{lv:Option Addr}{d:Nat}{c:Ctx}{A:Around}{env:Env}{k k' g g':Frz}{ρ ρ':Loc}{σ σ':Hp}{s s':Shared}{X:Addr→Loc→Hp→Prop}{a:Addr}
theorem Sit.storeB(S:Sit w os₀ d c A env k g ρ σ s){x:Str}{v:V}{y:Value}(r:VR w g v y)(hk:c.scope.names.lookup x=some .local){Q':Unit→Shared→Prop}{E':Value→Shared→Prop}
  (h:∀s',Sit w os₀ d c A env k g (aset ρ x v) σ s'→But env.locals s.heap s'.heap→Q' () s'):wpAny (model PW w) A (storeName env x y) Q' E' s:=by
 obtain⟨m,hn,hm⟩:=S.ns
 obtain⟨o,ho,hc⟩:=S.lc
 refine JW (c:=.type c.lty) ((S.kindOf x).trans hk) S.fn hn (fun o' e=>by rw[ho]at e;cases e;exact hc) fun h' hn' hs hc'=>h _ ?_ (fun b o n e=>(hs.2 b n).trans e)
 have hb:But env.locals s.heap h':=fun b o n e=>(hs.2 b n).trans e
 have S1:St w os₀ (some env.locals) k g σ {s with heap:=h',toks:=s.toks+1}:=S.st.live hb (hc'.imp fun q_ h=>h.1) rfl rfl
 refine S.mk' {S.toZU with st:=S1,ns:=⟨_,hn',fun z=>?_⟩,lc:=hc'}
 rw[ZT]
 by_cases hz:z=x
 ·subst hz;simp only[if_true];exact r
 ·simp only[if_neg hz];exact hm z
theorem Head.keep{T:Addr}{f:Value→Prop}(H:Head k g σ s a T f)(F:Free σ' T)(e:∀o,s.heap.get? T=some o→s'.heap.get? T=some o):Head k g σ' s' a T f:=
 ⟨H.1,H.2.1,H.2.2.1,F,H.2.2.2.2.imp fun q_ h=>h.imp fun q_ h=>h.imp fun q_ h=>⟨e _ h.1,h.2⟩⟩
theorem Zb7(hh:A.handled=some (.ref a))(S:Sit w os₀ d c A env k g ρ σ s){r:Rec}(e:σ.is a=some r)(hx:r.x=true)(hC:r.C=71){vs:Array Value}{T:Addr}(he:s.heap.get? a=some (Yr 71 r.d vs))(h1:vs[1]? =some (.ref T)){fl:Value→Prop}(H:Head k g σ s a T fl)
  {n:Str} {np pos:Pos} (hk:c.scope.names.lookup n=some .local) (hv:aget ρ n=some (.ref a)) (hd:(n==("__debug__" :Str))=false) {Q':Flow→Shared→Prop} {E':Value→Shared→Prop}
  (h:∀s',Sit w os₀ d c A env k g ρ σ s'→s'.heap.get? a=some (Yr 71 r.d vs)→Head k g σ s' a T (· =.none)→E' (.ref a) s'):wpAny (model PW w) A (exec (.Raise (some (.Name n np)) none pos) env) Q' E' s:=by
 rw[arm_exec_Raise]
 refine wpAny_bind (wpAny_standAt ?_)
 show wpAny (model PW w) A (raiseStmt env (some (do let v←eval (.Name n np) env;standAt pos;pure v)) none) _ _ _
 have hcB:([Value.ref 71,.ref 46,.type "Exception",.type "BaseException",.type "object"]).contains (.type "BaseException")=true:=by decide
 unfold raiseStmt
 refine wpAny_bind (wpAny_bind (Wl S hk hv hd fun y ry=>wpAny_bind (wpAny_standAt (wpAny_pure ?_))))
 obtain rfl:=ry.refI
 have hC:=S.KIn _ _ (Wb w.params)
 have fin:wpAny (model PW w) A (setFlight (.ref a) none) (fun q_ s'=>wpAny (model PW w) A (raiseNew (.ref a):Sem Flow) Q' E' s') E' s:=by
  refine YK S e hx (by rw[‹r.C=71›];exact he) h1 H none fun s2 S2 h2 H2=>?_
  rw[‹r.C=71›]at h2
  unfold raiseNew
  refine wpAny_bind (wpAny_handled ?_)
  rw[hh]
  dsimp only
  rw[if_neg (show ¬((Value.ref a !=Value.ref a)=true)from by simp)]
  exact wpAny_bind (wpAny_pure (wpAny_throw (h s2 S2 h2 H2)))
 obtain⟨hp,g,dr,tk,os⟩:=s
 repeat (first|with_reducible refine wpAny_loadPart_at he ?_|with_reducible refine wpAny_loadPart_at hC ?_| (with_reducible refine wpAny_isSubtype_exc hC ?_;rw[hcB])|exact fin|wp_step)
noncomputable abbrev trX:Str:="MachineError"
noncomputable abbrev trN:Str:="error"
noncomputable abbrev trO:Str:="state"
noncomputable abbrev trTo:Expr:=.Attribute (.Name trO ⟨484,8,484,13⟩) "rip" ⟨484,8,484,17⟩
noncomputable abbrev trOf:Expr:=.Attribute (.Name trO ⟨484,20,484,25⟩) "begin" ⟨484,20,484,31⟩
noncomputable abbrev O2:Stmt:=.Assign [trTo] trOf ⟨484,8,484,31⟩
noncomputable abbrev NQ:Stmt:=.Raise (some (.Name trN ⟨485,14,485,19⟩)) none ⟨485,8,485,19⟩
noncomputable abbrev trH:ExceptHandler:=.ExceptHandler (some (.Name trX ⟨483,11,483,23⟩)) (some trN) [O2,NQ] ⟨483,4,485,19⟩
noncomputable abbrev Hp.beg(σ:Hp)(S0 dS:Addr)(fs:List (Str×V))(v:V):Hp:={σ with is:=up σ.is S0 (some ⟨false,667,dS,aset fs "rip" v⟩)}
set_option tactic.hygienic true in
theorem Zel(S:Sit w os₀ d c A env k g ρ σ s){S0 dS:Addr}{fs:List (Str×V)}{v:V}(ho:c.scope.names.lookup trO=some .local)(hv:aget ρ trO=some (.ref S0))
  (hS:σ.is S0=some ⟨false,667,dS,fs⟩) (hf:aget fs "begin" =some v) (hh:Jt v=true) (ga:Zt 667 "begin") (sa:Zv 667 "rip") (hz:fs.length≤1000) {Q':Flow→Shared→Prop} {E':Value→Shared→Prop}
  (h:∀s',Sit w os₀ d c A env k g ρ (σ.beg S0 dS fs v) s'→(∀b o,b≠dS→s.heap.get? b=some o→s'.heap.get? b=some o)→Q' .next s'):wpAny (model PW w) A (exec O2 env) Q' E' s:=by
 refine plainObj_wpAny_Assign_Attribute (Attribute_any_ (Wl S ho hv rfl fun y ry=>?_) (by rw[arm_eval_Attribute];rfl)) NT
 refine WU S.st ry (Za hS) ga hf hh fun z tk rz=>?_
 have S7:=S.toks tk
 refine Wl S7 ho hv rfl fun y2 ry2=>?_
 obtain rfl:=ry2.refI
 obtain⟨oS,pS,roS⟩:=(S7.st.is S0 _ hS).at_
 obtain⟨kvs,pd,qd⟩:=(S7.st.is S0 _ hS).d.at_
 obtain⟨od,pod,D⟩:=YQ pd
 refine set_plain S7.KIn (ox:=oS) (od:=some od) ⟨pS,roS.cls,roS.notCls,by rw[roS.dict];exact pod⟩ (sa.set _) ?_
 have hdL:env.locals≠dS:=S7.lne (S7.st.is S0 _ hS).d.kn
 exact Oa (S7.toks (tk+1)).st hS rz sa hz fun s8 S8 b8=>h s8 ((S7.toks (tk+1)).turn (Le.refl g) S8 fun o e=>b8 _ _ hdL e) fun b o n e=>b8 b o n e
theorem Zem(S:Sit w os₀ d {c with hd:=some a} (A.mark (some (.ref a))) env k g ρ σ s)(S0:Sit w os₀ d c A env k g' ρ' σ' s')(hc:c.lty="frame"){r:Rec}(e:σ.is a=some r)(hx:r.x=true)(hC:r.C=71){vs:Array Value}{T:Addr}(h1:s.heap.get? a=some (Yr 71 r.d vs))(h2:vs[1]? =some (.ref T))(H:Head k g σ s a T (· =.none))
  (hl:c.scope.names.lookup trN=some .local) {E':Value→Shared→Prop} (hX:∀g' s' ρ',Le g g'→Sit w os₀ d c A env k g' ρ' σ s'→Flies k g' σ s' a env.locals→E' (.ref a) s') {R':Result→Shared→Prop} (hR':∀s',cameBackBy (model PW w) A env E' (.ref a) s'→R' (.error (.ref a)) s') {E1 E2:Value→Shared→Prop} {pos:Pos}:
  wpAny (model PW w) (A.mark (some (.ref a))) (noteFrame (.ref a) env) (fun q_ s₃=>wpAny (model PW w) (A.mark (some (.ref a))) (do bindName env trN .none;unbindBehindTheSuite env trN pos)
   (fun q_ s₄=>wpAny (model PW w) (A.mark (some (.ref a))) (PySem.passOn "try.except-as" (.ref a) env:Sem Flow) (fun q_ q_=>False) (notedBy (model PW w) (A.mark (some (.ref a))) env fun x s'=>R' (.error x) s') s₄) E1 s₃) E2 s:=by
 refine UV S hc e hx ⟨_,_,h1,rfl,.inr ⟨T,h2,H.mono fun q_ q=>.inl q⟩⟩ fun s11 vs11 T11 S11 h11 v11 H11=>?_
 refine Bm S11 hl fun s12 S12 b12=>?_
 rw[hC]at h11
 have h12:=(b12.2 _ (Ne.symm (S.lne (S.st.is a r e).kn))).trans h11
 have H12:=H11.keep (s':=s12) H11.2.2.2.1 fun o e=>(b12.2 _ (Ne.symm (S.lne H11.2.1))).trans e
 unfold PySem.passOn
 refine wpAny_bind (wpAny_field h12 rfl v11 ?_)
 rw[if_neg (show ¬((Value.ref T11==Value.none)=true)from by simp)]
 obtain⟨top,fr,f1,⟨f2,f4⟩,f3⟩:=id S0.frs
 obtain⟨rfl,f5⟩:=f4 hc
 refine wpAny_bind (YK S12 e hx (by rw[hC];exact h12) v11 H12 top.frame fun s13 S13 h13 H13=>wpAny_throw ?_)
 rw[f5]at H13
 refine UV S13 hc e hx ⟨_,_,h13,rfl,.inr ⟨T11,v11,H13.mono fun q_ q=>.inr q⟩⟩ fun s14 vs14 T14 S14 h14 v14 H14=>hR' s14 ?_
 have S15:=S0.unmark S14
 unfold cameBackBy
 refine wpAny_bind (wpAny_field h14 rfl v14 ?_)
 rw[if_neg (show ¬((Value.ref T14==Value.none)=true)from by simp)]
 refine YK S15 e hx h14 v14 H14 top.frame fun s16 S16 h16 H16=>?_
 rw[f5]at H16
 exact hX g s16 [] (Le.refl g) S16 ⟨_,_,h16,rfl,.inr ⟨T14,v14,H16.mono fun q_ q=>.inr q⟩⟩
theorem Zb6(S:Sit w os₀ d c A env k g ρ σ s)(hc:c.lty="frame"){r:Rec}(e:σ.is a=some r)(hx:r.x=true)(hC:r.C=71){vs:Array Value}{T:Addr}(h1:s.heap.get? a=some (Yr 71 r.d vs))(h2:vs[1]? =some (.ref T)){fl:Value→Prop}(H:Head k g σ s a T fl)
  {S0 dS:Addr} {fs:List (Str×V)} {v:V} (hl:c.scope.names.lookup trN=some .local) (ho:c.scope.names.lookup trO=some .local) (hv:aget ρ trO=some (.ref S0))
  (hS:σ.is S0=some ⟨false,667,dS,fs⟩) (hf:aget fs "begin" =some v) (hh:Jt v=true) (ga:Zt 667 "begin") (sa:Zv 667 "rip") (hz:fs.length≤1000) {E':Value→Shared→Prop}
  (hX:∀g' s' ρ',Le g g'→Sit w os₀ d c A env k g' ρ' (σ.beg S0 dS fs v) s'→Flies k g' (σ.beg S0 dS fs v) s' a env.locals→E' (.ref a) s')
  {R':Result→Shared→Prop} (hR':∀s',cameBackBy (model PW w) A env E' (.ref a) s'→R' (.error (.ref a)) s'):codeAny (model PW w) (A.mark (some (.ref a))) (.handlers (.ref a) [.ExceptHandler none (some trN) [O2,NQ] ⟨483,4,485,19⟩] env) R' s:=by
 have S4:=S.mark a
 refine codeAny_handlers_suite_as ?_
 refine YK S4 e hx (by rw[hC];exact h1) h2 (H.mono fun q_ q=>q) none fun s5 S5 h5 H5=>?_
 rw[hC]at h5
 refine S5.storeB (VR.ref a) hl fun s6 S6 b6=>?_
 have h6:=b6 _ _ (Ne.symm (S.lne (S.st.is a r e).kn)) h5
 have H6:=H5.keep (s':=s6) H5.2.2.2.1 fun o e=>b6 _ _ (Ne.symm (S.lne H5.2.1)) e
 have hv6:aget (aset ρ trN (.ref a)) trO=some (.ref S0):=by rw[ZT,if_neg (by decide)];exact hv
 refine wpAny_execs_cons (Zel S6 ho hv6 hS hf hh ga sa hz fun s8 S9 b8=>?_)
 obtain⟨kvs,pd,qd⟩:=(S6.st.is S0 _ hS).d.at_
 obtain⟨od,pod,D⟩:=YQ pd
 have h9:=b8 _ _ (XE h6 pod (by rw[D.cls];simp)) h6
 have aS:a≠S0:=fun q=>by rw[q,hS]at e;cases e;cases hx
 have Td:T≠dS:=H6.2.2.2.2.elim fun oT h=>h.elim fun ts h=>h.elim fun x h=>XE h.1 pod (by rw[D.cls,h.2.1];simp)
 have f0:=H6.2.2.2.1
 have TS:T≠S0:=fun q=>by have:=f0.is;rw[q,hS]at this;cases this
 have H9:=H6.keep (σ':=σ.beg S0 dS fs v) (s':=s8) ⟨f0.ls,f0.ds,f0.ss,(Ze _ _ TS).trans f0.is,f0.cs,f0.ts,fun b r' q z=>(YR q).elim (fun q=>f0.d S0 _ hS ((congrArg Rec.d q.2).trans z)) fun q=>f0.d b r' q.2 z⟩ fun o e=>b8 _ _ Td e
 exact wpAny_execs_cons (Zb7 rfl S9 ((Ze _ _ aS).trans e) hx hC h9 h2 H9 (n:=trN) hl (by rw[ZT,if_pos rfl]) rfl fun s10 S10 h10 H10=>Zem S10 S hc ((Ze _ _ aS).trans e) hx hC h10 h2 H10 hl hX hR')
theorem ZaJ(S:Sit w os₀ d c A env k g ρ σ s)(hc:c.lty="frame"){r:Rec}(e:σ.is a=some r)(hx:r.x=true)(hC:r.C=71)(F:Flies k g σ s a env.locals)
  (hk:c.scope.names.lookup trX=some .globalImplicit) (hn:∀P,nsIn (KK P) mainGlobals trX=some (some (.ref 71))) (hl:c.scope.names.lookup trN=some .local)
  {S0 dS:Addr} {fs:List (Str×V)} {v:V} (ho:c.scope.names.lookup trO=some .local) (hv:aget ρ trO=some (.ref S0))
  (hS:σ.is S0=some ⟨false,667,dS,fs⟩) (hf:aget fs "begin" =some v) (hh:Jt v=true) (ga:Zt 667 "begin") (sa:Zv 667 "rip") (hz:fs.length≤1000) {Q':Flow→Shared→Prop} {E':Value→Shared→Prop}
  (hX:∀g' s' ρ',Le g g'→Sit w os₀ d c A env k g' ρ' (σ.beg S0 dS fs v) s'→Flies k g' (σ.beg S0 dS fs v) s' a env.locals→E' (.ref a) s'):
  wpAny (model PW w) A (noteFrame (.ref a) env) (fun q_ s₂=>wpAny (model PW w) A (setFlight (.ref a) none) (fun q_ s₃=>wpAny (model PW w) A (handleBy (.ref a) env [trH]) Q' E' s₃) E' s₂) E' s:=by
 refine UV S hc e hx F fun s2 vs T S2 h1 h2 H=>?_
 refine YK S2 e hx h1 h2 H none fun s3 S3 h3 H3=>?_
 rw[hC]at h3
 have S4:=S3.mark a
 refine wpAny_handleBy_cons (codeAny_handlers_test (Gr S4 hk hn rfl ?_)) (by intro q;cases q)
 exact DH S3.KIn h3 (Zb6 S3 hc e hx hC h3 h2 H3 hl ho hv hS hf hh ga sa hz hX fun s' q=>q)
inductive Zfq(X:Addr→Loc→Hp→Prop)(a:Addr)(ρ1:Loc)(σ1:Hp):Prop
 |mk (dd:_) (fs:_) (S0:_) (dS:_) (fs2:_) (v:_) (h1:σ1.is a=some ⟨true,71,dd,fs⟩) (h2:aget ρ1 trO=some (.ref S0)) (h3:σ1.is S0=some ⟨false,667,dS,fs2⟩) (h4:aget fs2 "begin" =some v) (h5:Jt v=true) (h6:fs2.length≤1000) (h7:∀ρ',X a ρ' (σ1.beg S0 dS fs2 v)):Zfq X a ρ1 σ1
theorem Zco{body:List Stmt}{pos:Pos}{N:Loc→Hp→Prop}{R:V→Hp→Prop}(hc:c.lty="frame")
  (hk:c.scope.names.lookup trX=some .globalImplicit) (hn:∀P,nsIn (KK P) mainGlobals trX=some (some (.ref 71))) (hl:c.scope.names.lookup trN=some .local)
  (ho:c.scope.names.lookup trO=some .local) (ga:Zt 667 "begin") (sa:Zv 667 "rip")
  (h:WS c d body ρ σ N R (Zfq X)):
  WX c d (.Try body [trH] [] [] pos) ρ σ N R X:=
 WX.mk fun w os₀ A env k g s Q' E' S hE hN hR=>wpAny_Try_except (h.use S (fun a ρ1 σ1 g1 s1 l1 S1 F1 q=>
   match q with
   | .mk dd fs S0 dS fs2 v e hv hS hf hh hz q=>ZaJ S1 hc e rfl rfl F1 hk hn hl ho hv hS hf hh ga sa hz fun g' s' ρ' l S' F=>hE a ρ' _ g' s' (l1.trans l) S' F (q ρ'))
  (fun ρ' σ' g' s' l S' q_ q=>wpAny_execs_nil (hN ρ' σ' g' s' l S' q)) fun v ρ' σ' x g' s' l r S' q=>hR v ρ' σ' x g' s' l r S' q)
theorem ga71(P:Params):findIn (KK P) (.ref 71) "__getattribute__" =some (some (.builtin "BaseException.__getattribute__")):=by kernel_rfl
theorem gk71(P:Params):findIn (KK P) (.ref 71) "__getattr__" =some none:=by kernel_rfl
theorem ZfX(P:Params):subIn (KK P) (.ref 71) (.type "BaseException")=some true:=by kernel_rfl
theorem Zgl(P:Params):hasDictIn (KK P) 71=true:=by kernel_rfl
theorem Zec(P:Params):findIn (KK P) (.ref 71) "what" =some none:=by kernel_rfl
theorem Zbl(self:Value):bindSpecial (.builtin "BaseException.__getattribute__") self=pure (.builtin "BaseException.__getattribute__",[self]):=by kernel_rfl
theorem ZbU{name:Str}{expr:Bool}{y:V}{dd:Addr}{fs:List (Str×V)}{Q':Value→Shared→Prop}{E':Value→Shared→Prop}(S:St w os₀ lv k g σ s)(e:σ.is a=some ⟨true,71,dd,fs⟩)(hv:aget fs name=some y)(hh:Jt y=true)(nx:∀P,findIn (KK P) (.ref 71) name=some none)
  (h:∀z t,VR w g y z→Q' z {s with toks:=t}):wpAny (model PW w) A (getAttr (.ref a) name expr) Q' E' s:=by
 obtain⟨o,p,ro⟩:=(S.is a _ e).at_
 obtain⟨kvs,pd,q⟩:=(S.is a _ e).d.at_
 obtain⟨od,pod,D⟩:=YQ pd
 obtain⟨z,hz,rz⟩:=q.get hv
 have I:W.InstAt s.heap a o 71 (some od):=⟨p,ro.cls,ro.notCls,by rw[ro.dict];exact pod⟩
 have K:=S.KIn
 have L0:=I.type (M:=model PW w)
 have L1:=looks_findIn (M:=model PW w) K (ga71 _)
 have L2:=looks_findIn (M:=model PW w) K (gk71 _)
 have L3:=looks_find (M:=model PW w) K I (findObj_own (Zgl _) (nx _) rfl ((D.lookIn name).trans (by rw[hz])))
 have hq:=h z (s.toks+1) rz
 obtain⟨hp,gg,dr,tk,os⟩:=s
 unfold getAttr getAttrBy
 refine wpAny_bind (wpAny_mkText (wpAny_holding (wpAny_bind (L0.at (wpAny_bind (L1.at ?_))))))
 dsimp only
 have hx2:(onTheHeap (Value.ref 71)&&Value.builtin "BaseException.__getattribute__" ==Value.builtin "object.__getattribute__")=false:=by decide+kernel
 have hx0:(expr&&onTheHeap (Value.builtin "BaseException.__getattribute__"))=false:=by cases expr<;>rfl
 rw[hx2,if_neg (by decide)]
 unfold getAttrByItsOwn
 refine wpAny_bind (L2.at (wpAny_bind (wpAny_attempt (wpAny_holding ?_))))
 unfold callGetattribute
 rw[hx0,if_neg (by decide)]
 unfold boundAndCalled
 rw[Zbl]
 refine wpAny_bind (wpAny_pure ?_)
 dsimp only
 have hk:builtinKind "BaseException.__getattribute__" =some .slot:=by decide+kernel
 have hsplit:splitId "BaseException.__getattribute__" =some ("BaseException","__getattribute__"):=by decide+kernel
 have sub:Looks (model PW w) hp (isInstance (.ref a) (.type "BaseException")) true:=L0.andThen (looks_subIn K (ZfX _))
 refine wpAny_call (codeAny_call_builtin PySem.F.attr_Exception.ga.plain PySem.F.entry_bexc_ga (@check_slot (model PW w) _ _ ⟨hp,gg,dr,tk+1,os⟩ "BaseException.__getattribute__" "BaseException" "__getattribute__" (.ref a) [.str name tk] [] _ hk hsplit sub (PySem.F.args_bexc_ga (.ref a) (.str name tk)) ?_))
 unfold Builtin.«object.__getattribute__»
 refine wpAny_bind (wpAny_pure (wpAny_bind (wpAny_pure (wpAny_bind (L0.at (wpAny_bind (L3.at ?_)))))))
 refine wpAny_pure ?_
 show wpAny _ _ (handedOut z) _ _ _
 rw[handedOut_of (Br rz hh)]
 exact wpAny_pure hq
inductive Zfp(Q:V→Hp→Prop)(v:V)(σ1:Hp):Prop
 |mk (a:_) (dd:_) (y:_) (h1:v=.ref a) (h2:σ1.is a=some ⟨true,71,dd,WV y⟩) (h3:Jt y=true) (h4:Q y σ1):Zfp Q v σ1
theorem ZdW{c:Ctx}{o:Expr}{pos:Pos}{Q:V→Hp→Prop}(h:WE c d o ρ σ (Zfp Q) X)
  (hb:∀env,attributeBase o "what" env (eval o env)=eval o env):WE c d (.Attribute o "what" pos) ρ σ Q X:=
 WE.mk fun w os₀ A env k g s Q' E' S hE hQ=>Attribute_any_ (h.use S hE fun v σ1 x g1 s1 l1 r1 S1 hE1 h1=>by
  obtain⟨a,dd,y,rfl,e1,e2,q⟩:=h1
  obtain rfl:=r1.refI
  exact ZbU S1.st e1 rfl e2 Zec fun z t rz=>hQ _ _ _ g1 _ l1 rz (S1.toks t) q) (by rw[arm_eval_Attribute,hb])
end
end
section
set_option tactic.hygienic true in
theorem HS{pos:Pos}{a b:Int}{x cv:Value}(l:List Value)(h:TriplesOk l)(e:codeAmong pos (l++[rawInt a,rawInt b,x])=some cv):codeAmong pos l=some cv∨cv=x:=by
 fun_induction TriplesOk l with
 |case1=>
  simp only[List.nil_append,codeAmong,rawInt]at e
  split at e
  ·exact .inr (Option.some.inj e).symm
  ·cases e
 |case2 a' t b' u y rest ih=>
  simp only[List.cons_append,codeAmong]at e⊢
  split at e
  ·rename_i hc;rw[if_pos hc];exact .inl e
  ·rename_i hc;rw[if_neg hc];exact ih h e
 |case3 l h1 h2=>exact h.elim
structure UR(fd:FuncData)(params:Arguments)(body:Expr)(scope:Scope)(cl:List (Str×Addr))(q:Str):Prop where
 params:fd.params=params
 body:fd.body=.expr body
 scope:fd.scope=scope
 closure:fd.closure=cl
 qual:fd.qualname=q
 glob:fd.globals=3
 blt:fd.builtins=0
 dflt:fd.defaults=.none
 kw:fd.kwdefaults=.none
section
variable{w:World}{os₀:OsState}{lv:Option Addr}{d:Nat}{c:Ctx}{A:Around}{env:Env}{k k' g g':Frz}{ρ ρ':Loc}{σ σ':Hp}{s s':Shared}{X:Addr→Loc→Hp→Prop}{a:Addr}
noncomputable def Hp.dropT(σ:Hp)(a:Addr):Hp:={σ with ts:=up σ.ts a none}
theorem Hp.dropT_le(σ:Hp)(a:Addr):(σ.dropT a).Le σ:={Hp.Le.refl σ with ts:=fun q_ q_ e=>Qk e}
theorem St.freeT(S:St w os₀ lv k g σ s){q:Str}(e:σ.ts a=some q):Free (σ.dropT a) a:=by
 have T:=S.ts a q e
 obtain⟨o,p⟩:=T.there
 have hc:=T.cls p
 exact(S.weaken (σ.dropT_le a)).free_of p (fun q=>by rw[hc]at q;simp at q) (fun q=>by rw[hc]at q;simp at q) (fun C q=>by rw[hc]at q;simp at q) (fun y q=>(T.nocell p y q).elim) (fun q_=>up_self ..)
theorem Zd1(P:Params):nsIn (KK P) mainGlobals "__builtins__" =some (some (.ref 4)):=by kernel_rfl
theorem at4(P:Params):(KK P).lookup 4=some {cls:=.type "module",dict:=some 0,data:=.plain}:=by kernel_rfl
theorem Q5{params:Arguments}{body:Expr}{scope:Scope}{pos:Pos}{cl:List (Str×Addr)}{cc P:Addr}{Q:V→Hp→Prop}(hdef:∀env,defaultsOf params env=([],[]))(hcl:Uw scope.names c.cells []=some cl)(hcode:c.code=.ref cc)
  (hT:∀P',codeHdIn (KK P') cc P=true) (hP:σ.ts P=some (c.qual++"<lambda>")) (h:∀fd,UR fd params body scope cl (c.qual++"<lambda>")→Q (.lam fd) σ):WE c d (.Lambda params body scope pos) ρ σ Q X:=
 WE.mk fun w os₀ A env k g s Q' E' S hE hQ=>by
  have T:=S.st.ts P _ hP
  obtain⟨ps,pP,ht,hps⟩:=T.at_
  have F:=S.st.freeT hP
  have hge:env.globals=mainGlobals:=S.glob
  have hm:=S.st.main
  have hm4:s.heap.nsMap mainGlobals "__builtins__" =some (.ref 4):=mg_of S.KIn hm (Zd1 _)
  have p4:=S.KIn _ _ (at4 w.params)
  have n4P:(4:Addr)≠P:=fun q=>by rw[q,pP]at p4;cases p4
  have ngP:mainGlobals≠P:=fun q=>by
   obtain⟨o,es,ep,e,hd,_⟩:=hm
   rw[q,pP]at e;cases e;cases hd
  have hbt:s.heap.BuiltinsAt (s.heap.nsMap mainGlobals) P:=⟨4,_,hm4,by decide,by decide,n4P,p4,rfl,rfl,rfl⟩
  have C:=codeHd_of_K S.KIn (hT w.params)
  have hcl':closureFor scope env=pure cl:=Q8 (by rw[S.cells];exact hcl)
  refine kla_eval (hdef env) ?_
  rw[S.qual]
  have nPL:env.locals≠P:=S.lne T.kn
  cases hf:codeAmong pos ps.toList with
  |some cv=>
   obtain⟨c0,o0,vs0,t0,rfl,g0,d0,v0⟩:=hps _ _ hf
   refine kla_makeFunctionHit (mg:=s.heap.nsMap mainGlobals) hcl' hge hm (S.code.trans hcode) C pP ht hf hbt fun ctv h' tk hk hsz=>?_
   have S1:=S.keep (s':={s with heap:=h',toks:=tk}) hk rfl rfl
   have S2:=S1.push {cls:=.type "function",data:=.func (kla_fn "<lambda>" (c.qual++"<lambda>") params body scope cl ((s.heap.nsMap mainGlobals "__name__").getD .none) (.ref c0) ctv)}
   have Fr:=S1.st.fresh (Nat.le_refl _)
   obtain⟨S3,l3⟩:=S2.st.freezeAny (a:=h'.objs.size) Fr.free Fr.kn (Heap.get?_push_size _ rfl)
   exact hQ _ _ _ _ _ l3 (.lam _ _ _ c0 o0 vs0 t0 (put_self ..) rfl rfl rfl (l3 _ _ g0) d0 v0) (S2.turn l3 S3 fun q_ e=>e) (h _ ⟨rfl,rfl,rfl,rfl,rfl,rfl,rfl,rfl,rfl⟩)
  |none=>
   refine kla_makeFunction (mg:=s.heap.nsMap mainGlobals) hcl' hge hm (S.code.trans hcode) C pP ht hf ngP hbt fun c' ctv h' tk hx hge' hlt hrec hP'=>?_
   obtain⟨c0,o0,vs0,t0,e0,g0,d0,v0⟩:=hrec
   cases e0
   have S1:=(S.st.weaken (σ.dropT_le P)).other (s':={s with heap:=h',toks:=tk}) F T.kn T.gn hx rfl rfl
   have fr1:=(S.st.weaken (σ.dropT_le P)).fresh hge'
   obtain⟨S2,l2⟩:=S1.freezeAny (a:=c') fr1.free fr1.kn g0
   have fP:=T.gn
   have ncP:P≠c':=fun q=>by have:=Heap.lt_size pP;rw[q]at this;exact absurd this (Nat.not_lt.mpr hge')
   have S3:=S2.addT (a:=P) (q':=c.qual++"<lambda>") ⟨Yz T.gn ncP,T.kn,_,hP',by rw[Array.toList_append];exact TriplesOk_snoc _ _ _ _ ht,fun pos' cv e=>?_⟩
   ·have eσ:({σ.dropT P with ts:=up (σ.dropT P).ts P (some (c.qual++"<lambda>"))}:Hp)=σ:=by
     unfold Hp.dropT
     simp only[ZQ,YZ _ _ _ hP]
    rw[eσ]at S3
    have S4:=S3.push {cls:=.type "function",data:=.func (kla_fn "<lambda>" (c.qual++"<lambda>") params body scope cl ((s.heap.nsMap mainGlobals "__name__").getD .none) (.ref c') ctv)}
    have Fr:=S3.fresh (Nat.le_refl _)
    obtain⟨S5,l5⟩:=S4.freezeAny (a:=h'.objs.size) Fr.free Fr.kn (Heap.get?_push_size _ rfl)
    have eL:∀o,s.heap.get? env.locals=some o→(h'.push {cls:=.type "function",data:=.func (kla_fn "<lambda>" (c.qual++"<lambda>") params body scope cl ((s.heap.nsMap mainGlobals "__name__").getD .none) (.ref c') ctv)}).get? env.locals=some o:=fun o e=>Heap.get?_push_of_some _ (hx _ _ nPL e)
    exact hQ _ _ _ _ _ (l2.trans l5) (.lam _ _ _ c' o0 vs0 t0 (put_self ..) rfl rfl rfl (l5 _ _ (put_self ..)) d0 v0) (S.turn (l2.trans l5) S5 eL) (h _ ⟨rfl,rfl,rfl,rfl,rfl,rfl,rfl,rfl,rfl⟩)
   ·rw[Array.toList_append]at e
    rcases HS _ ht e with e|rfl
    ·obtain⟨c1,o1,vs1,t1,x1,x2,x3⟩:=hps _ _ e
     exact⟨c1,o1,vs1,t1,x1,l2 _ _ x2,x3⟩
    ·exact⟨c',o0,vs0,t0,rfl,put_self ..,d0,v0⟩
end
end
section
section
variable{w:World}{os₀:OsState}{lv:Option Addr}{d d':Nat}{c:Ctx}{A:Around}{env:Env}{k k' g g':Frz}{ρ ρ':Loc}{σ σ':Hp}{s s':Shared}{a:Addr}
theorem Gf{α:Type} [DecidableEq α]{fs:List (α×V)}{kvs:List (α×Value)}(h:PR w g fs kvs)(k:α):(valueAt kvs k).isSome=(aget fs k).isSome:=by
 cases e:aget fs k with
 |none=>rw[h.get_none e];rfl
 |some v=>obtain⟨x,hx,_⟩:=h.get e;rw[hx];rfl
inductive Zde(ne:Bool)(Q:V→Hp→Prop)(a:V)(b:V)(σ2:Hp):Prop
 |mk (i:_) (fs:_) (h1:a=.int i) (h2:Wo σ2 b=some fs) (h3:Q (.bool (if ne then !(aget fs i).isSome else(aget fs i).isSome)) σ2):Zde ne Q a b σ2
noncomputable abbrev Zg3(d:Nat)(c:Ctx)(ρ:Loc)(X:Addr→Loc→Hp→Prop)(r:Expr)(ne:Bool)(Q:V→Hp→Prop)(a:V)(σ1:Hp):Prop:=WE c d r ρ σ1 (Zde ne Q a) X
theorem Hu{X:Addr→Loc→Hp→Prop}{l r:Expr}{pos:Pos}{ne:Bool}{Q:V→Hp→Prop}
  (h:WE c d l ρ σ (Zg3 d c ρ X r ne Q) X) (hm:behindInMarks (if ne then .NotIn else .In) r=false):WE c d (.Compare l [if ne then .NotIn else .In] [r] pos) ρ σ Q X:=
 Ke h hm fun a b σ w os₀ A env k g s Q' E' x y hB S va vb hQ=>by
  obtain⟨i,fs,rfl,e,q⟩:=hB
  obtain⟨_,rfl⟩:=va.intI
  obtain⟨D,kvs,rfl,hd,pr,nm⟩:=S.st.idict e vb
  cases ne
  ·refine wpAny_in_of (knd:=intKind PW w) (k:=i) (by simp[intKind,Value.isInt]) nm hd.mapOf ?_
   rw[Gf pr]
   exact hQ _ _ _ g _ (Le.refl g) (.bool _) (S.toks _) q
  ·refine wpAny_notIn_of (knd:=intKind PW w) (k:=i) (by simp[intKind,Value.isInt]) nm hd.mapOf ?_
   rw[Gf pr]
   exact hQ _ _ _ g _ (Le.refl g) (.bool _) (S.toks _) q
inductive Zdd(d:Nat)(c:Ctx)(ρ:Loc)(X:Addr→Loc→Hp→Prop)(r₂:Expr)(op₁:CmpOp)(op₂:CmpOp)(Q:Bool→Hp→Prop)(a:V)(b:V)(σ2:Hp):Prop
 |mk (i:_) (j:_) (t:_) (h1:a=.int i) (h2:b=.int j) (h3:icmp op₁ i j=some t) (h4:if t=true then WE c d r₂ ρ σ2 (fun e σ3=>∃m u,e=.int m∧icmp op₂ j m=some u∧Q u σ3) X else Q false σ2):Zdd d c ρ X r₂ op₁ op₂ Q a b σ2
noncomputable abbrev Zg2(d:Nat)(c:Ctx)(ρ:Loc)(X:Addr→Loc→Hp→Prop)(r₁:Expr)(r₂:Expr)(op₁:CmpOp)(op₂:CmpOp)(Q:Bool→Hp→Prop)(a:V)(σ1:Hp):Prop:=WE c d r₁ ρ σ1 (Zdd d c ρ X r₂ op₁ op₂ Q a) X
theorem Zcr{X:Addr→Loc→Hp→Prop}{l r₁ r₂:Expr}{op₁ op₂:CmpOp}{pos:Pos}{Q:Bool→Hp→Prop}
  (h:WE c d l ρ σ (Zg2 d c ρ X r₁ r₂ op₁ op₂ Q) X)
  (hm:lastMarks [op₁,op₂] [r₁,r₂]=false):WT c d (.Compare l [op₁,op₂] [r₁,r₂] pos) ρ σ Q X:=
 WT.mk fun w os₀ A env k g s Q' E' S hE hQ=>isTrue_chain (h.use S hE fun a σ1 x g1 s1 l1 va S1 hE1 h1=>test_link (h1.use S1 hE1 fun b σ2 y g2 s2 l2 vb S2 hE2 h2=>by
  obtain⟨i,j,t,rfl,rfl,e,q⟩:=h2
  obtain⟨_,rfl⟩:=va.intI;obtain⟨_,rfl⟩:=vb.intI
  refine HJ e (wpAny_truthy_bool ?_)
  cases t with
  |false=>exact hQ _ _ g2 _ (l1.trans l2) S2 q
  |true=>
   simp only[if_true]at q⊢
   refine test_last (q.use S2 hE2 fun e σ3 z g3 s3 l3 vz S3 hE3 h3=>?_)
   obtain⟨m,u,rfl,e3,q3⟩:=h3
   cases vz
   exact HJ e3 (wpAny_truthy_bool (hQ _ _ g3 _ ((l1.trans l2).trans l3) S3 q3)))) hm
end
section
variable{w:World}{os₀:OsState}{lv:Option Addr}{d d':Nat}{c:Ctx}{A:Around}{env:Env}{k k' g g':Frz}{ρ ρ':Loc}{σ σ':Hp}{s s':Shared}{a:Addr}{X:Addr→Hp→Prop}{Q:V→Hp→Prop}
set_option tactic.hygienic true in
theorem VRs.ints{ns:List Int}{xs:List Value}(r:VRs w g (ns.map V.int) xs):∃ps:Array (Int×Tok),xs.toArray=intItems ps∧ps.toList.map (·.1)=ns:=by
 induction ns generalizing xs with
 |nil=>cases r;exact⟨#[],by simp[intItems],rfl⟩
 |cons n ns ih=>
  cases r with
  |cons r1 r2=>
  obtain⟨_,rfl⟩:=r1.intI
  rename_i t
  obtain⟨ps,h1,h2⟩:=ih r2
  refine⟨#[(n,t)]++ps,?_,by simp[h2]⟩
  have:=congrArg Array.toList h1
  apply Array.toList_inj.mp
  simp only[intItems]at this⊢
  simp at this⊢
  exact this
theorem Nv(ps:Array (Int×Tok)):preSum (numAt ps) ps.size=(ps.toList.map (·.1)).sum:=by
 rw[preSum_eq,List.take_of_length_le (by simp)]
theorem Zbq{v:V}{ns:List Int}(e:ZV σ v=some (ns.map V.int))(h:Q (.int ns.sum) σ):ZO d (.bi (.builtin "sum")) [v] σ Q X:=
 ⟨fun w os₀ A k g s fv xs Q' E' S rf ra rm hh fr hQ hX=>by
  obtain rfl:=rf.biI
  cases ra with
  |cons r r2=>
  cases r2
  obtain⟨l,Vs,n,rfl,p,rr⟩:=S.list e r
  obtain⟨ps,h1,h2⟩:=rr.ints
  refine sum_intListG (xs:=ps) hh (by rw[←h1];exact ZM p) fun h' tk t' hk=>?_
  rw[Nv,h2]
  exact hQ _ _ _ g _ (Le.refl g) (.int _ _) (S.grow hk) h⟩
theorem Nh{vs:List V}(h:Q (.bool true) σ):ZO d (.bi (.builtin "isinstance")) [.tup vs,.bi (.type "tuple")] σ Q X:=
 ⟨fun w os₀ A k g s fv xs Q' E' S rf ra rm hh fr hQ hX=>by
  obtain rfl:=rf.biI
  cases ra with
  |cons r r2=>
  cases r2 with
  |cons r3 r4=>
  cases r4;obtain rfl:=r3.biI
  cases r with
  |tup a vs Vs e r=>
  exact call_isinstance_yes ⟨_,S.fr _ _ e,rfl⟩ (by first|rfl|kernel_rfl) (by rw[isSubtype_type];kernel_rfl) (hQ _ _ _ g _ (Le.refl g) (.bool _) S h)⟩
theorem Zeu:∀P,kin_notT (KK P) 900 "tuple" =true:=fun P=>by kernel_rfl
theorem Zga:∀P,plainGet (KK P) 900 "__class__" =true:=fun P=>by kernel_rfl
theorem Zgk:∀P,hasDictIn (KK P) 900=true:=fun P=>by kernel_rfl
theorem Zgs:∀P,findIn (KK P) (.ref 900) "__class__" =some (some (.builtin "object.__class__")):=fun P=>by kernel_rfl
theorem ZfY:∀P,specialIn (KK P) (.builtin "object.__class__") "__get__" =some (some (.builtin "getset_descriptor.__get__")):=fun P=>by kernel_rfl
theorem ZfV:∀P,takesIn (KK P) (.builtin "object.__class__")=some true:=fun P=>by kernel_rfl
theorem Zgd:∀P,mroIn (KK P) 900 (.type "object")=some true:=fun P=>by kernel_rfl
theorem Zbr{fs:List (Str×V)}(h:Q (.bool false) σ):ZO d (.bi (.builtin "isinstance")) [.obj 900 fs,.bi (.type "tuple")] σ Q X:=
 ⟨fun w os₀ A k g s fv xs Q' E' S rf ra rm hh fr hQ hX=>by
  obtain rfl:=rf.biI
  cases ra with
  |cons r r2=>
  cases r2 with
  |cons r3 r4=>
  cases r4;obtain rfl:=r3.biI
  obtain⟨a,ox,od,kvs,rfl,I,D,q⟩:=S.inst (v:=.obj 900 fs) rfl r
  exact kin_callT S.KIn I (Zeu _) (by first|rfl|kernel_rfl) (Zga _) (Zgk _) (Zgs _) (ZfY _) (ZfV _) (Zgd _) (hQ _ _ _ g _ (Le.refl g) (.bool _) (S.toks _) h)⟩
theorem VRs.strs{l:List (Str×Tok)}:VRs w g ((l.map (·.1)).map V.str) (strValues l):=by
 induction l with
 |nil=>exact .nil
 |cons p l ih=>exact .cons (.str _ _) ih
set_option tactic.hygienic true in
theorem B0{x:Str}(hz:x.length≤1000)(hz2:(Builtin.Str.spaceWords x (x.length+1)).length≤1000)(h:Q (.lst ((Txt.words x).map V.str)) σ):ZO d (.bi (.builtin "str.split")) [.str x] σ Q X:=
 ⟨fun w os₀ A k g s fv xs Q' E' S rf ra rm hh fr hQ hX=>by
  obtain rfl:=rf.biI
  cases ra with
  |cons r r2=>
  cases r2;obtain⟨_,rfl⟩:=r.strI
  rename_i t
  refine call_meets PySem.F.slot_str_split (typeIs_str _ _ _) PySem.F.entry_str_split (PySem.F.args_str_split_1 _) (meets_str_split_space x t (Nat.le_trans hz (by decide)) (Nat.le_trans hz2 (by decide))) ?_
  have fin:∀(l:List (Str×Tok)) (tk:Tok),l.map (·.1)=Txt.words x→Q' (.ref s.heap.objs.size) {s with toks:=tk,heap:=s.heap.push {cls:=.type "list",data:=.seq (strValues l).toArray}}:=fun l tk hl=>by
   have r:=VRs.strs (w:=w) (g:=g) (l:=l)
   rw[hl]at r
   obtain⟨g',S',l',v⟩:=S.newFixL (n:=0) r
   exact hQ _ _ _ g' _ l' v (S'.toks tk) h
  cases hw:Builtin.Str.spaceWords x (x.length+1)==[(0,x.length)]
  ·simp only[Bool.false_eq_true,if_false]
   rw[strsFrom_eq]
   exact fin (numbered s.toks (PySem.wordsOf x)) _ ((numbered_texts _ _).trans (if_neg (ne_true_of_eq_false hw)).symm)
  ·simp only[if_true]
   exact fin [(x,t)] s.toks (if_pos hw).symm⟩
end
end
section
section
variable{w:World}{os₀:OsState}{lv:Option Addr}{d d':Nat}{c:Ctx}{A:Around}{env:Env}{k k' g g':Frz}{ρ ρ':Loc}{σ σ':Hp}{s s':Shared}{X:Addr→Loc→Hp→Prop}{a:Addr}
noncomputable def Dn(c:Ctx)(D:Addr)(fs:List (Int×V)):Ctx:={c with pin:=[(D,fs)]}
inductive Zdc(d:Nat)(c:Ctx)(ρ:Loc)(t:Expr)(body:List Stmt)(N:Loc→Hp→Prop)(v:V)(σ1:Hp):Prop
 |mk (D:_) (fs:_) (h1:v=.ref D) (h2:σ1.ds D=some fs) (J:Nat→Loc→Hp→Prop) (h3:J 0 ρ (σ1.dropD D)) (h4:(∀i v ρ1 σ2,(fs.map fun p=>V.int p.1)[i]? =some v→J i ρ1 σ2→WA (Dn c D fs) d t v ρ1 σ2 (fun ρ2 σ3=>WS (Dn c D fs) d body ρ2 σ3 (J (i+1)) (fun q_ q_=>False) YS) YS)) (h5:(∀ρ1 σ2,J fs.length ρ1 σ2→N ρ1 {σ2 with ds:=up σ2.ds D (some fs)})):Zdc d c ρ t body N v σ1
set_option tactic.hygienic true in
theorem Hs{t it:Expr}{body:List Stmt}{pos:Pos}{N:Loc→Hp→Prop}{R:V→Hp→Prop}(hh:c.hd=none)(ht:VZ t)(hf:∀env x,foldedSetIterable it env x=pure x)
  (h:WE c d it ρ σ (Zdc d c ρ t body N) X):WX c d (.For t it body [] pos) ρ σ N R X:=
 WX.mk fun w os₀ A env k g s Q' E' S hE hN hR=>by
  have hA:A.handled=none:=by rw[S.hd,hh];rfl
  refine wpAny_For (h.use S hE fun v σ1 x g1 s1 l1 r1 S1 hE1 h1=>?_) (hf env)
  obtain⟨D,fs,rfl,e1,J,J0,JT,JN⟩:=h1
  obtain rfl:=r1.refI
  have I1:=S1.st.ds D fs e1
  obtain⟨kvs,pd,pr⟩:=I1.at_
  obtain⟨o,po,DO⟩:=YQ pd
  obtain⟨es,ep,h1,h2,h3,h4,h5⟩:=id DO
  refine wpAny_pyIter_dict (by simpa using QI S1.st I1.kn) ⟨o,es,po,h1,h2,h3,h4,h5⟩ ?_
  have S2:=S1.pushed (Le.refl g1) (S1.st.push {cls:=.type "dict_keyiterator",data:=.fields #[.ref D,.int 0 0,.int kvs.length 0,.int ep 0]})
  have S3:=(S2.weaken (σ1.dropD_le D)).hide (S1.st.freeD e1) (o:=o) (Heap.get?_push_of_some _ po) I1.kn I1.gn
  have hDs:s1.heap.objs.size≠D:=Nat.ne_of_gt (Heap.lt_size po)
  have F3:Apart [s1.heap.objs.size] (put k D o) g1 (σ1.dropD D):=fun b m=>by
   rw[List.mem_singleton]at m;subst m
   have f:=(S1.st.weaken (σ1.dropD_le D)).fresh (Nat.le_refl _)
   exact⟨Yz f.kn hDs,f.gn,f.free⟩
  have hDL:env.locals≠D:=S1.lne I1.kn
  have hitems:(kvs.map fun p=>V.int p.1)=fs.map fun p=>V.int p.1:=by
   have:=congrArg (List.map V.int) pr.1
   rw[List.map_map,List.map_map]at this
   exact this.symm
  have S4:Sit w os₀ d (Dn c D fs) A env (put k D o) g1 ρ (σ1.dropD D) {s1 with heap:=s1.heap.push {cls:=.type "dict_keyiterator",data:=.fields #[.ref D,.int 0 0,.int kvs.length 0,.int ep 0]}}:=
   {S3 with
    pins:=fun p m=>by
     rw[show(Dn c D fs).pin=[(D,fs)]from rfl,List.mem_singleton]at m;subst m
     exact⟨o,kvs,put_self ..,DO,pr⟩
    pinL:=fun p m=>by
     rw[show(Dn c D fs).pin=[(D,fs)]from rfl,List.mem_singleton]at m;subst m
     exact Ne.symm hDL}
  refine Gv (k₀:=put (fun q_=>none) D o) (J:=J) (R:=fun q_ q_=>False) S4 ((Bh hA _ D (.inr (put_self ..)) h1 h2 h3 h4 h5).forT ht) (fun b x e=>?_) (Yz rfl hDL) ⟨_,Heap.get?_push_size _ rfl,rfl,rfl⟩ F3 J0 (fun q_ q_ q_ q_=>trivial) (fun i v ρ1 σ2 hi j=>JT i v ρ1 σ2 (by rw[←hitems];exact hi) j) (fun ρ' σ' g' s' l S' j=>?_) fun v ρ' σ' x g' s' l r S' q=>q.elim
  ·unfold put at e⊢;split at e
   ·rename_i z;rw[if_pos z];exact e
   ·cases e
  ·have kD:=S'.st.kp.at (fun q=>hDL (Option.some.inj q)) (put_self k D o) (by rw[h1.1];decide)
   have gD:g' D=none:=S'.st.kg _ _ (put_self ..)
   have fD:=S'.st.freeOf (put_self k D o)
   have S5:Sit w os₀ d c A env k g' ρ' σ' s':={S' with st:=S'.st.kdown (Js (.inl I1.kn)) S.st.m2 (fun b q=>by cases q;exact S.kl),pins:=S1.pins.mono (Le.refl k) l,pinL:=S1.pinL,frs:=S.frs}
   have S6:=S5.st.addD (a:=D) (fs:=fs) ⟨gD,I1.kn,kvs,DO.dictOf kD,pr.mono l⟩ fD.ss fD.d
   rw[List.length_map,←pr.length]at j
   exact hN _ _ g' _ (l1.trans l) (S5.turn (Le.refl g') S6 fun q_ e=>e) (JN _ _ j)
end
end
section
noncomputable def VM:Nat→List V→List V
 |_,[]=>[]
 |n,v::vs=>.tup [.int n,v]::VM (n+1) vs
theorem XW:∀(vs:List V) (n i:Nat),(VM n vs)[i]? =(vs[i]?).map fun v=>.tup [.int (n+i:Nat),v]
 | [],n,i=>by simp[VM]
 |v::vs,n,0=>by simp[VM]
 |v::vs,n,i+1=>by
  simp only[VM,List.getElem?_cons_succ]
  rw[XW vs (n+1) i]
  have:n+1+i=n+(i+1):=by lia
  rw[this]
theorem Vt:∀(vs:List V) (n:Nat),(VM n vs).length=vs.length
 | [],_=>rfl
 |v::vs,n=>by simp[VM,Vt vs (n+1)]
section
variable{w:World}{os₀:OsState}{lv:Option Addr}{d d':Nat}{c:Ctx}{A:Around}{env:Env}{k k' g g':Frz}{ρ ρ':Loc}{σ σ':Hp}{s s':Shared}{X:Addr→Loc→Hp→Prop}{a:Addr}
theorem Zav{k₀ g₀:Frz}(hh:A.handled=none)(E I l:Addr)(hne:E≠I)(v:V)(vs:List V)(r0:VR w g₀ v (.ref l)){es:List Expr}{x1:Nat}{tp:Pos}:
  Zai w os₀ A k₀ g₀ E [E,I] (VM 0 vs) (fun σ=>ZV σ v=some vs) (fun i h=>(∃old,IsEnum h E I ((i:Nat):Int) old)∧h.IsListIter I l i) (.Tuple es x1 tp) where
 frame:=fun i h h' ⟨⟨old,e⟩,st⟩ q=>⟨⟨old,q E (.head _) _ e⟩,st.at fun o z=>q I (.tail _ (.head _)) o z⟩
 live:=fun i h ⟨⟨old,e⟩,st⟩ b m=>by
  rcases List.mem_cons.mp m with rfl|m
  ·exact⟨_,e,by simp⟩
  ·rw[List.mem_singleton]at m;subst m
   obtain⟨o,ho,hc,_⟩:=st
   exact⟨o,ho,by rw[hc];decide⟩
 turn:=fun {i x s lv k g σ B C E1 E2} hi ⟨⟨old,he⟩,st⟩ l0 _ _ S ok F hB=>by
  obtain⟨l',Vs,n,e1,p,r⟩:=S.list ok (r0.mono l0)
  cases e1
  rw[XW,Option.map_eq_some_iff]at hi
  obtain⟨y,hy,rfl⟩:=hi
  rw[Nat.zero_add]at hB
  obtain⟨z,hz,rz⟩:=r.get hy
  refine wpAny_pyNext_enum_item he st (ZM p) (x:=z) (by simpa using hz) hne fun h1 heo hit ht1 hz1 hk1=>?_
  refine wpAny_letOwnedTupleGo_enum heo fun h2 he2 hs2=>?_
  replace hs2:Heap.SameBut E h1 h2:=hs2
  have bl:Wc [E,I] s.heap h2:=fun b o nb e=>by
   have nE:b≠E:=fun q=>nb (by rw[q];exact .head _)
   have nI:b≠I:=fun q=>nb (by rw[q];exact .tail _ (.head _))
   exact(hs2.2 b nE).trans (hk1 b o nE nI e)
  have S1:St w os₀ lv k g σ {s with heap:=h2,toks:=s.toks+1}:=S.butL F bl rfl rfl
  have fr:=S.fresh (Nat.le_refl _)
  have hE:E<s.heap.objs.size:=Heap.lt_size he
  have e2:h2.get? s.heap.objs.size=some (Qa [.int i s.toks,z]):=(hs2.2 _ (Nat.ne_of_gt hE)).trans ht1
  obtain⟨S2,l2⟩:=S1.freezeAny (a:=s.heap.objs.size) fr.free fr.kn e2
  have hI:I<s.heap.objs.size:=by obtain⟨o,ho,_⟩:=st;exact Heap.lt_size ho
  have hit2:h2.IsListIter I l (i+1):=Heap.IsListIter.extBut hit hs2.extBut (Ne.symm hne)
  refine hB _ h2 (s.toks+1) _ l2 (.tup _ _ _ (put_self ..) (.cons (.int _ _) (.cons (rz.mono l2) .nil))) ⟨⟨z,?_⟩,hit2⟩ S2 bl fun b m=>?_
  ·have:((i+1:Nat):Int)=(i:Int)+1:=by push_cast;rfl
   rw[this];exact he2
  ·obtain⟨f1,f2,f3⟩:=F b m
   refine⟨f1,Yz f2 ?_,f3⟩
   rcases List.mem_cons.mp m with rfl|m
   ·exact Nat.ne_of_lt hE
   ·rw[List.mem_singleton]at m;subst m;exact Nat.ne_of_lt hI
 fin:=fun {s lv k g σ C D E1} ⟨⟨old,he⟩,st⟩ l0 _ _ S ok F hC=>by
  obtain⟨l',Vs,n,e1,p,r⟩:=S.list ok (r0.mono l0)
  cases e1
  rw[Vt]at st he
  refine wpAny_pyNext_enum_end hh he st (ZM p) (by simp[r.length]) fun h' hx=>?_
  have bl:Wc [E,I] s.heap h':=fun b o nb e=>hx b o (fun q=>nb (by rw[q];exact .tail _ (.head _))) e
  exact hC h' s.toks (S.butL F bl rfl rfl) bl
inductive Zap(d:Nat)(c:Ctx)(ρ:Loc)(es:List Expr)(x1:Nat)(tp:Pos)(body:List Stmt)(N:Loc→Hp→Prop)(R:V→Hp→Prop)(v:V)(σ1:Hp):Prop
 |mk (vs:_) (h1:ZV σ1 v=some vs) (J:Nat→Loc→Hp→Prop) (h2:J 0 ρ σ1) (h3:(∀i ρ σ,J i ρ σ→ZV σ v=some vs)) (h4:(∀i x ρ1 σ2,vs[i]? =some x→J i ρ1 σ2→WA c d (.Tuple es x1 tp) (.tup [.int i,x]) ρ1 σ2 (fun ρ2 σ3=>WS c d body ρ2 σ3 (J (i+1)) R YS) YS)) (h5:(∀ρ1 σ2,J vs.length ρ1 σ2→N ρ1 σ2)):Zap d c ρ es x1 tp body N R v σ1
theorem Ht{es:List Expr}{x1:Nat}{tp p cp pos:Pos}{e:Expr}{body:List Stmt}{N:Loc→Hp→Prop}{R:V→Hp→Prop}(hh:c.hd=none)(hn:c.scope.names.lookup ("enumerate" :Str)=some .globalImplicit)(hs:JM [e]=true)
  (h:WE c d e ρ σ (Zap d c ρ es x1 tp body N R) X):WX c d (.For (.Tuple es x1 tp) (.Call (.Name "enumerate" p) [e] [] cp) body [] pos) ρ σ N R X:=
 WX.mk fun w os₀ A env k g s Q' E' S hE hN hR=>by
  have hA:A.handled=none:=by rw[S.hd,hh];rfl
  refine wpAny_For (wpAny_Call_NameR ?_) (fun q_=>rfl)
  have hname:WE c d (.Name "enumerate" p) ρ σ (fun f σ0=>f=.bi (.type "enumerate")∧σ0=σ) X:=YH (v:=.type "enumerate") hn (fun P=>by kernel_rfl) (fun P=>by kernel_rfl) rfl ⟨rfl,rfl⟩
  refine hname.use S hE fun f σ0 fv g0 s0 l0 rf S0 hE0 h0=>?_
  obtain⟨rfl,rfl⟩:=h0
  obtain rfl:=rf.biI
  have hl:WL c d [e] ρ σ0 (fun us σ1=>∃v,us=[v]∧Zap d c ρ es x1 tp body N R v σ1) X:=Zh (h.mono fun v σ1 q=>ZW ⟨v,rfl,q⟩) (Bool.and_eq_true_iff.mp hs).1
  refine callWith_of (P:=fun hp=>True) (by rw[Jj hs];simp[backTo]) (fun hp P=>⟨.machine,.inr (.inl rfl),.now⟩) ?_
  have fin:=hl.use (pos:=cp) (Q':=fun xs s1=>True∧wpAny (model PW w) A (call (.type "enumerate") ([]++xs)) (fun x s₁=>wpAny (model PW w) A (pyIter x) (fun it s₂=>codeAny (model PW w) A (.forLoop (.Tuple es x1 tp) it body [] env) (fun r s'=>match r with| .ok f=>Q' f s'| .error e=>cameBackBy (model PW w) A env E' e s') s₂) E' s₁) E' s1) (E':=E') S0 hE0 fun us σ1 xs g1 s1 l1 r1 S1 hE1 h1=>by
   obtain⟨v,rfl,vs,el,J,J0,JO,JT,JN⟩:=h1
   cases r1 with
   |cons r1 r2=>
   cases r2
   obtain⟨l,Vs,n,rfl,pl,rr⟩:=S1.st.list el r1
   refine⟨trivial,call_enumerate_list (ZM pl) fun h' he hit hsz hk=>?_⟩
   refine wpAny_pyIter_enum he ?_
   have S2:Sit w os₀ d c A env k g1 ρ σ1 {s1 with heap:=h'}:=S1.keep hk rfl rfl
   have f1:=S1.st.fresh (Nat.le_succ s1.heap.objs.size)
   have f2:=S1.st.fresh (Nat.le_refl s1.heap.objs.size)
   refine Gv (E':=cameBackBy (model PW w) A env E') (k₀:=fun q_=>none) S2 (Zav hA _ _ l (Nat.succ_ne_self _) v vs r1) (Frz.le_none k) rfl ⟨⟨_,he⟩,hit⟩ (fun b m=>?_) J0 JO (fun i x ρ1 σ2 hi j=>?_) (fun ρ' σ' g' s' l S' j=>hN _ _ g' _ ((l0.trans l1).trans l) S' (JN _ _ (by rwa [Vt]at j))) fun v ρ' σ' x g' s' l r S' q=>hR _ _ _ _ g' _ ((l0.trans l1).trans l) r S' q
   ·rcases List.mem_cons.mp m with rfl|m
    ·exact⟨f1.kn,f1.gn,f1.free⟩
    ·rw[List.mem_singleton]at m;subst m;exact⟨f2.kn,f2.gn,f2.free⟩
   ·rw[XW,Option.map_eq_some_iff]at hi
    obtain⟨y,hy,rfl⟩:=hi
    rw[Nat.zero_add]
    exact JT i y ρ1 σ2 hy j
  rw[Jj hs]at fin⊢
  exact evalArgs_plain fin
end
end
section
section
variable{w:World}{A:Around}{E:Value→Shared→Prop}{s:Shared}{a:Addr}{xs:Array Value}{k:Nat}
theorem B9:typeLookup (.type "tuple") "keys" =pure none:=by rw[typeLookup_type,builtinLookup_eq_fast];kernel_rfl
theorem Du:typeLookup (.type "list") "keys" =pure none:=by rw[typeLookup_type,builtinLookup_eq_fast];kernel_rfl
theorem OL{Q:Option Value→Shared→Prop}(hA:A.handled=none)(hx:s.heap.get? a=some {cls:=.type "tuple",data:=.seq xs k})
  (h:∀h' tk,(∀b o,s.heap.get? b=some o→h'.get? b=some o)→Q none {s with heap:=h',toks:=tk}):wpAny (model PW w) A (getAttr? (.ref a) "keys") Q E s:=by
 obtain⟨hp,g,d,tk,os⟩:=s
 have hT:∀tk',(⟨hp,g,d,tk',os⟩:Shared).TypeIs (.ref a) "tuple" :=fun q_=>⟨_,hx,rfl⟩
 have f1:=sub_AttributeError
 have f3:=PySem.F.slot_tuple_getattribute.lookup
 have f4:=PySem.F.slot_tuple_getattribute.bind (.ref a)
 have f5:=am_tuple_getattr_none
 unfold getAttr? getAttrBy? getAttrBy
 repeat (any_goals (first|assumption|exact hT _| ((with_reducible show wpAny _ _ (call (Value.builtin "tuple.__getattribute__") _ _) _ _ _);refine call_meets PySem.F.slot_tuple_getattribute (hT _) am_entry_tuple_getattribute (PySem.F.args_tuple_getattribute_2 _ _) (meets_getattribute_miss_tuple a xs k #[] "keys" _ B9 (by decide)) ⟨hx,hA,fun h' tk' e hx'=>?_⟩)|wp_step))
 obtain⟨t',u',he⟩:=hx'.there
 show wpAny _ _ (getattributeRaised _ _ _ _ _ _ _) _ _ _
 unfold getattributeRaised
 repeat (any_goals (first|assumption|wp_step))
 exact h h' tk' hx'.of.keeps
theorem ZaD{Q:Option Value→Shared→Prop}(hA:A.handled=none)(hx:s.heap.get? a=some {cls:=.type "list",data:=.seq xs k})
  (h:∀h' tk,(∀b o,s.heap.get? b=some o→h'.get? b=some o)→Q none {s with heap:=h',toks:=tk}):wpAny (model PW w) A (getAttr? (.ref a) "keys") Q E s:=by
 obtain⟨hp,g,d,tk,os⟩:=s
 have hT:∀tk',(⟨hp,g,d,tk',os⟩:Shared).TypeIs (.ref a) "list" :=fun q_=>⟨_,hx,rfl⟩
 have f1:=sub_AttributeError
 have f3:=PySem.F.slot_list_getattribute.lookup
 have f4:=PySem.F.slot_list_getattribute.bind (.ref a)
 have f5:=am_list_getattr_none
 unfold getAttr? getAttrBy? getAttrBy
 repeat (any_goals (first|assumption|exact hT _| ((with_reducible show wpAny _ _ (call (Value.builtin "list.__getattribute__") _ _) _ _ _);refine call_meets PySem.F.slot_list_getattribute (hT _) am_entry_list_getattribute (PySem.F.args_list_getattribute_2 _ _) (meets_getattribute_miss_list a xs k #[] "keys" _ Du (by decide)) ⟨hx,hA,fun h' tk' e hx'=>?_⟩)|wp_step))
 obtain⟨t',u',he⟩:=hx'.there
 show wpAny _ _ (getattributeRaised _ _ _ _ _ _ _) _ _ _
 unfold getattributeRaised
 repeat (any_goals (first|assumption|wp_step))
 exact h h' tk' hx'.of.keeps
end
theorem Bu:entryFor table "dict.update.loop" =some Builtin.«dict.update.loop»:=entryFor_of_tree (by kernel_rfl)
noncomputable def Jp{β:Type}(ps:List (Int×β)):List (Int×β):=ps.foldl (fun m p=>aset m p.1 p.2) []
theorem Za3{β:Type}{l:List (Int×β)}(h:(l.map (·.1)).Nodup)(k:Int):aget (Jp l) k=aget l k:=(Zaf l [] k h).trans (Option.or_none ..)
section
variable{w:World}{os₀:OsState}{A:Around}{k g:Frz}{σ:Hp}{s:Shared}
structure Nx(w:World)(it:Addr)(Vs:List Value)(At:Nat→Heap→Prop)(l:Addr):Prop where
 keep:∀i h h',At i h→(∀o,h.get? it=some o→h'.get? it=some o)→(∀o,h.get? l=some o→h'.get? l=some o)→At i h'
 item:∀{A:Around} {E:Value→Shared→Prop} {s:Shared} {i:Nat} {x:Value} {Q:Option Value→Shared→Prop},At i s.heap→Vs[i]? =some x→(∀h',At (i+1) h'→Heap.SameBut it s.heap h'→Q (some x) {s with heap:=h'})→wpAny (model PW w) A (pyNext (.ref it)) Q E s
 fin:∀{A:Around} {E:Value→Shared→Prop} {s:Shared} {Q:Option Value→Shared→Prop},A.handled=none→At Vs.length s.heap→(∀h',Heap.ExtBut it s.heap h'→Q none {s with heap:=h'})→wpAny (model PW w) A (pyNext (.ref it)) Q E s
theorem Zdx{it l:Addr}{Vs:List Value}(hne:it≠l):Nx w it Vs (fun i h=>h.IsListIter it l i∧h.IsList l Vs.toArray) l where
 keep:=fun i h h' st a b=>⟨st.1.at a,st.2.at b⟩
 item:=fun st hx hq=>wpAny_pyNext_list_item st.1 st.2 (by simpa using hx) fun h' h1 h2=>hq h' ⟨h1,st.2.at fun o e=>(h2.2 _ (Ne.symm hne)).trans e⟩ h2
 fin:=fun hh st hq=>wpAny_pyNext_list_end hh st.1 st.2 (by simp) hq
theorem ZbE{it l:Addr}{Vs:List Value}(hne:it≠l):Nx w it Vs (fun i h=>h.IsTupleIter it l i∧h.IsTuple l Vs.toArray) l where
 keep:=fun i h h' st a b=>⟨st.1.at a,st.2.at b⟩
 item:=fun st hx hq=>wpAny_pyNext_tuple_item st.1 st.2 (by simpa using hx) fun h' h1 h2=>hq h' ⟨h1,st.2.at fun o e=>(h2.2 _ (Ne.symm hne)).trans e⟩ h2
 fin:=fun hh st hq=>wpAny_pyNext_tuple_end hh st.1 st.2 (by simp) hq
set_option tactic.hygienic true in
theorem Da{D it l:Addr}{Vs:List Value}{At:Nat→Heap→Prop}(N:Nx w it Vs At l)(hDi:D≠it)(hDl:D≠l)(hil:it≠l)(hh:A.handled=none){ps:List (Int×V)}(hz:ps.length≤10000)(rV:VRs w g (ps.map fun p=>.tup [.int p.1,p.2]) Vs){R:Result→Shared→Prop}(fD:Free σ D)(kD:k D=none)(gD:g D=none)(fI:Free σ it)(kI:k it=none)(gI:g it=none):
  ∀(n i:Nat) (s:Shared) (fs:List (Int×V)) (kvs:List (Int×Value)),n+i=ps.length→At i s.heap→St w os₀ none k g σ s→s.heap.DictOf (intKind PW w) D kvs→PR w g fs kvs→fs.length≤i→
   (∀h' tk kvs',St w os₀ none k g σ {s with heap:=h',toks:=tk}→h'.DictOf (intKind PW w) D kvs'→PR w g ((ps.drop i).foldl (fun m p=>aset m p.1 p.2) fs) kvs'→R (.ok (.ret .none)) {s with heap:=h',toks:=tk})→
   codeAny (model PW w) A (.builtin "dict.update.loop" ⟨[.ref D,.ref it,rawInt (i:Nat),.none],[]⟩) R s
 |0,i,s,fs,kvs,hn,at_,S,hd,pr,hl,hq=>by
  have e:i=ps.length:=by lia
  subst e
  refine codeAny_builtin Bu ?_
  have hV:Vs.length=ps.length:=by rw[←rV.length,List.length_map]
  unfold Builtin.«dict.update.loop»
  refine wpAny_bind (N.fin hh (by rw[hV];exact at_) fun h' hx=>?_)
  have S1:=S.other (s':={s with heap:=h'}) fI kI gI (fun b o n e=>hx b o n e) rfl rfl
  have hd1:=hd.extBut hx hDi
  rw[List.drop_length,List.foldl_nil]at hq
  refine wpAny_bind (wpAny_pure (wpAny_pure ?_))
  exact hq h' s.toks kvs S1 hd1 pr
 |n+1,i,s,fs,kvs,hn,at_,S,hd,pr,hl,hq=>by
  refine codeAny_builtin Bu ?_
  unfold Builtin.«dict.update.loop»
  have hi:i<ps.length:=by lia
  have e1:(ps.map fun p=>V.tup [.int p.1,p.2])[i]? =some (.tup [.int ps[i].1,ps[i].2]):=by simp[hi]
  obtain⟨x,hx,rx⟩:=rV.get e1
  refine wpAny_bind (N.item at_ hx fun h' at1 hs=>?_)
  have S1:=S.other (s':={s with heap:=h'}) fI kI gI (fun b o n e=>(hs.2 b n).trans e) rfl rfl
  have hd1:Heap.DictOf (intKind PW w) h' D kvs:=hd.extBut hs.extBut hDi
  cases rx with
  |tup t us Us et ru=>
  cases ru with
  |cons ra ru=>
  cases ru with
  |cons rb ru=>
  cases ru;obtain⟨_,rfl⟩:=ra.intI
  rename_i z tk0
  have pt:h'.get? t=some (Qa [.int ps[i].1 tk0,z]):=S1.fr _ _ et
  refine wpAny_bind (wpAny_holding ?_)
  refine wpAny_bind (wpAny_tryCatch ?_)
  unfold Builtin.Dict.pairItems
  refine wpAny_bind (wpAny_typeOf ⟨_,pt,rfl⟩ ?_)
  rw[if_pos (by decide)]
  refine wpAny_bind (wpAny_seqItems pt rfl (wpAny_pure ?_))
  show wpAny _ _ (holding [Value.int ps[i].1 tk0,z] (dictSet D (Value.int ps[i].1 tk0) z)) _ _ _
  have hn1:(kvs.map (·.1)).Nodup:=let⟨_,_,_,_,_,_,_,_,z⟩:=hd1;z
  refine wpAny_holding (wpAny_dictSet_pairs (knd:=intKind PW w) (k:=ps[i].1) (by simp[intKind,Value.isInt]) hd1 (fun h2 hd2 hs2=>?_) (by rw[←pr.length];exact Nat.le_trans hl (Nat.le_trans (Nat.le_of_lt hi) (Nat.le_trans hz (by decide)))))
  have S2:=S1.other (s':={s with heap:=h2,toks:=s.toks+1}) fD kD gD (fun b o n e=>(hs2.2 b n).trans e) rfl rfl
  refine wpAny_pure ⟨Code.quiet_builtin _ (by decide+kernel),?_⟩
  have hi2:((i:Int)+1)=((i+1:Nat):Int):=by push_cast;rfl
  rw[hi2]
  have at2:At (i+1) h2:=N.keep _ _ _ at1 (fun o e=>(hs2.2 _ (Ne.symm hDi)).trans e) fun o e=>(hs2.2 _ (Ne.symm hDl)).trans e
  have hl2:(aset fs ps[i].1 ps[i].2).length≤i+1:=by
   have:=Q2 fs ps[i].1 ps[i].2;exact Nat.le_trans (by assumption) (Nat.succ_le_succ (by assumption))
  refine Da N hDi hDl hil hh hz rV fD kD gD fI kI gI n (i+1) _ (aset fs ps[i].1 ps[i].2) _ (by lia) at2 S2 hd2 (pr.set hn1 rb) hl2 fun h3 tk3 kvs3 S3 hd3 pr3=>?_
  refine hq h3 tk3 kvs3 S3 hd3 ?_
  rw[List.drop_eq_getElem_cons hi,List.foldl_cons]
  exact pr3
theorem Xj{d:Nat}{v:V}{ps:List (Int×V)}{Q:V→Hp→Prop}{X:Addr→Hp→Prop}(e:UK σ v=some (ps.map fun p=>.tup [.int p.1,p.2]))(hz:ps.length≤10000)
  (h:∀D,σ.ds D=none→Q (.ref D) {σ with ds:=up σ.ds D (some (Jp ps))}):ZO d (.bi (.type "dict")) [v] σ Q X:=
 ⟨fun w os₀ A k g s fv xs Q' E' S rf ra rm hh fr hQ hX=>by
  obtain rfl:=rf.biI
  cases ra with
  |cons r r2=>
  cases r2
  obtain⟨l,Vs,n,T,rfl,hT,p,rr⟩:=S.seq e r
  have F:=S.fresh (Nat.le_refl _)
  refine callType_codes (Q₁:=fun obj s₁=>obj=.ref s.heap.objs.size∧s₁={s with heap:=s.heap.push {cls:=.type "dict",data:=.dict #[]}}) PySem.F.kt_called_dict (PySem.F.kt_typeCall_dict_1 _) PySem.F.entry_dict_init (kt_code_dict_new _ ⟨rfl,rfl⟩) ?_
  rintro obj s₁ ⟨rfl,rfl⟩
  have hnew:(s.heap.push {cls:=.type "dict",data:=.dict #[]}).DictOf (intKind PW w) s.heap.objs.size []:=Heap.DictOf.new s.heap
  have p1:=Heap.get?_push_of_some {cls:=.type "dict",data:=.dict #[]} p
  have S1:=S.push {cls:=.type "dict",data:=.dict #[]}
  have hDl:s.heap.objs.size≠l:=Nat.ne_of_gt (Heap.lt_size p)
  refine⟨hnew.typeIs,PySem.F.args_dict_init_2 _ _,?_⟩
  unfold Builtin.«dict.__init__»
  refine wpAny_bind ?_
  unfold Builtin.Dict.selfAndRest
  refine wpAny_bind (wpAny_notOrdered_dict hnew.typeIs ?_)
  show wpAny _ _ (pure (s.heap.objs.size,[Value.ref l])) _ _ _
  refine wpAny_pure ?_
  show wpAny _ _ (Builtin.Dict.updateFrom "dict.__init__" s.heap.objs.size (.ref l) [] .none) _ _ _
  unfold Builtin.Dict.updateFrom
  refine wpAny_bind (wpAny_typeOf ⟨_,p1,rfl⟩ ?_)
  have hh2:A.in1.in1.handled=none:=hh
  have go:∀(h2:Heap) (tk:Nat) (it:Addr) (At:Nat→Heap→Prop),(∀b o,(s.heap.push {cls:=.type "dict",data:=.dict #[]}).get? b=some o→h2.get? b=some o)→(s.heap.push {cls:=.type "dict",data:=.dict #[]}).objs.size≤it→it≠l→Nx w it Vs At l→At 0 h2→
    codeAny (model PW w) A.in1 (.builtin "dict.update.loop" ⟨[.ref s.heap.objs.size,.ref it,rawInt 0,.none],[]⟩) (wants (fun r s₂=>r=.none∧Q' (.ref s.heap.objs.size) s₂) E') {s with heap:=h2,toks:=tk}:=fun h2 tk it At hk hge hil N at0=>by
   have S2:=S1.grow (tk:=tk) hk
   have FI:=S1.fresh hge
   have fDl:s.heap.objs.size≠it:=by rw[Heap.size_push]at hge;lia
   rw[show(0:Int)=((0:Nat):Int)from rfl]
   refine Da (A:=A.in1) N fDl hDl hil hh hz rr F.free F.kn F.gn FI.free FI.kn FI.gn ps.length 0 {s with heap:=h2,toks:=tk} [] [] (by rfl) at0 S2 (hnew.keep hk) PR.nil (Nat.zero_le _) fun h3 tk3 kvs3 S3 hd3 pr3=>?_
   rw[List.drop_zero]at pr3
   have S4:=S3.addD (a:=s.heap.objs.size) (fs:=Jp ps) ⟨F.gn,F.kn,kvs3,hd3,pr3⟩ F.ss F.d
   exact⟨rfl,hQ _ _ _ g _ (Le.refl g) (.ref _) S4 (h _ F.ds)⟩
  rcases hT with rfl|rfl
  ·rw[if_pos (by decide)]
   refine wpAny_bind (ZaD hh2 p1 fun h2 tk hk=>?_)
   rw[if_pos (by decide)]
   refine wpAny_bind (wpAny_rule (wpAny_bind (wpAny_pyIter_list (ZM (hk _ _ p1)) ?_)))
   refine wpAny_pure ⟨Code.quiet_builtin _ (by decide+kernel),?_⟩
   have hge:(s.heap.push {cls:=.type "dict",data:=.dict #[]}).objs.size≤h2.objs.size:=by
    rcases Nat.lt_or_ge h2.objs.size (s.heap.push {cls:=.type "dict",data:=.dict #[]}).objs.size with hlt|hge
    ·rw[Heap.size_push]at hlt
     have e0:=hk s.heap.objs.size _ (Heap.get?_push_size _ rfl)
     have: @LT.lt Nat _ s.heap.objs.size h2.objs.size:=Heap.lt_size e0
     lia
    ·exact hge
   have hil:h2.objs.size≠l:=Nat.ne_of_gt (Heap.lt_size (hk _ _ p1))
   exact go _ _ h2.objs.size _ (fun b o e=>Heap.get?_push_of_some _ (hk _ _ e)) hge hil (Zdx hil) ⟨⟨_,Heap.get?_push_size _ rfl,rfl,rfl⟩,ZM (Heap.get?_push_of_some _ (hk _ _ p1))⟩
  ·rw[if_pos (by decide)]
   refine wpAny_bind (OL hh2 p1 fun h2 tk hk=>?_)
   rw[if_pos (by decide)]
   have it2:∀h:Heap,h.get? l=some {cls:=.type "tuple",data:=.seq Vs.toArray n}→h.IsTuple l Vs.toArray:=fun h e=>⟨_,e,rfl,n,rfl⟩
   refine wpAny_bind (wpAny_rule (wpAny_bind (wpAny_pyIter_tuple (it2 _ (hk _ _ p1)) ?_)))
   refine wpAny_pure ⟨Code.quiet_builtin _ (by decide+kernel),?_⟩
   have hge:(s.heap.push {cls:=.type "dict",data:=.dict #[]}).objs.size≤h2.objs.size:=by
    rcases Nat.lt_or_ge h2.objs.size (s.heap.push {cls:=.type "dict",data:=.dict #[]}).objs.size with hlt|hge
    ·rw[Heap.size_push]at hlt
     have e0:=hk s.heap.objs.size _ (Heap.get?_push_size _ rfl)
     have: @LT.lt Nat _ s.heap.objs.size h2.objs.size:=Heap.lt_size e0
     lia
    ·exact hge
   have hil:h2.objs.size≠l:=Nat.ne_of_gt (Heap.lt_size (hk _ _ p1))
   exact go _ _ h2.objs.size _ (fun b o e=>Heap.get?_push_of_some _ (hk _ _ e)) hge hil (ZbE hil) ⟨⟨_,Heap.get?_push_size _ rfl,rfl,rfl⟩,it2 _ (Heap.get?_push_of_some _ (hk _ _ p1))⟩⟩
end
end
section
noncomputable def GlF(x:Str)(f:Addr):Prop:=∀P,(nsIn (KK P) mainGlobals x,keepIn (KK P) (.ref f))=(some (some (.ref f)),true)
theorem GlF.n{x:Str}{f:Addr}(h:GlF x f)(P:Params):nsIn (KK P) mainGlobals x=some (some (.ref f)):=(Prod.mk.inj (h P)).1
theorem GlF.k{x:Str}{f:Addr}(h:GlF x f):Kg (.ref f):=fun P=>(Prod.mk.inj (h P)).2
theorem DC:∀P,nsIn (KK P) mainGlobals "MintError" =some (some (.ref 46)):=fun P=>by kernel_rfl
theorem VD:∀P,nsIn (KK P) mainGlobals "MachineError" =some (some (.ref 71)):=fun P=>by kernel_rfl
theorem Qo:GlF "wrap" 87:=fun P=>by kernel_rfl
theorem Vi:GlF "bit" 94:=fun P=>by kernel_rfl
theorem YO:∀P,nsIn (KK P) mainGlobals "STACK_debug" =some (some (.int 4 308)):=fun P=>by kernel_rfl
theorem ZbT:∀P,nsIn (KK P) mainGlobals "FRAME" =some (some (.int 5 310)):=fun P=>by kernel_rfl
theorem NE:GlF "Debugger" 232:=fun P=>by kernel_rfl
theorem WR:GlF "Decoded" 260:=fun P=>by kernel_rfl
theorem ZcF:∀P,nsIn (KK P) mainGlobals "CF" =some (some (.int 0 549)):=fun P=>by kernel_rfl
theorem ZcC:∀P,nsIn (KK P) mainGlobals "PF" =some (some (.int 2 551)):=fun P=>by kernel_rfl
theorem ZcG:∀P,nsIn (KK P) mainGlobals "AF" =some (some (.int 4 553)):=fun P=>by kernel_rfl
theorem ZcA:∀P,nsIn (KK P) mainGlobals "ZF" =some (some (.int 6 555)):=fun P=>by kernel_rfl
theorem ZcB:∀P,nsIn (KK P) mainGlobals "SF" =some (some (.int 7 557)):=fun P=>by kernel_rfl
theorem ZcE:∀P,nsIn (KK P) mainGlobals "DF" =some (some (.int 10 559)):=fun P=>by kernel_rfl
theorem ZcD:∀P,nsIn (KK P) mainGlobals "OF" =some (some (.int 11 561)):=fun P=>by kernel_rfl
theorem DD:GlF "Flags" 344:=fun P=>by kernel_rfl
theorem ND:∀P,nsIn (KK P) mainGlobals "NAMES_64" =some (some (.str "rax rcx rdx rbx rsp rbp rsi rdi" 724)):=fun P=>by kernel_rfl
theorem NC:GlF "Register" 435:=fun P=>by kernel_rfl
theorem HL:GlF "early_names" 446:=fun P=>by kernel_rfl
theorem D5:GlF "gpr" 460:=fun P=>by kernel_rfl
theorem Y4:∀P,nsIn (KK P) mainGlobals "STACK_machine" =some (some (.int 4 821)):=fun P=>by kernel_rfl
theorem ZbS:∀P,nsIn (KK P) mainGlobals "TRAPS" =some (some (.str "ud2 int int3 syscall cpuid" 823)):=fun P=>by kernel_rfl
theorem Bs:GlF "Memory" 550:=fun P=>by kernel_rfl
theorem KA:GlF "joined_machine" 561:=fun P=>by kernel_rfl
theorem D9:GlF "State" 667:=fun P=>by kernel_rfl
theorem Zd7:GlF "done" 678:=fun P=>by kernel_rfl
theorem OO:GlF "proceed" 685:=fun P=>by kernel_rfl
theorem Ha:GlF "need_running" 692:=fun P=>by kernel_rfl
theorem KS:GlF "step_row" 699:=fun P=>by kernel_rfl
theorem ZeF:GlF "Reg" 772:=fun P=>by kernel_rfl
theorem ZaM:GlF "Imm" 806:=fun P=>by kernel_rfl
theorem ZaL:GlF "Rel" 847:=fun P=>by kernel_rfl
theorem ZA:GlF "Instruction" 900:=fun P=>by kernel_rfl
theorem DB:∀P,nsIn (KK P) mainGlobals "RCX" =some (some (.int 1 1419)):=fun P=>by kernel_rfl
theorem D4:GlF "move_deed" 925:=fun P=>by kernel_rfl
theorem GZ:GlF "push_operand" 932:=fun P=>by kernel_rfl
theorem HK:GlF "pop_operand" 939:=fun P=>by kernel_rfl
theorem JK:GlF "stack_deed" 946:=fun P=>by kernel_rfl
theorem XO:GlF "target_of" 953:=fun P=>by kernel_rfl
theorem BC:GlF "count_down" 960:=fun P=>by kernel_rfl
theorem NA:GlF "is_taken" 967:=fun P=>by kernel_rfl
theorem Vh:GlF "jump_deed" 974:=fun P=>by kernel_rfl
theorem QD:GlF "transfer_deed" 1096:=fun P=>by kernel_rfl
theorem D6:∀P,nsIn (KK P) mainGlobals "_law_most" =some (some (.int 22 1703)):=fun P=>by kernel_rfl
theorem Uv:GlF "_law_raw" 1103:=fun P=>by kernel_rfl
theorem Y0:GlF "_law_draw" 1110:=fun P=>by kernel_rfl
theorem Yw:GlF "_law_reg" 1117:=fun P=>by kernel_rfl
theorem Gt:GlF "_law_function" 1124:=fun P=>by kernel_rfl
theorem D8:GlF "_law_bent" 1131:=fun P=>by kernel_rfl
theorem Hb:GlF "_law_program" 1138:=fun P=>by kernel_rfl
theorem QP:GlF "_law_load" 1143:=fun P=>by kernel_rfl
theorem Gs:GlF "_law_recorded" 1150:=fun P=>by kernel_rfl
theorem BD:GlF "_law_calls" 1157:=fun P=>by kernel_rfl
theorem Hc:GlF "_law_changed" 1162:=fun P=>by kernel_rfl
theorem Qz:GlF "_law_led" 1169:=fun P=>by kernel_rfl
theorem HN:GlF "_law_frames" 1176:=fun P=>by kernel_rfl
theorem HM:GlF "_law_stands" 1181:=fun P=>by kernel_rfl
theorem NB:GlF "_law_set" 1186:=fun P=>by kernel_rfl
theorem D7:GlF "_law_deed" 1193:=fun P=>by kernel_rfl
section
variable{σ:Hp}{c:Ctx}{d:Nat}{ρ:Loc}{X:Addr→Loc→Hp→Prop}
noncomputable abbrev ZcO(ρ:Loc)(X:Addr→Loc→Hp→Prop)(a:Addr)(σ':Hp):Prop:=X a ρ σ'
noncomputable abbrev Zg1(d:Nat)(ρ:Loc)(X:Addr→Loc→Hp→Prop)(f:Addr)(Q:V→Hp→Prop)(vs:List V)(σ1:Hp):Prop:=ZO d (.ref f) vs σ1 Q (ZcO ρ X)
theorem Zb{x:Str}{f:Addr}{p pos:Pos}{es:List Expr}{Q:V→Hp→Prop}(hh:c.hd=none)(hs:JM es=true)(hk:c.scope.names.lookup x=some .globalImplicit)(hd:(x==("__debug__" :Str))=false)
  (hn:GlF x f) (h:WL c d es ρ σ (Zg1 d ρ X f Q) X):WE c d (.Call (.Name x p) es [] pos) ρ σ Q X:=
 Qi hh hs (Zw (v:=.ref f) hk hn.n rfl hd ⟨hn.k,h⟩)
noncomputable abbrev Zg0(d:Nat)(ρ:Loc)(X:Addr→Loc→Hp→Prop)(v:Value)(Q:V→Hp→Prop)(vs:List V)(σ1:Hp):Prop:=ZO d (.bi v) vs σ1 Q (ZcO ρ X)
theorem Z4{x:Str}{v:Value}{p pos:Pos}{es:List Expr}{Q:V→Hp→Prop}(hh:c.hd=none)(hs:JM es=true)(hk:c.scope.names.lookup x=some .globalImplicit)(hd:(x==("__debug__" :Str))=false)
  (hn:∀P,nsIn (KK P) mainGlobals x=some none) (hb:∀P,nsIn (KK P) builtinsNs x=some (some v)) (kp:Kg (.bi v)) (h:WL c d es ρ σ (Zg0 d ρ X v Q) X):WE c d (.Call (.Name x p) es [] pos) ρ σ Q X:=
 Qi hh hs (YH hk hn hb hd ⟨kp,h⟩)
inductive Zdb(c:Ctx)(d:Nat)(ρ:Loc)(X:Addr→Loc→Hp→Prop)(name:Str)(es:List Expr)(Q:V→Hp→Prop)(v:V)(σ0:Hp):Prop
 |mk (C:_) (fs:_) (f:_) (h1:Vg σ0 v=some (C,fs)) (h2:Zz C f name) (h3:aget fs name=none) (h5:WL c d es ρ σ0 (fun vs σ1=>ZO d (.ref f) (v::vs) σ1 Q (fun a σ'=>X a ρ σ')) X):Zdb c d ρ X name es Q v σ0
theorem Zj{o:Expr}{name:Str}{ap pos:Pos}{es:List Expr}{Q:V→Hp→Prop}(hh:c.hd=none)(hs:OD o ap pos es=true)
  (h:WE c d o ρ σ (Zdb c d ρ X name es Q) X):WE c d (.Call (.Attribute o name ap) es [] pos) ρ σ Q X:=
 ZC hh hs (WE.mono h fun v σ0 ⟨C,fs,f,h1,h2,h3,h5⟩=>⟨.ref f,[v],Kh h1 h2 h3,fun P=>congrArg (·.2.2.2.2) (h2 P),h5⟩)
theorem Zs{p q:Prop}(h:p):(if true=true then p else q):=by rw[if_pos rfl];exact h
theorem Zk{p q:Prop}(h:q):(if false=true then p else q):=by rw[if_neg (by decide)];exact h
theorem VB{P:Prop} [Decidable P]{p q:Prop}(h1:P→p)(h2:¬P→q):(if decide P=true then p else q):=by
 by_cases hp:P
 ·rw[if_pos (by simpa using hp)];exact h1 hp
 ·rw[if_neg (by simpa using hp)];exact h2 hp
theorem Z7{b:Bool}{p q:Prop}(h1:b=true→p)(h2:b=false→q):(if b=true then p else q):=by
 cases b
 ·rw[if_neg (by decide)];exact h2 rfl
 ·rw[if_pos rfl];exact h1 rfl
end
end
end Internal
namespace Internal
open PySem PySem.W PyProof.Rows PySem.Calls PySem.Spec
local macro_rules | `(tactic| walk_at "w") => `(tactic| repeat walk_at "n88")
local macro_rules | `(tactic| walk_at "n88") => `(tactic| first
 |refine Zn ?_|refine Ji ?_|refine Q3 ?_|refine HW ?_|refine Ja ?_|refine Y5 ?_ rfl
 |refine Zah rfl ?_
 |refine Zcs rfl ?_|refine Zh ?_ rfl|refine Zg rfl ?_|refine ZS ?_ rfl|refine JL ?_
 |refine YV ?_
 |refine HX ?_ rfl rfl|refine Zy ?_)
section
theorem YT:∀P,nsIn (KK P) mainGlobals "len" =some none:=fun P=>by kernel_rfl
theorem YU:∀P,nsIn (KK P) builtinsNs "len" =some (some (.builtin "len")):=fun P=>by kernel_rfl
theorem Zbd:∀P,nsIn (KK P) mainGlobals "sum" =some none:=fun P=>by kernel_rfl
theorem Zbg:∀P,nsIn (KK P) builtinsNs "sum" =some (some (.builtin "sum")):=fun P=>by kernel_rfl
theorem Zbe:∀P,nsIn (KK P) mainGlobals "sorted" =some none:=fun P=>by kernel_rfl
theorem Zbh:∀P,nsIn (KK P) builtinsNs "sorted" =some (some (.builtin "sorted")):=fun P=>by kernel_rfl
theorem BQ:∀P,nsIn (KK P) mainGlobals "isinstance" =some none:=fun P=>by kernel_rfl
theorem BR:∀P,nsIn (KK P) builtinsNs "isinstance" =some (some (.builtin "isinstance")):=fun P=>by kernel_rfl
theorem Zbf:∀P,nsIn (KK P) mainGlobals "int" =some none:=fun P=>by kernel_rfl
theorem Zbi:∀P,nsIn (KK P) builtinsNs "int" =some (some (.type "int")):=fun P=>by kernel_rfl
theorem Kn:∀P,nsIn (KK P) mainGlobals "list" =some none:=fun P=>by kernel_rfl
theorem Kq:∀P,nsIn (KK P) builtinsNs "list" =some (some (.type "list")):=fun P=>by kernel_rfl
theorem Xc:∀P,nsIn (KK P) mainGlobals "tuple" =some none:=fun P=>by kernel_rfl
theorem Xd:∀P,nsIn (KK P) builtinsNs "tuple" =some (some (.type "tuple")):=fun P=>by kernel_rfl
theorem Ko:∀P,nsIn (KK P) mainGlobals "dict" =some none:=fun P=>by kernel_rfl
theorem Kr:∀P,nsIn (KK P) builtinsNs "dict" =some (some (.type "dict")):=fun P=>by kernel_rfl
theorem JD:∀P,nsIn (KK P) mainGlobals "range" =some none:=fun P=>by kernel_rfl
theorem JE:∀P,nsIn (KK P) builtinsNs "range" =some (some (.type "range")):=fun P=>by kernel_rfl
section
variable{σ:Hp}{d:Nat}
noncomputable abbrev Y2:List (Str×V):=[("cf",.int 0),("pf",.int 0),("af",.int 0),("zf",.int 0),("sf",.int 0),("of",.int 0),("df",.int 0)]
theorem Zd5{x dx:Addr}(h:σ.is x=some ⟨false,344,dx,[]⟩):Zd 1 (.ref 285) [.ref x] σ (fun v σ'=>v=.none∧σ'={σ with is:=up σ.is x (some ⟨false,344,dx,Y2⟩)}) noX:=by
 refine Zc (d:=0) ["self"] UG (fun P=>by kernel_rfl) Zf (Yj fun x=>rfl) rfl rfl rfl fun N=>?_
 walk_at "w"
 refine⟨_,_,_,_,_,rfl,h,KG,rfl,?_⟩
 walk_at "w"
 refine⟨_,_,_,_,_,rfl,(up_self ..),KD,rfl,?_⟩
 walk_at "w"
 refine⟨_,_,_,_,_,rfl,(up_self ..),KH,rfl,?_⟩
 walk_at "w"
 refine⟨_,_,_,_,_,rfl,(up_self ..),KB,rfl,?_⟩
 walk_at "w"
 refine⟨_,_,_,_,_,rfl,(up_self ..),KC,rfl,?_⟩
 walk_at "w"
 refine⟨_,_,_,_,_,rfl,(up_self ..),KE,rfl,?_⟩
 walk_at "w"
 refine⟨_,_,_,_,_,rfl,(up_self ..),KF,rfl,?_⟩
 walk_at "w"
 refine⟨rfl,?_⟩
 simp only[ZQ]
 rfl
theorem Ow{Q:V→Hp→Prop}{X:Addr→Hp→Prop}(h:∀F dF,(∀m,dF≤m→Free σ m)→F=dF+1→Q (.ref F) {σ with is:=up σ.is F (some ⟨false,344,dF,Y2⟩)}):ZO 2 (.ref 344) [] σ Q X:=by
 refine(Ub (Q:=Q) ZbG fun n hn=>?_).w
 refine(Zd5 (up_self ..)).mono (Nat.le_refl 1) ?_ fun q_ q_ q=>q.elim
 rintro _ _ ⟨rfl,rfl⟩
 refine⟨rfl,?_⟩
 simp only[ZQ]
 exact h (n+1) n hn rfl
theorem Xb{i n:Int}(h0:0≤n):Zd 1 (.ref 94) [.int i,.int n] σ (fun v σ'=>v=.int (Builtin.bitAnd (i/2^n.toNat) 1)∧σ'=σ) noX:=by
 refine Zc (d:=0) ["worth","n"] ZaO (fun P=>by kernel_rfl) Zf (ZH fun x y=>rfl) rfl rfl rfl fun N=>?_
 walk_at "w"
 refine⟨_,_,_,rfl,rfl,(Og h0),?_⟩
 walk_at "w"
 refine⟨_,_,_,rfl,rfl,rfl,?_⟩
 exact⟨rfl,rfl⟩
theorem DU{x dx:Addr}(h:σ.is x=some ⟨false,344,dx,Y2⟩):Zd 1 (.ref 292) [.ref x] σ (fun v σ'=>v=.tup (List.replicate 7 (.int 0))∧σ'=σ) noX:=by
 refine Zc (d:=0) ["self"] Xu (fun P=>by kernel_rfl) Zf (Yj fun x=>rfl) rfl rfl rfl fun N=>?_
 walk_at "w"
 refine Zx ?_
 walk_at "w"
 refine⟨_,_,_,Za h,KQ,rfl,rfl,?_⟩
 walk_at "w"
 refine⟨_,_,_,Za h,KN,rfl,rfl,?_⟩
 walk_at "w"
 refine⟨_,_,_,Za h,KR,rfl,rfl,?_⟩
 walk_at "w"
 refine⟨_,_,_,Za h,KL,rfl,rfl,?_⟩
 walk_at "w"
 refine⟨_,_,_,Za h,KM,rfl,rfl,?_⟩
 walk_at "w"
 refine⟨_,_,_,Za h,KO,rfl,rfl,?_⟩
 walk_at "w"
 refine⟨_,_,_,Za h,KP,rfl,rfl,?_⟩
 walk_at "w"
 exact⟨by decide,rfl,rfl⟩
end
end
section
section
variable{σ:Hp}{d:Nat}
theorem ZeH{x dx:Addr}(h:σ.is x=some ⟨false,344,dx,Y2⟩):Zd 1 (.ref 299) [.ref x] σ (fun v σ'=>v=.int 2∧σ'=σ) noX:=by
 refine Zc (d:=0) ["self"] Xv (fun P=>by kernel_rfl) Zf (Yj fun x=>rfl) rfl rfl rfl fun N=>?_
 walk_at "w"
 refine⟨_,_,_,Za h,KQ,rfl,rfl,?_⟩
 refine Zw rfl ZcF rfl rfl ?_
 refine⟨_,_,_,rfl,rfl,QK (by decide) (by decide) (by decide),?_⟩
 refine⟨_,_,_,rfl,rfl,rfl,?_⟩
 walk_at "w"
 refine⟨_,_,_,Za h,KN,rfl,rfl,?_⟩
 refine Zw rfl ZcC rfl rfl ?_
 refine⟨_,_,_,rfl,rfl,QK (by decide) (by decide) (by decide),?_⟩
 refine⟨_,_,_,rfl,rfl,rfl,?_⟩
 walk_at "w"
 refine⟨_,_,_,Za h,KR,rfl,rfl,?_⟩
 refine Zw rfl ZcG rfl rfl ?_
 refine⟨_,_,_,rfl,rfl,QK (by decide) (by decide) (by decide),?_⟩
 refine⟨_,_,_,rfl,rfl,rfl,?_⟩
 walk_at "w"
 refine⟨_,_,_,Za h,KL,rfl,rfl,?_⟩
 refine Zw rfl ZcA rfl rfl ?_
 refine⟨_,_,_,rfl,rfl,QK (by decide) (by decide) (by decide),?_⟩
 refine⟨_,_,_,rfl,rfl,rfl,?_⟩
 walk_at "w"
 refine⟨_,_,_,Za h,KM,rfl,rfl,?_⟩
 refine Zw rfl ZcB rfl rfl ?_
 refine⟨_,_,_,rfl,rfl,QK (by decide) (by decide) (by decide),?_⟩
 refine⟨_,_,_,rfl,rfl,rfl,?_⟩
 walk_at "w"
 refine⟨_,_,_,Za h,KP,rfl,rfl,?_⟩
 refine Zw rfl ZcE rfl rfl ?_
 refine⟨_,_,_,rfl,rfl,QK (by decide) (by decide) (by decide),?_⟩
 refine⟨_,_,_,rfl,rfl,rfl,?_⟩
 walk_at "w"
 refine⟨_,_,_,Za h,KO,rfl,rfl,?_⟩
 refine Zw rfl ZcD rfl rfl ?_
 refine⟨_,_,_,rfl,rfl,QK (by decide) (by decide) (by decide),?_⟩
 refine⟨_,_,_,rfl,rfl,rfl,?_⟩
 exact⟨congrArg V.int (by decide),rfl⟩
theorem ZeP:Builtin.bitAnd (2/2^(0:Int).toNat) 1=0:=by decide
theorem ZeO:Builtin.bitAnd (2/2^(2:Int).toNat) 1=0:=by decide
theorem ZeN:Builtin.bitAnd (2/2^(4:Int).toNat) 1=0:=by decide
theorem ZeM:Builtin.bitAnd (2/2^(6:Int).toNat) 1=0:=by decide
theorem ZeL:Builtin.bitAnd (2/2^(7:Int).toNat) 1=0:=by decide
theorem ZdP:Builtin.bitAnd (2/2^(10:Int).toNat) 1=0:=by decide
theorem ZdO:Builtin.bitAnd (2/2^(11:Int).toNat) 1=0:=by decide
theorem Zck{x dx:Addr}(h:σ.is x=some ⟨false,344,dx,Y2⟩):Zd 2 (.ref 306) [.ref x,.int 2] σ (fun v σ'=>v=.none∧σ'=σ) noX:=by
 have e0:({σ with is:=up σ.is x (some ⟨false,344,dx,Y2⟩)}:Hp)=σ:=by rw[YZ _ _ _ h]
 refine Zc (d:=1) ["self","number"] VK (fun P=>by kernel_rfl) Zf (ZH fun x y=>rfl) rfl rfl rfl fun N=>?_
 walk_at "w"
 refine Zb rfl rfl rfl rfl Vi ?_
 walk_at "w"
 refine Zw rfl ZcF rfl rfl ?_
 walk_at "w"
 refine(Xb (by decide)).e (nB rfl) ?_
 rw[ZeP]
 walk_at "w"
 refine⟨_,_,_,_,_,rfl,h,KG,rfl,?_⟩
 show WS _ _ _ _ ({σ with is:=up σ.is x (some ⟨false,344,dx,Y2⟩)}:Hp) _ _ _
 rw[e0]
 walk_at "w"
 refine Zb rfl rfl rfl rfl Vi ?_
 walk_at "w"
 refine Zw rfl ZcC rfl rfl ?_
 walk_at "w"
 refine(Xb (by decide)).e (nB rfl) ?_
 rw[ZeO]
 walk_at "w"
 refine⟨_,_,_,_,_,rfl,h,KD,rfl,?_⟩
 show WS _ _ _ _ ({σ with is:=up σ.is x (some ⟨false,344,dx,Y2⟩)}:Hp) _ _ _
 rw[e0]
 walk_at "w"
 refine Zb rfl rfl rfl rfl Vi ?_
 walk_at "w"
 refine Zw rfl ZcG rfl rfl ?_
 walk_at "w"
 refine(Xb (by decide)).e (nB rfl) ?_
 rw[ZeN]
 walk_at "w"
 refine⟨_,_,_,_,_,rfl,h,KH,rfl,?_⟩
 show WS _ _ _ _ ({σ with is:=up σ.is x (some ⟨false,344,dx,Y2⟩)}:Hp) _ _ _
 rw[e0]
 walk_at "w"
 refine Zb rfl rfl rfl rfl Vi ?_
 walk_at "w"
 refine Zw rfl ZcA rfl rfl ?_
 walk_at "w"
 refine(Xb (by decide)).e (nB rfl) ?_
 rw[ZeM]
 walk_at "w"
 refine⟨_,_,_,_,_,rfl,h,KB,rfl,?_⟩
 show WS _ _ _ _ ({σ with is:=up σ.is x (some ⟨false,344,dx,Y2⟩)}:Hp) _ _ _
 rw[e0]
 walk_at "w"
 refine Zb rfl rfl rfl rfl Vi ?_
 walk_at "w"
 refine Zw rfl ZcB rfl rfl ?_
 walk_at "w"
 refine(Xb (by decide)).e (nB rfl) ?_
 rw[ZeL]
 walk_at "w"
 refine⟨_,_,_,_,_,rfl,h,KC,rfl,?_⟩
 show WS _ _ _ _ ({σ with is:=up σ.is x (some ⟨false,344,dx,Y2⟩)}:Hp) _ _ _
 rw[e0]
 walk_at "w"
 refine Zb rfl rfl rfl rfl Vi ?_
 walk_at "w"
 refine Zw rfl ZcE rfl rfl ?_
 walk_at "w"
 refine(Xb (by decide)).e (nB rfl) ?_
 rw[ZdP]
 walk_at "w"
 refine⟨_,_,_,_,_,rfl,h,KF,rfl,?_⟩
 show WS _ _ _ _ ({σ with is:=up σ.is x (some ⟨false,344,dx,Y2⟩)}:Hp) _ _ _
 rw[e0]
 walk_at "w"
 refine Zb rfl rfl rfl rfl Vi ?_
 walk_at "w"
 refine Zw rfl ZcD rfl rfl ?_
 walk_at "w"
 refine(Xb (by decide)).e (nB rfl) ?_
 rw[ZdO]
 walk_at "w"
 refine⟨_,_,_,_,_,rfl,h,KE,rfl,?_⟩
 show WS _ _ _ _ ({σ with is:=up σ.is x (some ⟨false,344,dx,Y2⟩)}:Hp) _ _ _
 rw[e0]
 walk_at "w"
 exact⟨rfl,rfl⟩
theorem DV{x dx:Addr}{Q:V→Hp→Prop}(h:σ.is x=some ⟨false,344,dx,Y2⟩)(hq:∀F dF,(∀m,dF≤m→Free σ m)→F=dF+1→Q (.ref F) {σ with is:=up σ.is F (some ⟨false,344,dF,Y2⟩)}):Zd 3 (.ref 320) [.ref x] σ Q noX:=by
 refine Zc (d:=2) ["self"] Xw (fun P=>by kernel_rfl) Zf (Yj fun x=>rfl) rfl rfl rfl fun N=>?_
 walk_at "w"
 refine Zb rfl rfl rfl rfl DD ?_
 walk_at "w"
 refine Ow fun F dF fr hF=>?_
 have hx:x≠F:=fun q=>by have:=(fr F (by rw[hF];exact Nat.le_succ _)).is;rw[←q,h]at this;cases this
 walk_at "w"
 refine Zj rfl rfl ?_
 walk_at "w"
 refine⟨_,_,_,Za (up_self ..),GS,rfl,?_⟩
 walk_at "w"
 refine Zj rfl rfl ?_
 walk_at "w"
 refine⟨_,_,_,Za ((Ze _ _ hx).trans h),B7,rfl,?_⟩
 walk_at "w"
 refine(ZeH ((Ze _ _ hx).trans h)).e (nB rfl) ?_
 walk_at "w"
 refine(Zck (up_self ..)).e (nB rfl) ?_
 walk_at "w"
 exact hq F dF fr hF
theorem Zdk:Txt.words "rax rcx rdx rbx rsp rbp rsi rdi" =(["rax","rcx","rdx","rbx","rsp","rbp","rsi","rdi"]:List Str):=by decide+kernel
noncomputable abbrev HC:List V:=[.str "rax",.str "rcx",.str "rdx",.str "rbx",.str "rsp",.str "rbp",.str "rsi",.str "rdi"]
theorem ZaF{σ:Hp}:V.isD 20 (deref σ (V.lst HC))=true:=(show V.isD 20 (V.lst HC)=true from by decide+kernel)
theorem BL:Zd 1 (.ref 446) [.int 64] σ (fun v σ'=>v=.lst HC∧σ'=σ) noX:=by
 refine Zc (d:=0) ["size"] Ws (fun P=>by kernel_rfl) Zf (Yj fun x=>rfl) rfl rfl rfl fun N=>?_
 walk_at "w"
 refine Zq (Zl ?_ rfl) rfl
 walk_at "w"
 refine⟨_,_,_,rfl,rfl,rfl,_,rfl,?_⟩
 refine Zs ?_
 walk_at "w"
 refine ZC rfl rfl ?_
 refine Zw rfl ND rfl rfl ?_
 refine⟨_,_,Nd PySem.F.slot_str_split PySem.F.type_str_split,trivial,?_⟩
 walk_at "w"
 refine B0 (by decide) (by decide+kernel) ?_
 rw[Zdk]
 exact⟨rfl,rfl⟩
noncomputable def Zek:Nat→Str
 |0=>"rax" |1=>"rcx" |2=>"rdx" |3=>"rbx" |4=>"rsp" |5=>"rbp" |6=>"rsi" |_=>"rdi"
noncomputable def Di(r:Nat):V:=.obj 435 [("name",.str (Zek r)),("kind",.str "gpr"),("number",.int r),("size",.int 64)]
theorem Zaa{r:Nat}(hr:r<8):Zd 3 (.ref 460) [.int r,.int 64] σ (fun v σ'=>v=Di r∧σ'=σ) noX:=by
 refine Zc (d:=2) ["number","size"] ZaN (fun P=>by kernel_rfl) Zf (ZH fun x y=>rfl) rfl rfl rfl fun N=>?_
 walk_at "w"
 refine Zb rfl rfl rfl rfl HL ?_
 walk_at "w"
 refine(BL).e (nB rfl) ?_
 walk_at "w"
 refine ZY (ZZ (Zq (UX (ne:=false) ?_ rfl) rfl))
 walk_at "w"
 refine ZN (ZW ⟨by decide,ZaF,(show V.isD 20 (V.lst [])=true from rfl),_,rfl,?_⟩)
 refine Zk (ZZ (Kc (Zcr ?_ rfl)))
 walk_at "w"
 refine⟨_,_,_,rfl,rfl,rfl,?_⟩
 refine VB (fun q_=>?_) fun q=>absurd (by exact Int.natCast_nonneg _) q
 walk_at "w"
 refine⟨_,_,rfl,rfl,?_⟩
 refine Z7 (fun q=>?_) fun q_=>Ym (Z7 (fun q=>by cases q) fun q_=>?_)
 ·exfalso;simp at q;lia
 walk_at "w"
 refine Zq (Zl ?_ rfl) rfl
 walk_at "w"
 refine⟨_,_,_,rfl,rfl,rfl,_,rfl,?_⟩
 refine VB (fun q_=>?_) fun q=>absurd (by exact Int.ofNat_lt.mpr (by assumption)) q
 walk_at "w"
 refine Zb rfl rfl rfl rfl NC ?_
 walk_at "w"
 refine Zp ?_
 walk_at "w"
 refine⟨_,_,r,.str (Zek r),rfl,rfl,Z3 (by simpa using hr) (by decide),?_,?_⟩
 ·match r,hr with
  |0,_|1,_|2,_|3,_|4,_|5,_|6,_|7,_=>rfl
 walk_at "w"
 refine(Zac).e (nB rfl) ?_
 exact⟨rfl,rfl⟩
end
end
section
section
variable{σ:Hp}{d:Nat}
inductive Zao(Q:V→Hp→Prop)(v:V)(σ':Hp):Prop
 |mk (σ'':_) (h1:σ''.Le σ') (h2:Q v σ''):Zao Q v σ'
theorem nne{α:Type}{f:Addr→Option α}{A B:Addr}{x:α}(e:f A=some x)(n:f B=none):A≠B:=fun q=>by rw[q,n]at e;cases e
theorem Zd.weakQ{f:V}{args:List V}{Q:V→Hp→Prop}{X:Addr→Hp→Prop}(h:Zd d f args σ (Zao Q) X):Zd d f args σ Q X:=
 ⟨fun w os₀ A k g s fv xs R S rf ra rm hh fr hQ hX=>h.run w os₀ A k g s fv xs R S rf ra rm hh fr (fun v σ' x g' s' l r S' ⟨σ'',le,q⟩=>hQ v σ'' x g' s' l r (S'.weaken le) q) hX⟩
theorem Zc7{n:Addr}(x:Option (Option V))(h:σ.cs n=none):σ.Le {σ with cs:=up σ.cs n x}:=
 {Hp.Le.refl σ with cs:=fun a y e=>(Ze _ _ (by rintro rfl;rw[h]at e;cases e)).trans e}
noncomputable def nzs(m:List (Int×Int)):List (Int×Int):=(m.filter fun p=>mget m p.1 !=0).map fun p=>(p.1,mget m p.1)
noncomputable abbrev Zr(ps:List (Int×Int)):List V:=ps.map fun p=>.tup [.int p.1,.int p.2]
noncomputable def srt(ps:List (Int×Int)):List (Int×Int):=ps.mergeSort fun a b=>decide (a.1≤b.1)
noncomputable def U9:Prop:=∀{d:Nat} {σ:Hp} {Q:V→Hp→Prop} {X:Addr→Hp→Prop} {ps:List (Int×Int)},(ps.map (·.1)).Nodup→ps.length≤1000→Q (.lst (Zr (srt ps))) σ→ZO d (.bi (.builtin "sorted")) [.lst (Zr ps)] σ Q X
theorem Ds{m:List (Int×Int)}{k:Int}(h:k∈m.map (·.1)):aget (ZI m) k=some (.int (mget m k)):=
 (BW V.int k m).trans ((G0 h).elim fun v e=>by unfold mget;rw[e];rfl)
theorem Dq(m:List (Int×Int)):((nzs m).map (·.1)).Sublist (m.map (·.1)):=by
 rw[nzs,List.map_map];exact List.filter_sublist.map _
theorem WF(m:List (Int×Int)):(nzs m).length≤m.length:=by
 rw[nzs,List.length_map];exact List.length_filter_le _ _
theorem BN{M dM:Addr}(h:σ.is M=some ⟨false,550,dM,[]⟩){Q:V→Hp→Prop}(hq:∀H,σ.ds H=none→Q .none {σ with ds:=up σ.ds H (some []),is:=up σ.is M (some ⟨false,550,dM,[("held",.ref H)]⟩)}):Zd 1 (.ref 474) [.ref M] σ Q noX:=by
 refine Zc (d:=0) ["self"] U4 (fun P=>by kernel_rfl) Zf (Yj fun x=>rfl) rfl rfl rfl fun N=>?_
 walk_at "w"
 refine Vz fun H h1 h2=>?_
 walk_at "w"
 refine⟨_,_,_,_,_,rfl,h,Hz,rfl,?_⟩
 walk_at "w"
 exact hq H h1
theorem DT{Q:V→Hp→Prop}{X:Addr→Hp→Prop}(hq:∀M dM H,σ.is M=none→σ.ds H=none→Q (.ref M) {σ with ds:=up σ.ds H (some []),is:=up σ.is M (some ⟨false,550,dM,[("held",.ref H)]⟩)}):ZO 2 (.ref 550) [] σ Q X:=by
 refine(Ub (Q:=Q) Za5 fun n hn=>?_).w
 refine(BN (up_self ..) fun H hH=>⟨rfl,?_⟩).mono (Nat.le_refl 1) (fun q_ q_ q=>q) fun q_ q_ q=>q.elim
 simp only[ZQ]
 exact hq (n+1) n H (hn _ (Nat.le_succ n)).is hH
theorem ZaX(SO:U9){M dM H:Addr}{m:List (Int×Int)}(I:Qu σ M dM H m)(nd:(m.map (·.1)).Nodup)(hz:m.length≤1000):Zd 2 (.ref 519) [.ref M] σ (fun v σ'=>v=.lst (Zr (srt (nzs m)))∧σ'=σ) noX:=by
 refine Zd.weakQ ?_
 refine Yq (d:=1) (ns:=["self"]) Qx (fun P=>by kernel_rfl) rfl Zf (Yj fun x=>rfl) rfl fun n hn=>?_
 rw[show cellsσ (n+1) Qx.scope.names σ={σ with cs:=up σ.cs (n+1) (some none)}from rfl]
 refine ZP rfl rfl (up_self ..) ?_
 simp only[ZQ]
 have hc:=(hn _ (Nat.le_succ n)).cs
 walk_at "w"
 refine Z4 rfl rfl rfl rfl Zbe Zbh trivial ?_
 refine Zh ?_ rfl
 refine Hv rfl (.inl rfl) (fun q_ q_=>rfl) rfl rfl (by decide) (by decide+kernel) ?_
 refine ZS (Zo rfl rfl (up_self ..) rfl ?_) rfl
 refine⟨_,_,_,Za I.is,YN,rfl,rfl,?_⟩
 refine⟨H,ZI m,rfl,I.ds,by rw[ZI,List.length_map];exact hz,fun k=>if mget m k=0 then none else some (.tup [.int k,.int (mget m k)]),?_,?_⟩
 ·rintro ⟨k,v⟩ hm
  have hk:k∈m.map (·.1):=by
   obtain⟨p,hp,e⟩:=List.mem_map.mp hm
   exact List.mem_map.mpr ⟨p,hp,congrArg (·.1) e⟩
  refine Zy (Zg rfl ⟨rfl,?_⟩)
  refine Zq (Zl ?_ rfl) rfl
  refine Kw ?_
  refine ZS (Zo rfl rfl (up_self ..) rfl ?_) rfl
  refine⟨_,_,_,Za I.is,YN,rfl,rfl,?_⟩
  walk_at "w"
  refine⟨H,ZI m,_,_,rfl,.head _,rfl,Ds hk,?_⟩
  walk_at "w"
  refine⟨_,_,_,rfl,rfl,rfl,_,rfl,rfl,?_⟩
  refine Z7 (fun q=>?_) fun q=>?_
  ·refine Zx ?_
   walk_at "w"
   refine Kw ?_
   refine ZS (Zo rfl rfl (up_self ..) rfl ?_) rfl
   refine⟨_,_,_,Za I.is,YN,rfl,rfl,?_⟩
   walk_at "w"
   refine⟨H,ZI m,_,_,rfl,.head _,rfl,Ds hk,?_⟩
   walk_at "w"
   exact⟨nB rfl,rfl,if_neg (by simpa using q)⟩
  ·exact if_pos (by simpa using q)
 ·have e:(ZI m).filterMap (fun p=>if mget m p.1=0 then none else some (V.tup [.int p.1,.int (mget m p.1)]))=Zr (nzs m):=by
   refine List.filterMap_map.trans (.trans (congrArg (fun f=>List.filterMap f m) (funext fun p=>?_)) ((fmIf (fun p:Int×Int=>mget m p.1 !=0) (fun p=>V.tup [.int p.1,.int (mget m p.1)]) m).trans (List.map_map (f:=fun p:Int×Int=>(p.1,mget m p.1)) (g:=fun p:Int×Int=>V.tup [.int p.1,.int p.2])).symm))
   by_cases q:mget m p.1=0
   ·exact(if_pos q).trans (if_neg (by rw[q];decide)).symm
   ·exact(if_neg q).trans (if_pos (bne_iff_ne.mpr q)).symm
  rw[e]
  walk_at "w"
  refine SO ((Dq m).nodup nd) (Nat.le_trans (WF m) hz) ?_
  exact⟨σ,Zc7 _ hc,rfl,rfl⟩
theorem BM(SO:U9){M dM H:Addr}{m:List (Int×Int)}(I:Qu σ M dM H m)(nd:(m.map (·.1)).Nodup)(hz:m.length≤1000):Zd 3 (.ref 547) [.ref M] σ (fun v σ'=>v=.tup (Zr (srt (nzs m)))∧σ'=σ) noX:=by
 refine Zc (d:=2) ["self"] Wv (fun P=>by kernel_rfl) Zf (Yj fun x=>rfl) rfl rfl rfl fun N=>?_
 walk_at "w"
 refine Z4 rfl rfl rfl rfl Xc Xd trivial ?_
 walk_at "w"
 refine Zj rfl rfl ?_
 walk_at "w"
 refine⟨_,_,_,Za I.is,K1,rfl,?_⟩
 walk_at "w"
 refine(ZaX SO I nd hz).e (nB rfl) ?_
 walk_at "w"
 refine Xi rfl ?_ ⟨rfl,rfl⟩
 rw[List.length_map,srt,List.length_mergeSort]
 exact Nat.le_trans (WF m) (Nat.le_trans hz (by decide))
theorem BO{M dM H:Addr}{Q:V→Hp→Prop}(I:Qu σ M dM H [])(hq:∀M dM H,σ.is M=none→σ.ds H=none→Q (.ref M) {σ with ds:=up σ.ds H (some []),is:=up σ.is M (some ⟨false,550,dM,[("held",.ref H)]⟩)}):Zd 3 (.ref 540) [.ref M] σ Q noX:=by
 refine Zc (d:=2) ["self"] Wx (fun P=>by kernel_rfl) Zf (Yj fun x=>rfl) rfl rfl rfl fun N=>?_
 walk_at "w"
 refine Zb rfl rfl rfl rfl Bs ?_
 walk_at "w"
 refine DT fun M' dM' H' h1 h2=>?_
 have hM:M≠M':=nne I.is h1
 have hH:H≠H':=nne I.ds h2
 walk_at "w"
 refine Hs rfl (.inl rfl) (fun q_ q_=>rfl) ?_
 walk_at "w"
 refine⟨_,_,_,Za ((Ze _ _ hM).trans I.is),YN,rfl,rfl,?_⟩
 refine⟨H,[],rfl,(Ze _ _ hH).trans I.ds,fun q_ ρ σ'=>Yt [("other",.ref M')] ρ∧σ'=({σ with ds:=up σ.ds H' (some []),is:=up σ.is M' (some ⟨false,550,dM',[("held",.ref H')]⟩)}:Hp).dropD H,⟨⟨rfl,trivial⟩,rfl⟩,fun i v q_ q_ e=>by simp at e,?_⟩
 rintro ρ1 σ2 ⟨hv,rfl⟩
 refine WS.view hv ?_
 have e:({(({σ with ds:=up σ.ds H' (some []),is:=up σ.is M' (some ⟨false,550,dM',[("held",.ref H')]⟩)}:Hp).dropD H)with ds:=up (({σ with ds:=up σ.ds H' (some []),is:=up σ.is M' (some ⟨false,550,dM',[("held",.ref H')]⟩)}:Hp).dropD H).ds H (some [])}:Hp)={σ with ds:=up σ.ds H' (some []),is:=up σ.is M' (some ⟨false,550,dM',[("held",.ref H')]⟩)}:=by
  unfold Hp.dropD
  simp only[ZQ]
  rw[YZ (up σ.ds H' (some [])) H (some []) ((Ze _ _ hH).trans I.ds)]
 rw[e]
 walk_at "w"
 exact hq M' dM' H' h1 h2
end
end
section
section
variable{σ:Hp}{d:Nat}
noncomputable abbrev O4:List (Str×V):=[("fs",.int 0),("gs",.int 0)]
structure MS where
 regs:List Int
 mem:List (Int×Int)
 rip:Int
 begin:Int
 halted:Bool
structure MA where
 S:Addr
 dS:Addr
 R:Addr
 XM:Addr
 F:Addr
 dF:Addr
 M:Addr
 dM:Addr
 H:Addr
 SG:Addr
noncomputable abbrev Qc(a:MA)(m:MS):List (Str×V):=[("iset",.none),("regs",.ref a.R),("xmm",.ref a.XM),("flags",.ref a.F),("memory",.ref a.M),("rip",.int m.rip),("begin",.int m.begin),("segments",.ref a.SG),("is_halted",.bool m.halted)]
noncomputable abbrev Jy(l:List Int):List V:=l.map V.int
structure MOK(m:MS):Prop where
 len:m.regs.length=16
 rb:∀i∈m.regs,0≤i∧i<2^64
 oct:∀p∈m.mem,0≤p.2∧p.2<256
 nd:(m.mem.map (·.1)).Nodup
structure MSt(σ:Hp)(a:MA)(m:MS):Prop where
 st:σ.is a.S=some ⟨false,667,a.dS,Qc a m⟩
 rs:σ.ls a.R=some (Jy m.regs)
 xs:σ.ls a.XM=some (List.replicate 16 (.int 0))
 fl:σ.is a.F=some ⟨false,344,a.dF,Y2⟩
 me:Qu σ a.M a.dM a.H m.mem
 sg:σ.ss a.SG=some O4
 hF:a.F≠a.S
 hM:a.M≠a.S
 hX:a.XM≠a.R
 ok:MOK m
noncomputable def Hp.mac(σ:Hp)(a:MA)(m:MS):Hp:={σ with is:=up σ.is a.S (some ⟨false,667,a.dS,Qc a m⟩),ls:=up σ.ls a.R (some (Jy m.regs)),ds:=up σ.ds a.H (some (ZI m.mem))}
theorem Hp.mac_mac(a:MA)(m m':MS):(σ.mac a m).mac a m'=σ.mac a m':=by unfold Hp.mac;simp only[ZQ]
theorem MSt.self{a:MA}{m:MS}(I:MSt σ a m):σ.mac a m=σ:=by
 unfold Hp.mac;rw[YZ _ _ _ I.st,YZ _ _ _ I.rs,YZ _ _ _ I.me.ds]
theorem MSt.mac{a:MA}{m m':MS}(I:MSt σ a m)(ok:MOK m'):MSt (σ.mac a m') a m' where
 st:=up_self ..
 rs:=up_self ..
 xs:=(Ze _ _ I.hX).trans I.xs
 fl:=(Ze _ _ I.hF).trans I.fl
 me:=⟨(Ze _ _ I.hM).trans I.me.is,up_self ..,ok.oct⟩
 sg:=I.sg
 hF:=I.hF
 hM:=I.hM
 hX:=I.hX
 ok:=ok
theorem MSt.setI{a:MA}{m m':MS}(I:MSt σ a m)(h1:m'.regs=m.regs)(h2:m'.mem=m.mem):({σ with is:=up σ.is a.S (some ⟨false,667,a.dS,Qc a m'⟩)}:Hp)=σ.mac a m':=by
 unfold Hp.mac;rw[h1,h2,YZ _ _ _ I.rs,YZ _ _ _ I.me.ds]
theorem MSt.setR{a:MA}{m m':MS}(I:MSt σ a m)(h1:Qc a m'=Qc a m)(h2:m'.mem=m.mem):({σ with ls:=up σ.ls a.R (some (Jy m'.regs))}:Hp)=σ.mac a m':=by
 unfold Hp.mac;rw[h1,h2,YZ _ _ _ I.st,YZ _ _ _ I.me.ds]
theorem MSt.setM{a:MA}{m m':MS}(I:MSt σ a m)(h1:Qc a m'=Qc a m)(h2:m'.regs=m.regs):σ.mem a.H m'.mem=σ.mac a m':=by
 unfold Hp.mac Hp.mem;rw[h1,h2,YZ _ _ _ I.st,YZ _ _ _ I.rs]
noncomputable def reg(m:MS)(r:Nat):Int:=m.regs.getD r 0
noncomputable def ZD(m:MS)(r:Nat)(v:Int):MS:={m with regs:=m.regs.set r v}
theorem YD{m:MS}(ok:MOK m){r:Nat}(hr:r<16):(Jy m.regs)[r]? =some (.int (reg m r)):=by
 have:r<m.regs.length:=by rw[ok.len];exact hr
 rw[List.getElem?_map,List.getElem?_eq_getElem this,reg,List.getD_eq_getElem?_getD,List.getElem?_eq_getElem this]
 rfl
theorem XD{m:MS}(ok:MOK m){r:Nat}(hr:r<16):0≤reg m r∧reg m r<2^64:=by
 have:r<m.regs.length:=by rw[ok.len];exact hr
 rw[reg,List.getD_eq_getElem?_getD,List.getElem?_eq_getElem this]
 exact ok.rb _ (List.getElem_mem this)
theorem NW{m:MS}(ok:MOK m){r:Nat}(hr:r<16):reg m r % 2^64=reg m r:=Int.emod_eq_of_lt (XD ok hr).1 (XD ok hr).2
theorem YJ(v:Int):0≤v % 2^64∧v % 2^64<2^64:=⟨Int.emod_nonneg _ (by decide),Int.emod_lt_of_pos _ (by decide)⟩
theorem V7(l:List Int)(r:Nat)(v:Int):(Jy l).set r (.int v)=Jy (l.set r v):=by unfold Jy;rw[List.map_set]
theorem MOK.reg{m:MS}(ok:MOK m)(r:Nat){v:Int}(hv:0≤v∧v<2^64):MOK (ZD m r v):=
 ⟨by rw[ZD,List.length_set];exact ok.len,fun i hi=>(List.mem_or_eq_of_mem_set hi).elim (ok.rb i) fun h=>h▸hv,ok.oct,ok.nd⟩
theorem Va{m:MS}(ok:MOK m){r:Nat}(hr:r<16)(v:Int):reg (ZD m r v) r=v:=by
 have:r<m.regs.length:=by rw[ok.len];exact hr
 rw[reg,ZD,List.getD_eq_getElem?_getD,List.getElem?_set_self this];rfl
theorem VT{m:List (Int×Int)}(h:(m.map (·.1)).Nodup)(p v:Int):∀n,((mwrite m p v n).map (·.1)).Nodup
 |0=>h
 |n+1=>(Bz _ _ _ (VT h p v n)).1
theorem MOK.mem{m:MS}(ok:MOK m)(p v:Int)(n:Nat):MOK {m with mem:=mwrite m.mem p v n}:=
 ⟨ok.len,ok.rb,Vc ok.oct p v n,VT ok.nd p v n⟩
theorem MOK.rip{m:MS}(ok:MOK m)(i b:Int)(t:Bool):MOK {m with rip:=i,begin:=b,halted:=t}:=⟨ok.len,ok.rb,ok.oct,ok.nd⟩
noncomputable def ms0:MS:=⟨List.replicate 16 0,[],0,0,false⟩
theorem Za9:MOK ms0:=⟨rfl,by decide,fun q_ h=>nin h,.nil⟩
theorem Zcl{o v:V}:Zd 1 (.ref 561) [o,v,.int 64] σ (fun r σ'=>r=v∧σ'=σ) noX:=by
 refine Zc (d:=0) ["old","worth","size"] Bt (fun P=>by kernel_rfl) Zf (Jr fun x y z=>rfl) rfl rfl rfl fun N=>?_
 walk_at "w"
 refine Zq (Zl ?_ rfl) rfl
 walk_at "w"
 refine⟨_,_,_,rfl,rfl,rfl,_,rfl,?_⟩
 refine Zs ?_
 walk_at "w"
 exact⟨rfl,rfl⟩
theorem WS.gen{c:Ctx}{st:List Stmt}{ρ:Loc}{N:Loc→Hp→Prop}{R:V→Hp→Prop}{X:Addr→Loc→Hp→Prop}(h:∀τ,τ=σ→WS c d st ρ τ N R X):WS c d st ρ σ N R X:=h σ rfl
theorem UN{τ τ':Hp}(e:τ=τ'){S:Addr}{r:Option Rec}(h:τ'.is S=r):τ.is S=r:=e▸h
end
end
section
section
variable{σ:Hp}{d:Nat}{a:MA}{m:MS}
theorem YC{m:MS}(ok:MOK m){r:Nat}(hr:r<16):place (r:Int) (Jy m.regs).length=some r:=Z3 (by rw[List.length_map,ok.len];exact hr) (by rw[List.length_map,ok.len];decide)
theorem Jk{m:MS}(ok:MOK m):(Jy m.regs).length=16:=by rw[List.length_map,ok.len]
inductive Zda(Q:Bool→Hp→Prop)(a:V)(b:V)(σ2:Hp):Prop
 |mk (i:_) (j:_) (h1:a=.str i) (h2:b=.str j) (h3:Q (i==j) σ2):Zda Q a b σ2
theorem Z2{c:Ctx}{d:Nat}{l r:Expr}{pos:Pos}{ρ:Loc}{Q:Bool→Hp→Prop}{X:Addr→Loc→Hp→Prop}(h:WE c d l ρ σ (fun a σ1=>WE c d r ρ σ1 (Zda Q a) X) X)(hm:behindInMarks .Eq r=false):WT c d (.Compare l [.Eq] [r] pos) ρ σ Q X:=
 Zq (JU (ne:=false) (WE.mono h fun a σ1 h1=>WE.mono h1 fun b σ2 ⟨i,j,e1,e2,q⟩=>⟨i,j,e1,e2,_,rfl,q⟩) hm) hm
theorem WS.at{c:Ctx}{σ':Hp}{st:List Stmt}{ρ:Loc}{N:Loc→Hp→Prop}{R:V→Hp→Prop}{X:Addr→Loc→Hp→Prop}(e:σ=σ')(h:WS c d st ρ σ' N R X):WS c d st ρ σ N R X:=e▸h
inductive Op
 |reg (r:Nat)
 |imm (i:Int)
noncomputable def opV:Op→V
 | .reg r=>.obj 772 [("kind",.str "reg"),("register",Di r)]
 | .imm i=>.obj 806 [("kind",.str "imm"),("worth",.int i),("name",.str "")]
noncomputable def Zc2(m:MS):Op→Int
 | .reg r=>reg m r
 | .imm i=>i % 2^64
noncomputable def Op.ok:Op→Prop
 | .reg r=>r<8
 | .imm _=>True
theorem Zgv(I:MSt σ a m){r:Nat}(hr:r<8):Zd 3 (.ref 582) [.ref a.S,Di r] σ (fun v σ'=>v=.int (reg m r)∧σ'=σ) noX:=by
 refine Zc (d:=2) ["self","register"] XV (fun P=>by kernel_rfl) Zf (ZH fun x y=>rfl) rfl rfl rfl fun N=>?_
 walk_at "w"
 refine Z2 ?_ rfl
 walk_at "w"
 refine⟨_,_,_,rfl,QC,rfl,rfl,?_⟩
 walk_at "w"
 refine⟨_,_,rfl,rfl,?_⟩
 refine Zs ?_
 walk_at "w"
 refine Zb rfl rfl rfl rfl Qo ?_
 refine Zh ?_ rfl
 refine Zp ?_
 walk_at "w"
 refine⟨_,_,_,Za I.st,Z0,rfl,rfl,?_⟩
 walk_at "w"
 refine⟨_,_,_,rfl,Qd,rfl,rfl,?_⟩
 refine⟨_,_,r,_,I.rs,rfl,YC I.ok (by exact Nat.le_trans (by assumption) (by decide)),YD I.ok (by exact Nat.le_trans (by assumption) (by decide)),?_⟩
 walk_at "w"
 refine⟨_,_,_,rfl,J9,rfl,rfl,?_⟩
 walk_at "w"
 refine(Qh (by decide) (by decide)).e (nB rfl) ?_
 exact⟨congrArg V.int (NW I.ok (by exact Nat.le_trans (by assumption) (by decide))),rfl⟩
theorem OW(I:MSt σ a m){r:Nat}(hr:r<8){v:Int}:Zd 3 (.ref 589) [.ref a.S,Di r,.int v] σ (fun x σ'=>x=.none∧σ'=σ.mac a (ZD m r (v % 2^64))) noX:=by
 refine Zc (d:=2) ["self","register","worth"] XT (fun P=>by kernel_rfl) Zf (Jr fun x y z=>rfl) rfl rfl rfl fun N=>?_
 walk_at "w"
 refine Zb rfl rfl rfl rfl Qo ?_
 walk_at "w"
 refine⟨_,_,_,rfl,J9,rfl,rfl,?_⟩
 walk_at "w"
 refine(Qh (by decide) (by decide)).e (nB rfl) ?_
 walk_at "w"
 refine Z2 ?_ rfl
 walk_at "w"
 refine⟨_,_,_,rfl,QC,rfl,rfl,?_⟩
 walk_at "w"
 refine⟨_,_,rfl,rfl,?_⟩
 refine Zs ?_
 refine Zn (W4 ?_)
 refine Zb rfl rfl rfl rfl KA ?_
 refine Zh ?_ rfl
 refine Zp ?_
 walk_at "w"
 refine⟨_,_,_,Za I.st,Z0,rfl,rfl,?_⟩
 walk_at "w"
 refine⟨_,_,_,rfl,Qd,rfl,rfl,?_⟩
 refine⟨_,_,r,_,I.rs,rfl,YC I.ok (by exact Nat.le_trans (by assumption) (by decide)),YD I.ok (by exact Nat.le_trans (by assumption) (by decide)),?_⟩
 walk_at "w"
 refine⟨_,_,_,rfl,J9,rfl,rfl,?_⟩
 walk_at "w"
 refine(Zcl).e (nB rfl) ?_
 walk_at "w"
 refine⟨_,_,_,Za I.st,Z0,rfl,rfl,?_⟩
 walk_at "w"
 refine⟨_,_,_,rfl,Qd,rfl,rfl,?_⟩
 refine⟨a.R,_,r,rfl,I.rs,rfl,by rw[Jk I.ok];exact Nat.le_trans (by assumption) (by decide),by rw[Jk I.ok];decide,?_⟩
 walk_at "w"
 rw[V7]
 exact⟨rfl,I.setR (m':=ZD m r (v % 2^64)) rfl rfl⟩
theorem ZaY(I:MSt σ a m){r:Nat}(hr:r<8){v:Int}:Zd 4 (.ref 596) [.ref a.S,Di r,.int 64,.int v] σ (fun x σ'=>x=.none∧σ'=σ.mac a (ZD m r (v % 2^64))) noX:=by
 refine Zc (d:=3) ["self","register","size","worth"] Vp (fun P=>by kernel_rfl) Zf (Hm fun x y z w=>rfl) rfl rfl rfl fun N=>?_
 walk_at "w"
 refine ZY (ZE (Z2 ?_ rfl))
 walk_at "w"
 refine⟨_,_,_,rfl,QC,rfl,rfl,?_⟩
 walk_at "w"
 refine⟨_,_,rfl,rfl,?_⟩
 refine Zk ?_
 refine Zk ?_
 walk_at "w"
 refine Zj rfl rfl ?_
 walk_at "w"
 refine⟨_,_,_,Za I.st,Vd,rfl,?_⟩
 walk_at "w"
 refine(OW I hr).e (nB rfl) ?_
 walk_at "w"
 exact⟨rfl,rfl⟩
theorem Ka{r:Nat}(hr:r<8){S dS:Addr}{fs:List (Str×V)}(h:σ.is S=some ⟨false,667,dS,fs⟩){iv:V}{nm:V}{ops:List V}{px:V}(hi:iv=.obj 900 [("name",nm),("operands",.tup ops),("prefix",px)])(hz:ops.length≤1000):Zd 1 (.ref 622) [.ref S,opV (.reg r),iv] σ (fun x σ'=>x=.int 64∧σ'=σ) noX:=by
 subst hi
 refine Zc (d:=0) ["self","operand","instruction"] Vo (fun P=>by kernel_rfl) Zf (Jr fun x y z=>rfl) rfl rfl rfl fun N=>?_
 walk_at "w"
 refine Q4 rfl (.inl rfl) (fun q_ q_=>rfl) ?_
 refine Ur (Qt (ZN (Zh (YW rfl rfl rfl (ZW ⟨nB rfl,?_⟩)) rfl)))
 refine Z4 rfl rfl rfl rfl Kn Kq trivial ?_
 walk_at "w"
 refine⟨_,_,_,rfl,ZG,rfl,rfl,?_⟩
 walk_at "w"
 refine Ng rfl (Nat.le_trans hz (by decide)) ?_
 refine⟨_,_,rfl,rfl,by simp only[List.length_cons,List.length_nil];lia,_,rfl,fun i ρ' σ'=>i=0∧Yt [] ρ'∧σ'=σ,⟨rfl,trivial,rfl⟩,?_,?_,?_⟩
 ·intros;rfl
 ·rintro i v ρ1 σ2 hv ⟨rfl,_,rfl⟩
  cases hv
  refine Zy (Zg rfl ?_)
  refine WS.view (ρ':=[("one",opV (.reg r))]) ⟨(ZT _ _ _ _).trans (if_pos rfl),trivial⟩ ?_
  walk_at "w"
  refine Z2 ?_ rfl
  walk_at "w"
  refine⟨_,_,_,rfl,VY,rfl,rfl,?_⟩
  walk_at "w"
  refine⟨_,_,rfl,rfl,?_⟩
  refine Zs ?_
  walk_at "w"
  refine⟨_,_,_,rfl,QO,rfl,rfl,?_⟩
  refine⟨_,_,_,rfl,J9,rfl,rfl,?_⟩
  exact⟨rfl,rfl⟩
 ·rintro ρ1 σ2 ⟨e,_⟩
  simp at e
theorem Bw(I:MSt σ a m){o:Op}(ho:o.ok):Zd 4 (.ref 629) [.ref a.S,opV o,.int 64] σ (fun x σ'=>x=.int (Zc2 m o)∧σ'=σ) noX:=by
 refine Zc (d:=3) ["self","operand","size"] Xq (fun P=>by kernel_rfl) Zf (Jr fun x y z=>rfl) rfl rfl rfl fun N=>?_
 walk_at "w"
 refine Z2 ?_ rfl
 cases o with
 |reg r=>
  walk_at "w"
  refine⟨_,_,_,rfl,VY,rfl,rfl,?_⟩
  walk_at "w"
  refine⟨_,_,rfl,rfl,?_⟩
  refine Zs ?_
  walk_at "w"
  refine Zb rfl rfl rfl rfl Qo ?_
  refine Zh ?_ rfl
  refine Zj rfl rfl ?_
  walk_at "w"
  refine⟨_,_,_,Za I.st,Dr,rfl,?_⟩
  walk_at "w"
  refine⟨_,_,_,rfl,QO,rfl,rfl,?_⟩
  walk_at "w"
  refine(Zgv I ho).e (nB rfl) ?_
  walk_at "w"
  refine(Qh (by decide) (by decide)).e (nB rfl) ?_
  exact⟨congrArg V.int (NW I.ok (Nat.lt_of_lt_of_le ho (by decide))),rfl⟩
 |imm i=>
  walk_at "w"
  refine⟨_,_,_,rfl,KJ,rfl,rfl,?_⟩
  walk_at "w"
  refine⟨_,_,rfl,rfl,?_⟩
  refine Zk ?_
  walk_at "w"
  refine Z2 ?_ rfl
  walk_at "w"
  refine⟨_,_,_,rfl,KJ,rfl,rfl,?_⟩
  walk_at "w"
  refine⟨_,_,rfl,rfl,?_⟩
  refine Zk ?_
  walk_at "w"
  refine Zb rfl rfl rfl rfl Qo ?_
  walk_at "w"
  refine⟨_,_,_,rfl,D3,rfl,rfl,?_⟩
  walk_at "w"
  refine(Qh (by decide) (by decide)).e (nB rfl) ?_
  exact⟨rfl,rfl⟩
theorem Hh(I:MSt σ a m){r:Nat}(hr:r<8){v:Int}:Zd 5 (.ref 636) [.ref a.S,opV (.reg r),.int 64,.int v] σ (fun x σ'=>x=.none∧σ'=σ.mac a (ZD m r (v % 2^64))) noX:=by
 refine Zc (d:=4) ["self","operand","size","worth"] Wu (fun P=>by kernel_rfl) Zf (Hm fun x y z w=>rfl) rfl rfl rfl fun N=>?_
 walk_at "w"
 refine Z2 ?_ rfl
 walk_at "w"
 refine⟨_,_,_,rfl,VY,rfl,rfl,?_⟩
 walk_at "w"
 refine⟨_,_,rfl,rfl,?_⟩
 refine Zs ?_
 walk_at "w"
 refine Zj rfl rfl ?_
 walk_at "w"
 refine⟨_,_,_,Za I.st,Gm,rfl,?_⟩
 walk_at "w"
 refine⟨_,_,_,rfl,QO,rfl,rfl,?_⟩
 walk_at "w"
 refine(ZaY I hr).e (nB rfl) ?_
 walk_at "w"
 exact⟨rfl,rfl⟩
noncomputable def Ut(m:MS)(v:Int):MS:={ZD m 4 ((reg m 4-8) % 2^64)with mem:=mwrite m.mem ((reg m 4-8) % 2^64) v 8}
noncomputable def Dm(m:MS):Int:=mread m.mem (reg m 4) 8
noncomputable def WC(m:MS):MS:=ZD m 4 ((reg m 4+8) % 2^64)
theorem Dk{m:MS}(ok:MOK m)(v:Int):MOK (Ut m v):=(ok.reg 4 (YJ _)).mem _ _ _
theorem H4{m:MS}(ok:MOK m):MOK (WC m):=ok.reg 4 (YJ _)
theorem ZaZ(I:MSt σ a m)(hz:m.mem.length≤1000){v:Int}:Zd 5 (.ref 643) [.ref a.S,.int v,.int 8] σ (fun x σ'=>x=.none∧σ'=σ.mac a (Ut m v)) noX:=by
 refine Zc (d:=4) ["self","worth","width"] Xr (fun P=>by kernel_rfl) Zf (Jr fun x y z=>rfl) rfl rfl rfl fun N=>?_
 walk_at "w"
 refine W4 ?_
 refine Zb rfl rfl rfl rfl Qo ?_
 refine Zh (JL (Zp ?_)) rfl
 walk_at "w"
 refine⟨_,_,_,Za I.st,Z0,rfl,rfl,?_⟩
 refine Zw rfl Y4 rfl rfl ?_
 refine⟨_,_,4,_,I.rs,rfl,YC I.ok (by decide),YD I.ok (by decide),?_⟩
 walk_at "w"
 refine⟨_,_,_,rfl,rfl,rfl,?_⟩
 walk_at "w"
 refine(Qh (by decide) (by decide)).e (nB rfl) ?_
 walk_at "w"
 refine⟨_,_,_,Za I.st,Z0,rfl,rfl,?_⟩
 refine Zw rfl Y4 rfl rfl ?_
 refine⟨a.R,_,4,rfl,I.rs,rfl,by rw[Jk I.ok];decide,by rw[Jk I.ok];decide,?_⟩
 rw[V7]
 refine WS.at (I.setR (m':=ZD m 4 ((reg m 4-8) % 2^64)) rfl rfl) ?_
 have I1:=I.mac (I.ok.reg 4 (YJ (reg m 4-8)))
 walk_at "w"
 refine Zj rfl rfl ?_
 walk_at "w"
 refine⟨_,_,_,Za I1.st,Yh,rfl,rfl,?_⟩
 refine⟨_,_,_,Za I1.me.is,GQ,rfl,?_⟩
 refine Zh (Zp ?_) rfl
 walk_at "w"
 refine⟨_,_,_,Za I1.st,Z0,rfl,rfl,?_⟩
 refine Zw rfl Y4 rfl rfl ?_
 refine⟨_,_,4,_,I1.rs,rfl,YC I1.ok (by decide),YD I1.ok (by decide),?_⟩
 rw[Va I.ok (by decide)]
 walk_at "w"
 refine(ZdI (n:=8) I1.me (by decide) (Nat.le_trans hz (by decide))).e (nB rfl) ?_
 walk_at "w"
 exact⟨rfl,(I1.setM (m':=Ut m v) rfl rfl).trans (Hp.mac_mac ..)⟩
theorem ZcI(I:MSt σ a m):Zd 5 (.ref 650) [.ref a.S,.int 8] σ (fun x σ'=>x=.int (Dm m)∧σ'=σ.mac a (WC m)) noX:=by
 refine Zc (d:=4) ["self","width"] XU (fun P=>by kernel_rfl) Zf (ZH fun x y=>rfl) rfl rfl rfl fun N=>?_
 walk_at "w"
 refine Zj rfl rfl ?_
 walk_at "w"
 refine⟨_,_,_,Za I.st,Yh,rfl,rfl,?_⟩
 refine⟨_,_,_,Za I.me.is,YM,rfl,?_⟩
 refine Zh (Zp ?_) rfl
 walk_at "w"
 refine⟨_,_,_,Za I.st,Z0,rfl,rfl,?_⟩
 refine Zw rfl Y4 rfl rfl ?_
 refine⟨_,_,4,_,I.rs,rfl,YC I.ok (by decide),YD I.ok (by decide),?_⟩
 walk_at "w"
 refine(W3 (n:=8) I.me (by decide)).e (nB rfl) ?_
 walk_at "w"
 refine W4 ?_
 refine Zb rfl rfl rfl rfl Qo ?_
 refine Zh (JL (Zp ?_)) rfl
 walk_at "w"
 refine⟨_,_,_,Za I.st,Z0,rfl,rfl,?_⟩
 refine Zw rfl Y4 rfl rfl ?_
 refine⟨_,_,4,_,I.rs,rfl,YC I.ok (by decide),YD I.ok (by decide),?_⟩
 walk_at "w"
 refine⟨_,_,_,rfl,rfl,rfl,?_⟩
 walk_at "w"
 refine(Qh (by decide) (by decide)).e (nB rfl) ?_
 walk_at "w"
 refine⟨_,_,_,Za I.st,Z0,rfl,rfl,?_⟩
 refine Zw rfl Y4 rfl rfl ?_
 refine⟨a.R,_,4,rfl,I.rs,rfl,by rw[Jk I.ok];decide,by rw[Jk I.ok];decide,?_⟩
 rw[V7]
 refine WS.at (I.setR (m':=WC m) rfl rfl) ?_
 walk_at "w"
 exact⟨rfl,rfl⟩
end
end
section
section
variable{σ τ:Hp}{d:Nat}{a:MA}{m:MS}
theorem X7{α:Type}{f g:Addr→Option α}(h:∀a x,f a=some x→g a=some x){A:Addr}(n:f A=none)(v:Option α):∀a x,f a=some x→up g A v a=some x:=fun b x e=>(Ze _ _ fun q=>nomatch n.symm.trans ((congrArg f q.symm).trans e)).trans (h b x e)
theorem Hp.Le.nl(h:σ.Le τ){A:Addr}(n:σ.ls A=none)(v:Option (List V)):σ.Le {τ with ls:=up τ.ls A v}:={h with ls:=X7 h.ls n v}
theorem Hp.Le.ni(h:σ.Le τ){A:Addr}(n:σ.is A=none)(v:Option Rec):σ.Le {τ with is:=up τ.is A v}:={h with is:=X7 h.is n v}
theorem Hp.Le.nd(h:σ.Le τ){A:Addr}(n:σ.ds A=none)(v:Option (List (Int×V))):σ.Le {τ with ds:=up τ.ds A v}:={h with ds:=X7 h.ds n v}
theorem Hp.Le.ns(h:σ.Le τ){A:Addr}(n:σ.ss A=none)(v:Option (List (Str×V))):σ.Le {τ with ss:=up τ.ss A v}:={h with ss:=X7 h.ss n v}
theorem Hp.Le.nc(h:σ.Le τ){A:Addr}(n:σ.cs A=none)(v:Option (Option V)):σ.Le {τ with cs:=up τ.cs A v}:={h with cs:=X7 h.cs n v}
theorem MSt.le(I:MSt σ a m)(h:σ.Le τ):MSt τ a m:=⟨h.is _ _ I.st,h.ls _ _ I.rs,h.ls _ _ I.xs,h.is _ _ I.fl,⟨h.is _ _ I.me.is,h.ds _ _ I.me.ds,I.me.oct⟩,h.ss _ _ I.sg,I.hF,I.hM,I.hX,I.ok⟩
structure YG(σ τ:Hp)(a:MA)(m:MS):Prop where
 le:σ.Le τ
 st:MSt τ a m
 n1:σ.is a.S=none
 n2:σ.ls a.R=none
 n3:σ.ds a.H=none
theorem YG.regs(N:YG σ τ a m){R:Addr}(h:τ.ls R=none){rs:List Int}(h1:rs.length=16)(h2:∀i∈rs,0≤i∧i<2^64):
  YG σ {ls:=up τ.ls R (some (Jy rs)),ds:=τ.ds,ss:=τ.ss,is:=up τ.is a.S (some ⟨false,667,a.dS,Qc {a with R:=R} {m with regs:=rs}⟩),cs:=τ.cs,ts:=τ.ts} {a with R:=R} {m with regs:=rs} where
 le:=(N.le.nl (Zi N.le.ls h) _).ni N.n1 _
 st:=⟨up_self ..,up_self ..,(Ze _ _ (nne N.st.xs h)).trans N.st.xs,(Ze _ _ N.st.hF).trans N.st.fl,⟨(Ze _ _ N.st.hM).trans N.st.me.is,N.st.me.ds,N.st.me.oct⟩,N.st.sg,N.st.hF,N.st.hM,nne N.st.xs h,⟨h1,h2,N.st.ok.oct,N.st.ok.nd⟩⟩
 n1:=N.n1
 n2:=Zi N.le.ls h
 n3:=N.n3
theorem YG.xmm(N:YG σ τ a m){R:Addr}(h:τ.ls R=none):
  YG σ {ls:=up τ.ls R (some (List.replicate 16 (.int 0))),ds:=τ.ds,ss:=τ.ss,is:=up τ.is a.S (some ⟨false,667,a.dS,Qc {a with XM:=R} m⟩),cs:=τ.cs,ts:=τ.ts} {a with XM:=R} m where
 le:=(N.le.nl (Zi N.le.ls h) _).ni N.n1 _
 st:=⟨up_self ..,(Ze _ _ (nne N.st.rs h)).trans N.st.rs,up_self ..,(Ze _ _ N.st.hF).trans N.st.fl,⟨(Ze _ _ N.st.hM).trans N.st.me.is,N.st.me.ds,N.st.me.oct⟩,N.st.sg,N.st.hF,N.st.hM,(nne N.st.rs h).symm,N.st.ok⟩
 n1:=N.n1
 n2:=N.n2
 n3:=N.n3
theorem YG.flags(N:YG σ τ a m){F dF:Addr}(h:τ.is F=none):
  YG σ {ls:=τ.ls,ds:=τ.ds,ss:=τ.ss,is:=up (up τ.is F (some ⟨false,344,dF,Y2⟩)) a.S (some ⟨false,667,a.dS,Qc {a with F:=F,dF:=dF} m⟩),cs:=τ.cs,ts:=τ.ts} {a with F:=F,dF:=dF} m where
 le:=(N.le.ni (Zi N.le.is h) _).ni N.n1 _
 st:=⟨up_self ..,N.st.rs,N.st.xs,(Ze _ _ (nne N.st.st h).symm).trans (up_self ..),⟨(Ze _ _ N.st.hM).trans ((Ze _ _ (nne N.st.me.is h)).trans N.st.me.is),N.st.me.ds,N.st.me.oct⟩,N.st.sg,(nne N.st.st h).symm,N.st.hM,N.st.hX,N.st.ok⟩
 n1:=N.n1
 n2:=N.n2
 n3:=N.n3
theorem YG.memory(N:YG σ τ a m){M dM H:Addr}(h:τ.is M=none)(h':τ.ds H=none):
  YG σ {ls:=τ.ls,ds:=up τ.ds H (some []),ss:=τ.ss,is:=up (up τ.is M (some ⟨false,550,dM,[("held",.ref H)]⟩)) a.S (some ⟨false,667,a.dS,Qc {a with M:=M,dM:=dM,H:=H} {m with mem:=[]}⟩),cs:=τ.cs,ts:=τ.ts} {a with M:=M,dM:=dM,H:=H} {m with mem:=[]} where
 le:=((N.le.nd (Zi N.le.ds h') _).ni (Zi N.le.is h) _).ni N.n1 _
 st:=⟨up_self ..,N.st.rs,N.st.xs,(Ze _ _ N.st.hF).trans ((Ze _ _ (nne N.st.fl h)).trans N.st.fl),⟨(Ze _ _ (nne N.st.st h).symm).trans (up_self ..),up_self ..,by simp⟩,N.st.sg,N.st.hF,(nne N.st.st h).symm,N.st.hX,⟨N.st.ok.len,N.st.ok.rb,by simp,by simp⟩⟩
 n1:=N.n1
 n2:=N.n2
 n3:=Zi N.le.ds h'
theorem YG.segs(N:YG σ τ a m){G:Addr}(h:τ.ss G=none):
  YG σ {ls:=τ.ls,ds:=τ.ds,ss:=up τ.ss G (some O4),is:=up τ.is a.S (some ⟨false,667,a.dS,Qc {a with SG:=G} m⟩),cs:=τ.cs,ts:=τ.ts} {a with SG:=G} m where
 le:=(N.le.ns (Zi N.le.ss h) _).ni N.n1 _
 st:=⟨up_self ..,N.st.rs,N.st.xs,(Ze _ _ N.st.hF).trans N.st.fl,⟨(Ze _ _ N.st.hM).trans N.st.me.is,N.st.me.ds,N.st.me.oct⟩,up_self ..,N.st.hF,N.st.hM,N.st.hX,N.st.ok⟩
 n1:=N.n1
 n2:=N.n2
 n3:=N.n3
theorem YG.flds(N:YG σ τ a m){m':MS}(h1:m'.regs=m.regs)(h2:m'.mem=m.mem):
  YG σ {τ with is:=up τ.is a.S (some ⟨false,667,a.dS,Qc a m'⟩)} a m' where
 le:=N.le.ni N.n1 _
 st:=⟨up_self ..,by rw[h1];exact N.st.rs,N.st.xs,(Ze _ _ N.st.hF).trans N.st.fl,⟨(Ze _ _ N.st.hM).trans N.st.me.is,by rw[h2];exact N.st.me.ds,by rw[h2];exact N.st.me.oct⟩,N.st.sg,N.st.hF,N.st.hM,N.st.hX,⟨by rw[h1];exact N.st.ok.len,by rw[h1];exact N.st.ok.rb,by rw[h2];exact N.st.ok.oct,by rw[h2];exact N.st.ok.nd⟩⟩
 n1:=N.n1
 n2:=N.n2
 n3:=N.n3
theorem WS.new{c:Ctx}{st:List Stmt}{ρ:Loc}{N:Loc→Hp→Prop}{R:V→Hp→Prop}{X:Addr→Loc→Hp→Prop}(h:YG σ τ a m)(q:∀τ',YG σ τ' a m→WS c d st ρ τ' N R X):WS c d st ρ τ N R X:=q τ h
structure LeX(S:Addr)(σ τ:Hp):Prop where
 ls:∀a x,σ.ls a=some x→τ.ls a=some x
 ds:∀a x,σ.ds a=some x→τ.ds a=some x
 ss:∀a x,σ.ss a=some x→τ.ss a=some x
 is:∀a x,a≠S→σ.is a=some x→τ.is a=some x
 cs:∀a x,σ.cs a=some x→τ.cs a=some x
 ts:∀a x,σ.ts a=some x→τ.ts a=some x
theorem LeX.trans{S:Addr}{σ τ υ:Hp}(h:LeX S σ τ)(k:LeX S τ υ):LeX S σ υ:=⟨fun a x e=>k.ls a x (h.ls a x e),fun a x e=>k.ds a x (h.ds a x e),fun a x e=>k.ss a x (h.ss a x e),fun a x n e=>k.is a x n (h.is a x n e),fun a x e=>k.cs a x (h.cs a x e),fun a x e=>k.ts a x (h.ts a x e)⟩
theorem LeX.of{S:Addr}{σ τ:Hp}(h:σ.Le τ)(r:Option Rec):LeX S σ {τ with is:=up τ.is S r}:=⟨h.ls,h.ds,h.ss,fun a x n e=>(Ze _ _ n).trans (h.is a x e),h.cs,h.ts⟩
theorem LeX.le{S:Addr}{σ τ:Hp}{r:Option Rec}(h:LeX S {σ with is:=up σ.is S r} τ)(n:σ.is S=none):σ.Le τ:=⟨h.ls,h.ds,h.ss,fun a x e=>have z:a≠S:=fun q=>nomatch n.symm.trans ((congrArg σ.is q.symm).trans e);h.is a x z ((Ze _ _ z).trans e),h.cs,h.ts⟩
noncomputable abbrev stR(dS:Addr)(fs:List (Str×V)):Option Rec:=some ⟨false,667,dS,fs⟩
theorem WS.hid{c:Ctx}{st:List Stmt}{ρ:Loc}{N:Loc→Hp→Prop}{R:V→Hp→Prop}{X:Addr→Loc→Hp→Prop}{P:Hp→Prop}(h:P τ)(q:∀τ',P τ'→WS c d st ρ τ' N R X):WS c d st ρ τ N R X:=q τ h
theorem DQ{S dS:Addr}{Q:V→Hp→Prop}(hS:σ.is S=none)(hq:∀a τ,a.S=S→YG σ τ a ms0→Q .none τ):Zd 3 (.ref 575) [.ref S,.none] {σ with is:=up σ.is S (stR dS [])} Q noX:=by
 refine Zc (d:=2) ["self","iset"] UF (fun P=>by kernel_rfl) Zf (ZH fun x y=>rfl) rfl rfl rfl fun N=>?_
 walk_at "w"
 refine⟨_,_,_,_,_,rfl,up_self ..,B2,rfl,?_⟩
 refine WS.hid (P:=fun τ=>LeX S _ τ∧τ.is S=stR dS [("iset",.none)]) ⟨LeX.of (Hp.Le.refl _) _,up_self ..⟩ fun τ1 h1=>?_
 refine Zn (YV ?_)
 refine Oz ?_
 refine ZN ?_
 walk_at "w"
 refine⟨by decide,?_⟩
 walk_at "w"
 refine⟨_,16,rfl,rfl,by decide,fun R hR=>?_⟩
 walk_at "w"
 refine⟨_,_,_,_,_,rfl,h1.2,Xk,rfl,?_⟩
 refine WS.hid (P:=fun τ=>LeX S τ1 τ∧τ.is S=stR dS [("iset",.none),("regs",.ref R)]∧τ.ls R=some (Jy ms0.regs)) ⟨LeX.of ((Hp.Le.refl _).nl hR _) _,up_self ..,up_self ..⟩ fun τ2 h2=>?_
 refine Zn (YV ?_)
 refine Oz ?_
 refine ZN ?_
 walk_at "w"
 refine⟨by decide,?_⟩
 walk_at "w"
 refine⟨_,16,rfl,rfl,by decide,fun XM hXM=>?_⟩
 walk_at "w"
 refine⟨_,_,_,_,_,rfl,h2.2.1,X9,rfl,?_⟩
 refine WS.hid (P:=fun τ=>LeX S τ2 τ∧τ.is S=stR dS [("iset",.none),("regs",.ref R),("xmm",.ref XM)]∧τ.ls XM=some (List.replicate 16 (.int 0))) ⟨LeX.of ((Hp.Le.refl _).nl hXM _) _,up_self ..,up_self ..⟩ fun τ3 h3=>?_
 walk_at "w"
 refine Zb rfl rfl rfl rfl DD ?_
 walk_at "w"
 refine Ow fun F dF fr hF=>?_
 have hF0:=(fr F (by rw[hF];exact Nat.le_succ _)).is
 have hFS:F≠S:=(nne h3.2.1 hF0).symm
 walk_at "w"
 refine⟨_,_,_,_,_,rfl,((Ze _ _ hFS.symm).trans h3.2.1),Wf,rfl,?_⟩
 refine WS.hid (P:=fun τ=>LeX S τ3 τ∧τ.is S=stR dS [("iset",.none),("regs",.ref R),("xmm",.ref XM),("flags",.ref F)]∧τ.is F=some ⟨false,344,dF,Y2⟩) ⟨LeX.of ((Hp.Le.refl _).ni hF0 _) _,up_self ..,(Ze _ _ hFS).trans (up_self ..)⟩ fun τ4 h4=>?_
 walk_at "w"
 refine Zb rfl rfl rfl rfl Bs ?_
 walk_at "w"
 refine DT fun M dM H hM hH=>?_
 have hMS:M≠S:=(nne h4.2.1 hM).symm
 walk_at "w"
 refine⟨_,_,_,_,_,rfl,((Ze _ _ hMS.symm).trans h4.2.1),V6,rfl,?_⟩
 refine WS.hid (P:=fun τ=>LeX S τ4 τ∧τ.is S=stR dS [("iset",.none),("regs",.ref R),("xmm",.ref XM),("flags",.ref F),("memory",.ref M)]∧τ.is M=some ⟨false,550,dM,[("held",.ref H)]⟩∧τ.ds H=some []) ⟨LeX.of (((Hp.Le.refl _).nd hH _).ni hM _) _,up_self ..,(Ze _ _ hMS).trans (up_self ..),up_self ..⟩ fun τ5 h5=>?_
 walk_at "w"
 refine⟨_,_,_,_,_,rfl,h5.2.1,YB,rfl,?_⟩
 refine WS.hid (P:=fun τ=>LeX S τ5 τ∧τ.is S=stR dS [("iset",.none),("regs",.ref R),("xmm",.ref XM),("flags",.ref F),("memory",.ref M),("rip",.int 0)]) ⟨LeX.of (Hp.Le.refl _) _,up_self ..⟩ fun τ6 h6=>?_
 walk_at "w"
 refine⟨_,_,_,_,_,rfl,h6.2,Ul,rfl,?_⟩
 refine WS.hid (P:=fun τ=>LeX S τ6 τ∧τ.is S=stR dS [("iset",.none),("regs",.ref R),("xmm",.ref XM),("flags",.ref F),("memory",.ref M),("rip",.int 0),("begin",.int 0)]) ⟨LeX.of (Hp.Le.refl _) _,up_self ..⟩ fun τ7 h7=>?_
 refine Zn (YV ?_)
 refine GB ?_ (fun q_ q_=>rfl) (List.cons_ne_nil _ _) (nB rfl)
 refine Jv (W7 (Jv (W7 (DY ⟨by decide,fun SG g1 g2=>?_⟩))))
 walk_at "w"
 refine⟨_,_,_,_,_,rfl,h7.2,UC,rfl,?_⟩
 refine WS.hid (P:=fun τ=>LeX S τ7 τ∧τ.is S=stR dS [("iset",.none),("regs",.ref R),("xmm",.ref XM),("flags",.ref F),("memory",.ref M),("rip",.int 0),("begin",.int 0),("segments",.ref SG)]∧τ.ss SG=some O4) ⟨LeX.of ((Hp.Le.refl _).ns g2 _) _,up_self ..,up_self ..⟩ fun τ8 h8=>?_
 walk_at "w"
 refine⟨_,_,_,_,_,rfl,h8.2.1,Qb,rfl,?_⟩
 refine WS.hid (P:=fun τ=>LeX S τ8 τ∧τ.is S=stR dS (Qc ⟨S,dS,R,XM,F,dF,M,dM,H,SG⟩ ms0)) ⟨LeX.of (Hp.Le.refl _) _,up_self ..⟩ fun τ9 h9=>?_
 walk_at "w"
 have l8:=h8.1.trans h9.1
 have l5:=h6.1.trans (h7.1.trans l8)
 have l4:=h5.1.trans l5
 have l2:=h3.1.trans (h4.1.trans l4)
 exact hq ⟨S,dS,R,XM,F,dF,M,dM,H,SG⟩ τ9 rfl ⟨((h1.1.trans h2.1).trans l2).le hS,⟨h9.2,l2.ls _ _ h2.2.2,(h4.1.trans l4).ls _ _ h3.2.2,l4.is _ _ hFS h4.2.2,⟨l5.is _ _ hMS h5.2.2.1,l5.ds _ _ h5.2.2.2,fun q_ h=>nin h⟩,h9.1.ss _ _ h8.2.2,hFS,hMS,(nne h2.2.2 hXM).symm,Za9⟩,hS,Zi h1.1.ls hR,Zi ((h1.1.trans h2.1).trans (h3.1.trans h4.1)).ds hH⟩
theorem Ov{Q:V→Hp→Prop}{X:Addr→Hp→Prop}(hq:∀a τ,YG σ τ a ms0→Q (.ref a.S) τ):ZO 4 (.ref 667) [.none] σ Q X:=
 (Ub (Q:=Q) ZbF fun n hn=>(DQ (hn _ (Nat.le_succ n)).is fun a τ e h=>⟨rfl,(show a.S=n+1 from e)▸hq a τ h⟩).mono (Nat.le_refl 3) (fun q_ q_ q=>q) fun q_ q_ q=>q.elim).w
theorem DR(I:MSt σ a m)(hm:m.mem=[]){Q:V→Hp→Prop}{X:Addr→Hp→Prop}(hq:∀a' τ,YG σ τ a' m→Q (.ref a'.S) τ):Zd 5 (.ref 664) [.ref a.S] σ Q noX:=by
 refine Zc (d:=4) ["self"] Xs (fun P=>by kernel_rfl) Zf (Yj fun x=>rfl) rfl rfl rfl fun N=>?_
 walk_at "w"
 refine Zb rfl rfl rfl rfl D9 ?_
 walk_at "w"
 refine⟨_,_,_,Za I.st,BB,rfl,rfl,?_⟩
 walk_at "w"
 refine Ov fun b τ N=>?_
 have I0:=I.le N.le
 walk_at "w"
 refine Z4 rfl rfl rfl rfl Kn Kq trivial ?_
 walk_at "w"
 refine⟨_,_,_,Za I0.st,Z0,rfl,rfl,?_⟩
 walk_at "w"
 refine Nf I0.rs (by rw[Jk I.ok];decide) fun R hR=>?_
 walk_at "w"
 refine⟨_,_,_,_,_,rfl,N.st.st,Xk,rfl,?_⟩
 have N1:=N.regs hR I.ok.len I.ok.rb
 refine(WS.new N1 fun τ1 N1=>?_)
 have I1:=I.le N1.le
 walk_at "w"
 refine Z4 rfl rfl rfl rfl Kn Kq trivial ?_
 walk_at "w"
 refine⟨_,_,_,Za I1.st,XN,rfl,rfl,?_⟩
 walk_at "w"
 refine Nf I1.xs (by rw[List.length_replicate];decide) fun XM hXM=>?_
 walk_at "w"
 refine⟨_,_,_,_,_,rfl,N1.st.st,X9,rfl,?_⟩
 have N2:=N1.xmm hXM
 refine(WS.new N2 fun τ2 N2=>?_)
 have I2:=I.le N2.le
 walk_at "w"
 refine Zj rfl rfl ?_
 walk_at "w"
 refine⟨_,_,_,Za I2.st,Wp,rfl,rfl,?_⟩
 refine⟨_,_,_,Za I2.fl,B8,rfl,?_⟩
 walk_at "w"
 refine(DV I2.fl fun F dF hF1 hF2=>?_).u (nB rfl) fun q_ q_ q=>q
 have hF:τ2.is F=none:=(hF1 F (by rw[hF2];exact Nat.le_succ _)).is
 walk_at "w"
 refine⟨_,_,_,_,_,rfl,((Ze _ _ (nne N2.st.st hF)).trans N2.st.st),Wf,rfl,?_⟩
 have N3:=N2.flags (dF:=dF) hF
 refine(WS.new N3 fun τ3 N3=>?_)
 have I3:=I.le N3.le
 walk_at "w"
 refine Zj rfl rfl ?_
 walk_at "w"
 refine⟨_,_,_,Za I3.st,Yh,rfl,rfl,?_⟩
 refine⟨_,_,_,Za I3.me.is,HE,rfl,?_⟩
 walk_at "w"
 refine(BO (hm▸I3.me) fun M dM H h1 h2=>?_).u (nB rfl) fun q_ q_ q=>q
 walk_at "w"
 refine⟨_,_,_,_,_,rfl,((Ze _ _ (nne N3.st.st h1)).trans N3.st.st),V6,rfl,?_⟩
 have N4:=N3.memory (dM:=dM) h1 h2
 refine(WS.new N4 fun τ4 N4=>?_)
 have I4:=I.le N4.le
 walk_at "w"
 refine⟨_,_,_,Za I4.st,ZL,rfl,rfl,?_⟩
 walk_at "w"
 refine⟨_,_,_,_,_,rfl,N4.st.st,YB,rfl,?_⟩
 have N5:=N4.flds (m':={ms0 with regs:=m.regs,mem:=[],rip:=m.rip}) rfl rfl
 refine(WS.new N5 fun τ5 N5=>?_)
 have I5:=I.le N5.le
 walk_at "w"
 refine⟨_,_,_,Za I5.st,Wq,rfl,rfl,?_⟩
 walk_at "w"
 refine⟨_,_,_,_,_,rfl,N5.st.st,Ul,rfl,?_⟩
 have N6:=N5.flds (m':={ms0 with regs:=m.regs,mem:=[],rip:=m.rip,begin:=m.begin}) rfl rfl
 refine(WS.new N6 fun τ6 N6=>?_)
 have I6:=I.le N6.le
 refine Zn (YV ?_)
 refine GB ?_ (fun q_ q_=>rfl) (List.cons_ne_nil _ _) (nB rfl)
 refine Jv (ZR ?_)
 walk_at "w"
 refine⟨_,_,_,Za I6.st,Jq,rfl,rfl,?_⟩
 walk_at "w"
 refine⟨_,_,_,I6.sg,rfl,rfl,?_⟩
 refine Jv (ZR ?_)
 walk_at "w"
 refine⟨_,_,_,Za I6.st,Jq,rfl,rfl,?_⟩
 walk_at "w"
 refine⟨_,_,_,I6.sg,rfl,rfl,DY ⟨by decide,fun SG h1 h2=>?_⟩⟩
 walk_at "w"
 refine⟨_,_,_,_,_,rfl,N6.st.st,UC,rfl,?_⟩
 have N7:=N6.segs h2
 refine(WS.new N7 fun τ7 N7=>?_)
 have I7:=I.le N7.le
 walk_at "w"
 refine⟨_,_,_,Za I7.st,Je,rfl,rfl,?_⟩
 walk_at "w"
 refine⟨_,_,_,_,_,rfl,N7.st.st,Qb,rfl,?_⟩
 have N8:=N7.flds (m':=m) rfl hm
 refine(WS.new N8 fun τ8 N8=>?_)
 walk_at "w"
 have:=hq _ _ N8
 exact this
end
end
section
section
variable{σ τ:Hp}{d:Nat}{a:MA}{m:MS}
noncomputable abbrev Yx(m:MS):V:=.tup [.tup (Jy m.regs),.tup (List.replicate 16 (.int 0)),.tup (List.replicate 7 (.int 0)),.tup (Zr (srt (nzs m.mem))),.int m.rip,.tup [.int 0,.int 0],.bool m.halted]
theorem Vv(SO:U9)(I:MSt σ a m)(hz:m.mem.length≤1000):Zd 4 (.ref 657) [.ref a.S] σ (fun x σ'=>x=Yx m∧σ'=σ) noX:=by
 refine Zc (d:=3) ["self"] Xp (fun P=>by kernel_rfl) Zf (Yj fun x=>rfl) rfl rfl rfl fun N=>?_
 walk_at "w"
 refine Zx ?_
 refine Zh (ZR ?_) rfl
 walk_at "w"
 refine⟨_,_,_,Za I.st,Jq,rfl,rfl,?_⟩
 walk_at "w"
 refine⟨_,_,_,I.sg,rfl,rfl,?_⟩
 refine Zh (ZR ?_) rfl
 walk_at "w"
 refine⟨_,_,_,Za I.st,Jq,rfl,rfl,?_⟩
 walk_at "w"
 refine⟨_,_,_,I.sg,rfl,rfl,ZW ⟨by decide,?_⟩⟩
 walk_at "w"
 refine Zx ?_
 walk_at "w"
 refine Z4 rfl rfl rfl rfl Xc Xd trivial ?_
 walk_at "w"
 refine⟨_,_,_,Za I.st,Z0,rfl,rfl,?_⟩
 walk_at "w"
 refine Xi I.rs (by rw[Jk I.ok];decide) ?_
 walk_at "w"
 refine Z4 rfl rfl rfl rfl Xc Xd trivial ?_
 walk_at "w"
 refine⟨_,_,_,Za I.st,XN,rfl,rfl,?_⟩
 walk_at "w"
 refine Xi I.xs (by rw[List.length_replicate];decide) ?_
 walk_at "w"
 refine Zj rfl rfl ?_
 walk_at "w"
 refine⟨_,_,_,Za I.st,Wp,rfl,rfl,?_⟩
 refine⟨_,_,_,Za I.fl,B6,rfl,?_⟩
 walk_at "w"
 refine(DU I.fl).e (nB rfl) ?_
 walk_at "w"
 refine Zj rfl rfl ?_
 walk_at "w"
 refine⟨_,_,_,Za I.st,Yh,rfl,rfl,?_⟩
 refine⟨_,_,_,Za I.me.is,HD,rfl,?_⟩
 walk_at "w"
 refine(BM SO I.me I.ok.nd hz).e (nB rfl) ?_
 walk_at "w"
 refine⟨_,_,_,Za I.st,ZL,rfl,rfl,?_⟩
 walk_at "w"
 refine⟨_,_,_,Za I.st,Je,rfl,rfl,?_⟩
 walk_at "w"
 exact⟨nB rfl,rfl,rfl⟩
inductive ZcZ(Q:Bool→Hp→Prop)(a:V)(b:V)(σ2:Hp):Prop
 |mk (i:_) (j:_) (h1:a=.str i) (h2:b=.str j) (h3:Q (i !=j) σ2):ZcZ Q a b σ2
theorem JF{c:Ctx}{d:Nat}{l r:Expr}{pos:Pos}{ρ:Loc}{Q:Bool→Hp→Prop}{X:Addr→Loc→Hp→Prop}(h:WE c d l ρ σ (fun a σ1=>WE c d r ρ σ1 (ZcZ Q a) X) X)(hm:behindInMarks .NotEq r=false):WT c d (.Compare l [.NotEq] [r] pos) ρ σ Q X:=
 Zq (JU (ne:=true) (WE.mono h fun a σ1 h1=>WE.mono h1 fun b σ2 ⟨i,j,e1,e2,q⟩=>⟨i,j,e1,e2,_,rfl,q⟩) hm) hm
inductive Ins
 |push (r:Nat)|pop (r:Nat)|movr (r q:Nat)|movi (r:Nat) (i:Int)|nop|ret|hlt|ud2|jl (i:Int)|call (i:Int)
noncomputable def Ins.name:Ins→Str
 | .push _=>"push" | .pop _=>"pop" | .movr .. =>"mov" | .movi .. =>"mov" | .nop=>"nop" | .ret=>"ret" | .hlt=>"hlt" | .ud2=>"ud2" | .jl _=>"loop" | .call _=>"call"
noncomputable def Zb5(i:Int):V:=.obj 847 [("kind",.str "rel"),("worth",.int i),("name",.str "")]
noncomputable def Ins.ops:Ins→List V
 | .push r=>[opV (.reg r)]| .pop r=>[opV (.reg r)]| .movr r q=>[opV (.reg r),opV (.reg q)]| .movi r i=>[opV (.reg r),opV (.imm i)]| .jl i=>[Zb5 i]| .call i=>[Zb5 i]|_=>[]
noncomputable def Ins.ok:Ins→Prop
 | .push r=>r<8| .pop r=>r<8| .movr r q=>r<8∧q<8| .movi r i=>r<8|_=>True
noncomputable def QN(nm:Str)(ops:List V):V:=.obj 900 [("name",.str nm),("operands",.tup ops),("prefix",.str "")]
noncomputable def QM(i:Ins):V:=QN i.name i.ops
noncomputable def WK(m:MS)(i:Int):MS:=let m1:=ZD m 1 ((reg m 1-1) % 2^64);if(reg m 1-1) % 2^64=0 then m1 else {m1 with rip:=(m.rip+i) % 2^64}
noncomputable def Ins.run(m:MS):Ins→MS
 | .push r=>Ut m (reg m r)
 | .pop r=>ZD (WC m) r (Dm m % 2^64)
 | .movr r q=>ZD m r (reg m q % 2^64)
 | .movi r i=>ZD m r (i % 2^64 % 2^64)
 | .nop=>m
 | .ret=>{WC m with rip:=Dm m}
 | .hlt=>{m with halted:=true}
 | .ud2=>m
 | .jl i=>WK m i
 | .call i=>{Ut m m.rip with rip:=(m.rip+i) % 2^64}
theorem U7{nm:Str}{ops:List V}{S:V}(h1:(nm=="nop")=false)(h2:(nm !="mov")=true)(h3:(nm !="lea")=true)(h4:(nm !="xchg")=true):Zd 6 (.ref 925) [S,QN nm ops] σ (fun x σ'=>x=.bool false∧σ'=σ) noX:=by
 refine Zc (d:=5) ["state","instruction"] QQ (fun P=>by kernel_rfl) Zf (ZH fun x y=>rfl) rfl rfl rfl fun N=>?_
 walk_at "w"
 refine⟨_,_,_,rfl,Z1,rfl,rfl,?_⟩
 walk_at "w"
 refine Z2 ?_ rfl
 walk_at "w"
 refine⟨_,_,rfl,rfl,?_⟩
 rw[h1]
 refine Zk ?_
 walk_at "w"
 refine ZY (ZE (JF ?_ rfl))
 walk_at "w"
 refine⟨_,_,rfl,rfl,?_⟩
 rw[h2]
 refine Zs ?_
 refine(ZE (JF ?_ rfl))
 walk_at "w"
 refine⟨_,_,rfl,rfl,?_⟩
 rw[h3]
 refine Zs ?_
 refine(ZE (JF ?_ rfl))
 walk_at "w"
 refine⟨_,_,rfl,rfl,?_⟩
 rw[h4]
 refine Zs ?_
 refine Ym ?_
 refine Zs ?_
 walk_at "w"
 exact⟨rfl,rfl⟩
theorem OX{S:V}:Zd 6 (.ref 925) [S,QM .nop] σ (fun x σ'=>x=.bool true∧σ'=σ) noX:=by
 refine Zc (d:=5) ["state","instruction"] QQ (fun P=>by kernel_rfl) Zf (ZH fun x y=>rfl) rfl rfl rfl fun N=>?_
 walk_at "w"
 refine⟨_,_,_,rfl,Z1,rfl,rfl,?_⟩
 walk_at "w"
 refine Z2 ?_ rfl
 walk_at "w"
 refine⟨_,_,rfl,rfl,?_⟩
 refine Zs ?_
 walk_at "w"
 exact⟨rfl,rfl⟩
theorem ZcJ(I:MSt σ a m){r:Nat}(hr:r<8){o:Op}(ho:o.ok):Zd 6 (.ref 925) [.ref a.S,QN "mov" [opV (.reg r),opV o]] σ (fun x σ'=>x=.bool true∧σ'=σ.mac a (ZD m r (Zc2 m o % 2^64))) noX:=by
 refine Zc (d:=5) ["state","instruction"] QQ (fun P=>by kernel_rfl) Zf (ZH fun x y=>rfl) rfl rfl rfl fun N=>?_
 walk_at "w"
 refine⟨_,_,_,rfl,Z1,rfl,rfl,?_⟩
 walk_at "w"
 refine Z2 ?_ rfl
 walk_at "w"
 refine⟨_,_,rfl,rfl,?_⟩
 refine Zk ?_
 walk_at "w"
 refine ZY (ZE ?_)
 refine JF ?_ rfl
 walk_at "w"
 refine⟨_,_,rfl,rfl,?_⟩
 refine Zk ?_
 walk_at "w"
 refine Z8 ?_
 walk_at "w"
 refine⟨_,_,_,rfl,ZG,rfl,rfl,?_⟩
 walk_at "w"
 refine⟨_,_,0,_,rfl,rfl,Z3 (by simp) (Nat.lt_of_le_of_lt (nB rfl:_≤2) (by decide)),rfl,?_⟩
 walk_at "w"
 refine Z8 ?_
 walk_at "w"
 refine⟨_,_,_,rfl,ZG,rfl,rfl,?_⟩
 walk_at "w"
 refine⟨_,_,1,_,rfl,rfl,Z3 (by simp) (Nat.lt_of_le_of_lt (nB rfl:_≤2) (by decide)),rfl,?_⟩
 walk_at "w"
 refine Zj rfl rfl ?_
 walk_at "w"
 refine⟨_,_,_,Za I.st,QB,rfl,?_⟩
 walk_at "w"
 refine(Ka hr I.st rfl (nB rfl)).e (nB rfl) ?_
 walk_at "w"
 refine Z2 ?_ rfl
 walk_at "w"
 refine⟨_,_,rfl,rfl,?_⟩
 refine Zk ?_
 walk_at "w"
 refine Z2 ?_ rfl
 walk_at "w"
 refine⟨_,_,rfl,rfl,?_⟩
 refine Zs ?_
 walk_at "w"
 refine Zj rfl rfl ?_
 walk_at "w"
 refine⟨_,_,_,Za I.st,Wi,rfl,?_⟩
 walk_at "w"
 refine Zj rfl rfl ?_
 walk_at "w"
 refine⟨_,_,_,Za I.st,Xl,rfl,?_⟩
 walk_at "w"
 refine(Bw I ho).e (nB rfl) ?_
 walk_at "w"
 refine(Hh I hr).e (nB rfl) ?_
 walk_at "w"
 exact⟨rfl,rfl⟩
end
end
section
section
variable{σ τ:Hp}{d:Nat}{a:MA}{m:MS}
theorem Xa{nm:Str}{ops:List V}{S:V}(h1:(nm=="push")=false)(h2:(nm=="pop")=false)(h3:(nm=="pushfq")=false)(h4:(nm=="popfq")=false)(h5:(nm=="leave")=false):Zd 8 (.ref 946) [S,QN nm ops] σ (fun x σ'=>x=.bool false∧σ'=σ) noX:=by
 refine Zc (d:=7) ["state","instruction"] Q7 (fun P=>by kernel_rfl) Zf (ZH fun x y=>rfl) rfl rfl rfl fun N=>?_
 walk_at "w"
 refine⟨_,_,_,rfl,Z1,rfl,rfl,?_⟩
 walk_at "w"
 refine Z2 ?_ rfl
 walk_at "w"
 refine⟨_,_,rfl,rfl,?_⟩
 rw[h1]
 refine Zk ?_
 walk_at "w"
 refine Z2 ?_ rfl
 walk_at "w"
 refine⟨_,_,rfl,rfl,?_⟩
 rw[h2]
 refine Zk ?_
 walk_at "w"
 refine Z2 ?_ rfl
 walk_at "w"
 refine⟨_,_,rfl,rfl,?_⟩
 rw[h3]
 refine Zk ?_
 walk_at "w"
 refine Z2 ?_ rfl
 walk_at "w"
 refine⟨_,_,rfl,rfl,?_⟩
 rw[h4]
 refine Zk ?_
 walk_at "w"
 refine Z2 ?_ rfl
 walk_at "w"
 refine⟨_,_,rfl,rfl,?_⟩
 rw[h5]
 refine Zk ?_
 walk_at "w"
 exact⟨rfl,rfl⟩
theorem HT(I:MSt σ a m)(hz:m.mem.length≤1000){r:Nat}(hr:r<8):Zd 6 (.ref 932) [.ref a.S,QM (.push r)] σ (fun x σ'=>x=.none∧σ'=σ.mac a (Ut m (reg m r))) noX:=by
 refine Zc (d:=5) ["state","instruction"] VE (fun P=>by kernel_rfl) Zf (ZH fun x y=>rfl) rfl rfl rfl fun N=>?_
 walk_at "w"
 refine Z8 ?_
 walk_at "w"
 refine⟨_,_,_,rfl,ZG,rfl,rfl,?_⟩
 walk_at "w"
 refine⟨_,_,0,_,rfl,rfl,Z3 (Nat.lt_of_lt_of_le Nat.zero_lt_one (nB rfl)) (Nat.lt_of_le_of_lt (nB rfl:_≤2) (by decide)),rfl,?_⟩
 walk_at "w"
 refine Zj rfl rfl ?_
 walk_at "w"
 refine⟨_,_,_,Za I.st,QB,rfl,?_⟩
 walk_at "w"
 refine(Ka hr I.st rfl (nB rfl)).e (nB rfl) ?_
 walk_at "w"
 refine Zj rfl rfl ?_
 walk_at "w"
 refine⟨_,_,_,Za I.st,Xm,rfl,?_⟩
 walk_at "w"
 refine Zj rfl rfl ?_
 walk_at "w"
 refine⟨_,_,_,Za I.st,Xl,rfl,?_⟩
 walk_at "w"
 refine(Bw (o:=.reg r) I hr).e (nB rfl) ?_
 walk_at "w"
 refine⟨_,_,_,rfl,rfl,HH (by decide) (by decide),?_⟩
 walk_at "w"
 refine(ZaZ I hz).e (nB rfl) ?_
 walk_at "w"
 exact⟨rfl,rfl⟩
theorem BJ(I:MSt σ a m){r:Nat}(hr:r<8):Zd 6 (.ref 939) [.ref a.S,QM (.pop r)] σ (fun x σ'=>x=.none∧σ'=σ.mac a (ZD (WC m) r (Dm m % 2^64))) noX:=by
 refine Zc (d:=5) ["state","instruction"] Wr (fun P=>by kernel_rfl) Zf (ZH fun x y=>rfl) rfl rfl rfl fun N=>?_
 walk_at "w"
 refine Z8 ?_
 walk_at "w"
 refine⟨_,_,_,rfl,ZG,rfl,rfl,?_⟩
 walk_at "w"
 refine⟨_,_,0,_,rfl,rfl,Z3 (Nat.lt_of_lt_of_le Nat.zero_lt_one (nB rfl)) (Nat.lt_of_le_of_lt (nB rfl:_≤2) (by decide)),rfl,?_⟩
 walk_at "w"
 refine Zj rfl rfl ?_
 walk_at "w"
 refine⟨_,_,_,Za I.st,QB,rfl,?_⟩
 walk_at "w"
 refine(Ka hr I.st rfl (nB rfl)).e (nB rfl) ?_
 walk_at "w"
 refine Zj rfl rfl ?_
 walk_at "w"
 refine⟨_,_,_,Za I.st,XF,rfl,?_⟩
 walk_at "w"
 refine⟨_,_,_,rfl,rfl,HH (by decide) (by decide),?_⟩
 walk_at "w"
 refine(ZcI I).e (nB rfl) ?_
 have I1:=I.mac (H4 I.ok)
 walk_at "w"
 refine Zj rfl rfl ?_
 walk_at "w"
 refine⟨_,_,_,Za I1.st,Wi,rfl,?_⟩
 walk_at "w"
 refine(Hh I1 hr).e (nB rfl) ?_
 walk_at "w"
 exact⟨rfl,Hp.mac_mac ..⟩
theorem DN(I:MSt σ a m)(hz:m.mem.length≤1000){r:Nat}(hr:r<8):Zd 8 (.ref 946) [.ref a.S,QM (.push r)] σ (fun x σ'=>x=.bool true∧σ'=σ.mac a (Ut m (reg m r))) noX:=by
 refine Zc (d:=7) ["state","instruction"] Q7 (fun P=>by kernel_rfl) Zf (ZH fun x y=>rfl) rfl rfl rfl fun N=>?_
 walk_at "w"
 refine⟨_,_,_,rfl,Z1,rfl,rfl,?_⟩
 walk_at "w"
 refine Z2 ?_ rfl
 walk_at "w"
 refine⟨_,_,rfl,rfl,?_⟩
 refine Zs ?_
 walk_at "w"
 refine Zb rfl rfl rfl rfl GZ ?_
 walk_at "w"
 refine(HT I hz hr).e (nB rfl) ?_
 walk_at "w"
 exact⟨rfl,rfl⟩
theorem NG(I:MSt σ a m){r:Nat}(hr:r<8):Zd 8 (.ref 946) [.ref a.S,QM (.pop r)] σ (fun x σ'=>x=.bool true∧σ'=σ.mac a (ZD (WC m) r (Dm m % 2^64))) noX:=by
 refine Zc (d:=7) ["state","instruction"] Q7 (fun P=>by kernel_rfl) Zf (ZH fun x y=>rfl) rfl rfl rfl fun N=>?_
 walk_at "w"
 refine⟨_,_,_,rfl,Z1,rfl,rfl,?_⟩
 walk_at "w"
 refine Z2 ?_ rfl
 walk_at "w"
 refine⟨_,_,rfl,rfl,?_⟩
 refine Zk ?_
 walk_at "w"
 refine Z2 ?_ rfl
 walk_at "w"
 refine⟨_,_,rfl,rfl,?_⟩
 refine Zs ?_
 walk_at "w"
 refine Zb rfl rfl rfl rfl HK ?_
 walk_at "w"
 refine(BJ I hr).e (nB rfl) ?_
 walk_at "w"
 exact⟨rfl,rfl⟩
theorem Gc(I:MSt σ a m){i:Int}:Zd 3 (.ref 953) [.ref a.S,Zb5 i] σ (fun x σ'=>x=.int ((m.rip+i) % 2^64)∧σ'=σ) noX:=by
 refine Zc (d:=2) ["state","operand"] XQ (fun P=>by kernel_rfl) Zf (ZH fun x y=>rfl) rfl rfl rfl fun N=>?_
 walk_at "w"
 refine JF ?_ rfl
 walk_at "w"
 refine⟨_,_,_,rfl,N9,rfl,rfl,?_⟩
 walk_at "w"
 refine⟨_,_,rfl,rfl,?_⟩
 refine Zk ?_
 walk_at "w"
 refine JF ?_ rfl
 walk_at "w"
 refine⟨_,_,_,rfl,N0,rfl,rfl,?_⟩
 walk_at "w"
 refine⟨_,_,rfl,rfl,?_⟩
 refine Zk ?_
 walk_at "w"
 refine Zb rfl rfl rfl rfl Qo ?_
 walk_at "w"
 refine⟨_,_,_,Za I.st,ZL,rfl,rfl,?_⟩
 walk_at "w"
 refine⟨_,_,_,rfl,D0,rfl,rfl,?_⟩
 refine⟨_,_,_,rfl,rfl,rfl,?_⟩
 walk_at "w"
 refine(Qh (by decide) (by decide)).e (nB rfl) ?_
 exact⟨rfl,rfl⟩
theorem DP(I:MSt σ a m):Zd 3 (.ref 960) [.ref a.S] σ (fun x σ'=>x=.int ((reg m 1-1) % 2^64)∧σ'=σ.mac a (ZD m 1 ((reg m 1-1) % 2^64))) noX:=by
 refine Zc (d:=2) ["state"] Xn (fun P=>by kernel_rfl) Zf (Yj fun x=>rfl) rfl rfl rfl fun N=>?_
 walk_at "w"
 refine W4 ?_
 refine Zb rfl rfl rfl rfl Qo ?_
 refine Zh (JL (Zp ?_)) rfl
 walk_at "w"
 refine⟨_,_,_,Za I.st,Z0,rfl,rfl,?_⟩
 refine Zw rfl DB rfl rfl ?_
 refine⟨_,_,1,_,I.rs,rfl,YC I.ok (by decide),YD I.ok (by decide),?_⟩
 walk_at "w"
 refine⟨_,_,_,rfl,rfl,rfl,?_⟩
 walk_at "w"
 refine(Qh (by decide) (by decide)).e (nB rfl) ?_
 walk_at "w"
 refine⟨_,_,_,Za I.st,Z0,rfl,rfl,?_⟩
 refine Zw rfl DB rfl rfl ?_
 refine⟨a.R,_,1,rfl,I.rs,rfl,by rw[Jk I.ok];decide,by rw[Jk I.ok];decide,?_⟩
 rw[V7]
 refine WS.at (I.setR (m':=ZD m 1 ((reg m 1-1) % 2^64)) rfl rfl) ?_
 have I1:=I.mac (I.ok.reg 1 (YJ (reg m 1-1)))
 walk_at "w"
 refine Zp ?_
 walk_at "w"
 refine⟨_,_,_,Za I1.st,Z0,rfl,rfl,?_⟩
 refine Zw rfl DB rfl rfl ?_
 refine⟨_,_,1,_,I1.rs,rfl,YC I1.ok (by decide),YD I1.ok (by decide),?_⟩
 exact⟨congrArg V.int (Va I.ok (by decide) _),rfl⟩
theorem OZ(I:MSt σ a m):Zd 4 (.ref 967) [.ref a.S,.str "loop"] σ (fun x σ'=>x=.bool ((reg m 1-1) % 2^64 !=0)∧σ'=σ.mac a (ZD m 1 ((reg m 1-1) % 2^64))) noX:=by
 refine Zc (d:=3) ["state","name"] KW (fun P=>by kernel_rfl) Zf (ZH fun x y=>rfl) rfl rfl rfl fun N=>?_
 walk_at "w"
 refine Z2 ?_ rfl
 walk_at "w"
 refine⟨_,_,rfl,rfl,?_⟩
 refine Zk ?_
 walk_at "w"
 refine Z2 ?_ rfl
 walk_at "w"
 refine⟨_,_,rfl,rfl,?_⟩
 refine Zk ?_
 walk_at "w"
 refine Z2 ?_ rfl
 walk_at "w"
 refine⟨_,_,rfl,rfl,?_⟩
 refine Zs ?_
 walk_at "w"
 refine Zl ?_ rfl
 refine Zb rfl rfl rfl rfl BC ?_
 walk_at "w"
 refine(DP I).e (nB rfl) ?_
 walk_at "w"
 exact⟨_,_,_,rfl,rfl,rfl,rfl,rfl⟩
end
end
section
section
variable{σ τ:Hp}{d:Nat}{a:MA}{m:MS}
theorem NJ(I:MSt σ a m)(hz:m.mem.length≤1000){i:Int}:Zd 8 (.ref 974) [.ref a.S,QM (.call i)] σ (fun x σ'=>x=.bool true∧σ'=σ.mac a (Ins.run m (.call i))) noX:=by
 refine Zc (d:=7) ["state","instruction"] QR (fun P=>by kernel_rfl) Zf (ZH fun x y=>rfl) rfl rfl rfl fun N=>?_
 walk_at "w"
 refine⟨_,_,_,rfl,Z1,rfl,rfl,?_⟩
 walk_at "w"
 refine Z2 ?_ rfl
 walk_at "w"
 refine⟨_,_,rfl,rfl,?_⟩
 refine Zs ?_
 walk_at "w"
 refine Zb rfl rfl rfl rfl XO ?_
 walk_at "w"
 refine Z8 ?_
 walk_at "w"
 refine⟨_,_,_,rfl,ZG,rfl,rfl,?_⟩
 walk_at "w"
 refine⟨_,_,0,_,rfl,rfl,Z3 (Nat.lt_of_lt_of_le Nat.zero_lt_one (nB rfl)) (Nat.lt_of_le_of_lt (nB rfl:_≤2) (by decide)),rfl,?_⟩
 walk_at "w"
 refine(Gc I).e (nB rfl) ?_
 walk_at "w"
 refine Zj rfl rfl ?_
 walk_at "w"
 refine⟨_,_,_,Za I.st,Xm,rfl,?_⟩
 walk_at "w"
 refine⟨_,_,_,Za I.st,ZL,rfl,rfl,?_⟩
 walk_at "w"
 refine(ZaZ I hz).e (nB rfl) ?_
 have I1:=I.mac (Dk I.ok m.rip)
 walk_at "w"
 refine⟨_,_,_,_,_,rfl,I1.st,YB,rfl,?_⟩
 refine WS.at ((I1.setI (m':=Ins.run m (.call i)) rfl rfl).trans (Hp.mac_mac ..)) ?_
 walk_at "w"
 exact⟨rfl,rfl⟩
theorem OY(I:MSt σ a m):Zd 8 (.ref 974) [.ref a.S,QM .ret] σ (fun x σ'=>x=.bool true∧σ'=σ.mac a (Ins.run m .ret)) noX:=by
 refine Zc (d:=7) ["state","instruction"] QR (fun P=>by kernel_rfl) Zf (ZH fun x y=>rfl) rfl rfl rfl fun N=>?_
 walk_at "w"
 refine⟨_,_,_,rfl,Z1,rfl,rfl,?_⟩
 walk_at "w"
 refine Z2 ?_ rfl
 walk_at "w"
 refine⟨_,_,rfl,rfl,?_⟩
 refine Zk ?_
 walk_at "w"
 refine Z2 ?_ rfl
 walk_at "w"
 refine⟨_,_,rfl,rfl,?_⟩
 refine Zs ?_
 walk_at "w"
 refine Zj rfl rfl ?_
 walk_at "w"
 refine⟨_,_,_,Za I.st,XF,rfl,?_⟩
 walk_at "w"
 refine(ZcI I).e (nB rfl) ?_
 have I1:=I.mac (H4 I.ok)
 walk_at "w"
 refine⟨_,_,_,_,_,rfl,I1.st,YB,rfl,?_⟩
 refine WS.at ((I1.setI (m':=Ins.run m .ret) rfl rfl).trans (Hp.mac_mac ..)) ?_
 walk_at "w"
 refine Zq (Zl ?_ rfl) rfl
 refine Z4 rfl rfl rfl rfl YT YU trivial ?_
 walk_at "w"
 refine⟨_,_,_,rfl,ZG,rfl,rfl,?_⟩
 walk_at "w"
 refine YX rfl (nB rfl) ?_
 walk_at "w"
 refine⟨_,_,_,rfl,rfl,rfl,_,rfl,?_⟩
 refine Zk ?_
 walk_at "w"
 exact⟨rfl,rfl⟩
theorem NI(I:MSt σ a m){i:Int}:Zd 8 (.ref 974) [.ref a.S,QM (.jl i)] σ (fun x σ'=>x=.bool true∧σ'=σ.mac a (Ins.run m (.jl i))) noX:=by
 refine Zc (d:=7) ["state","instruction"] QR (fun P=>by kernel_rfl) Zf (ZH fun x y=>rfl) rfl rfl rfl fun N=>?_
 walk_at "w"
 refine⟨_,_,_,rfl,Z1,rfl,rfl,?_⟩
 walk_at "w"
 refine Z2 ?_ rfl
 walk_at "w"
 refine⟨_,_,rfl,rfl,?_⟩
 refine Zk ?_
 walk_at "w"
 refine Z2 ?_ rfl
 walk_at "w"
 refine⟨_,_,rfl,rfl,?_⟩
 refine Zk ?_
 walk_at "w"
 refine ZY (ZZ (Z2 (ZdX ?_) rfl))
 walk_at "w"
 refine⟨_,_,0,_,rfl,rfl,rfl,rfl,?_⟩
 walk_at "w"
 refine⟨_,_,rfl,rfl,?_⟩
 refine Zk ?_
 refine(ZZ (Z2 ?_ rfl))
 walk_at "w"
 refine⟨_,_,rfl,rfl,?_⟩
 refine Zs ?_
 walk_at "w"
 refine Zb rfl rfl rfl rfl XO ?_
 walk_at "w"
 refine Z8 ?_
 walk_at "w"
 refine⟨_,_,_,rfl,ZG,rfl,rfl,?_⟩
 walk_at "w"
 refine⟨_,_,0,_,rfl,rfl,Z3 (Nat.lt_of_lt_of_le Nat.zero_lt_one (nB rfl)) (Nat.lt_of_le_of_lt (nB rfl:_≤2) (by decide)),rfl,?_⟩
 walk_at "w"
 refine(Gc I).e (nB rfl) ?_
 walk_at "w"
 refine Yl ?_ rfl
 refine Zb rfl rfl rfl rfl NA ?_
 walk_at "w"
 refine(OZ I).e (nB rfl) ?_
 refine⟨_,rfl,?_⟩
 have I1:=I.mac (I.ok.reg 1 (YJ (reg m 1-1)))
 by_cases q:(reg m 1-1) % 2^64=0
 ·rw[q]
  refine Zk ?_
  walk_at "w"
  refine⟨rfl,?_⟩
  show _=σ.mac a (WK m i)
  unfold WK
  simp only[q,if_true]
 ·rw[show((reg m 1-1) % 2^64 !=0)=true from by simpa using q]
  refine Zs ?_
  walk_at "w"
  refine⟨_,_,_,_,_,rfl,I1.st,YB,rfl,?_⟩
  refine WS.at ((I1.setI (m':={ZD m 1 ((reg m 1-1) % 2^64)with rip:=(m.rip+i) % 2^64}) rfl rfl).trans (Hp.mac_mac ..)) ?_
  walk_at "w"
  refine⟨rfl,?_⟩
  show _=σ.mac a (WK m i)
  unfold WK
  simp only[q,if_false]
noncomputable def Ins.isT:Ins→Bool
 | .hlt=>false| .ud2=>false|_=>true
theorem OT(I:MSt σ a m)(hz:m.mem.length≤1000){i:Ins}(hi:i.ok)(ht:i.isT=true):Zd 9 (.ref 1096) [.ref a.S,QM i] σ (fun x σ'=>x=.bool true∧σ'=σ.mac a (i.run m)) noX:=by
 refine Zc (d:=8) ["state","instruction"] Vj (fun P=>by kernel_rfl) Zf (ZH fun x y=>rfl) rfl rfl rfl fun N=>?_
 walk_at "w"
 refine ZY (ZZ (Yl ?_ rfl))
 refine Zb rfl rfl rfl rfl D4 ?_
 walk_at "w"
 cases i with
 |hlt=>cases ht
 |ud2=>cases ht
 |nop=>
  refine(OX).e (nB rfl) ?_
  refine⟨_,rfl,?_⟩
  refine Zs ?_
  walk_at "w"
  exact⟨rfl,I.self.symm⟩
 |movr r q=>
  refine(ZcJ (o:=.reg q) I hi.1 hi.2).e (nB rfl) ?_
  refine⟨_,rfl,?_⟩
  refine Zs ?_
  walk_at "w"
  exact⟨rfl,rfl⟩
 |movi r q=>
  refine(ZcJ (o:=.imm q) I hi trivial).e (nB rfl) ?_
  refine⟨_,rfl,?_⟩
  refine Zs ?_
  walk_at "w"
  exact⟨rfl,rfl⟩
 |push r=>
  refine(U7 (nm:="push") rfl rfl rfl rfl).e (nB rfl) ?_
  refine⟨_,rfl,?_⟩
  refine Zk ?_
  refine(ZZ (Yl ?_ rfl))
  refine Zb rfl rfl rfl rfl JK ?_
  walk_at "w"
  refine(DN I hz hi).e (nB rfl) ?_
  refine⟨_,rfl,?_⟩
  refine Zs ?_
  walk_at "w"
  exact⟨rfl,rfl⟩
 |pop r=>
  refine(U7 (nm:="pop") rfl rfl rfl rfl).e (nB rfl) ?_
  refine⟨_,rfl,?_⟩
  refine Zk ?_
  refine(ZZ (Yl ?_ rfl))
  refine Zb rfl rfl rfl rfl JK ?_
  walk_at "w"
  refine(NG I hi).e (nB rfl) ?_
  refine⟨_,rfl,?_⟩
  refine Zs ?_
  walk_at "w"
  exact⟨rfl,rfl⟩
 |ret=>
  refine(U7 (nm:="ret") rfl rfl rfl rfl).e (nB rfl) ?_
  refine⟨_,rfl,?_⟩
  refine Zk ?_
  refine(ZZ (Yl ?_ rfl))
  refine Zb rfl rfl rfl rfl JK ?_
  walk_at "w"
  refine(Xa (nm:="ret") rfl rfl rfl rfl rfl).e (nB rfl) ?_
  refine⟨_,rfl,?_⟩
  refine Zk ?_
  refine Ym ?_
  refine Zk ?_
  walk_at "w"
  refine ZY (ZZ (Yl ?_ rfl))
  refine Zb rfl rfl rfl rfl Vh ?_
  walk_at "w"
  refine(OY I).e (nB rfl) ?_
  refine⟨_,rfl,?_⟩
  refine Zs ?_
  walk_at "w"
  exact⟨rfl,rfl⟩
 |jl i=>
  refine(U7 (nm:="loop") rfl rfl rfl rfl).e (nB rfl) ?_
  refine⟨_,rfl,?_⟩
  refine Zk ?_
  refine(ZZ (Yl ?_ rfl))
  refine Zb rfl rfl rfl rfl JK ?_
  walk_at "w"
  refine(Xa (nm:="loop") rfl rfl rfl rfl rfl).e (nB rfl) ?_
  refine⟨_,rfl,?_⟩
  refine Zk ?_
  refine Ym ?_
  refine Zk ?_
  walk_at "w"
  refine ZY (ZZ (Yl ?_ rfl))
  refine Zb rfl rfl rfl rfl Vh ?_
  walk_at "w"
  refine(NI I).e (nB rfl) ?_
  refine⟨_,rfl,?_⟩
  refine Zs ?_
  walk_at "w"
  exact⟨rfl,rfl⟩
 |call i=>
  refine(U7 (nm:="call") rfl rfl rfl rfl).e (nB rfl) ?_
  refine⟨_,rfl,?_⟩
  refine Zk ?_
  refine(ZZ (Yl ?_ rfl))
  refine Zb rfl rfl rfl rfl JK ?_
  walk_at "w"
  refine(Xa (nm:="call") rfl rfl rfl rfl rfl).e (nB rfl) ?_
  refine⟨_,rfl,?_⟩
  refine Zk ?_
  refine Ym ?_
  refine Zk ?_
  walk_at "w"
  refine ZY (ZZ (Yl ?_ rfl))
  refine Zb rfl rfl rfl rfl Vh ?_
  walk_at "w"
  refine(NJ I hz).e (nB rfl) ?_
  refine⟨_,rfl,?_⟩
  refine Zs ?_
  walk_at "w"
  exact⟨rfl,rfl⟩
end
end
section
section
variable{σ τ:Hp}{d:Nat}{a:MA}{m:MS}
theorem Zeb:Txt.words "ud2 int int3 syscall cpuid" =(["ud2","int","int3","syscall","cpuid"]:List Str):=by decide+kernel
noncomputable abbrev X8:List V:=[.str "ud2",.str "int",.str "int3",.str "syscall",.str "cpuid"]
theorem ZaE:V.isD 20 (V.lst X8)=true:=by decide+kernel
theorem ZaG(i:Ins):V.isD 20 (V.str i.name)=true:=by cases i<;>kernel_rfl
theorem Zdl(i:Ins)(h:i.isT=true∨i=.hlt):((V.toDs X8).any fun y=>PyData.eqv y (V.str i.name).toD)=false:=by
 cases i<;>first| (exfalso;cases h<;>contradiction)|kernel_rfl
theorem Zby:((V.toDs X8).any fun y=>PyData.eqv y (V.str "ud2").toD)=true:=by decide+kernel
noncomputable def XM(σ:Hp)(e:Addr)(σ':Hp):Prop:=∃dd y,σ'.is e=some ⟨true,71,dd,WV (.str y)⟩∧σ.Le σ'
theorem Wz(σ:Hp):Excs (XM σ):=fun e σ' ⟨dd,y,h,_⟩=>⟨_,h,rfl⟩
theorem XM.mk{σ:Hp}{e dd:Addr}{y:Str}(h:σ.is e=none):XM σ e {σ with is:=up σ.is e (some ⟨true,71,dd,WV (.str y)⟩)}:=⟨dd,y,up_self ..,(Hp.Le.refl σ).ni h _⟩
theorem ZeJ(I:MSt σ a m)(hz:m.mem.length≤1000){i:Ins}(hi:i.ok):Zd 10 (.ref 678) [.ref a.S,QM i,.lst [.ref 1096]] σ (fun x σ'=>i.name≠"ud2" ∧x=.none∧σ'=σ.mac a (i.run m)) (fun e σ'=>i.name="ud2" ∧XM σ e σ'):=by
 refine Zc (d:=9) ["state","instruction","deeds"] Oq (fun P=>by kernel_rfl) (fun e σ' ⟨_,h⟩=>Wz σ e σ' h) (Jr fun x y z=>rfl) rfl rfl rfl fun N=>?_
 walk_at "w"
 refine Z2 ?_ rfl
 walk_at "w"
 refine⟨_,_,_,rfl,Z1,rfl,rfl,?_⟩
 walk_at "w"
 refine⟨_,_,rfl,rfl,?_⟩
 refine Z7 (fun q=>?_) fun q=>?_
 ·have:i=.hlt:=by cases i<;>first|rfl| (exfalso;simp only[Ins.name]at q;revert q;decide+kernel)
  subst this
  walk_at "w"
  refine⟨_,_,_,_,_,rfl,I.st,Qb,rfl,?_⟩
  refine WS.at (I.setI (m':=Ins.run m .hlt) rfl rfl) ?_
  walk_at "w"
  exact⟨by decide,rfl,rfl⟩
 ·walk_at "w"
  refine Zq (ZeV (ne:=false) ?_ rfl) rfl
  walk_at "w"
  refine⟨_,_,_,rfl,Z1,rfl,rfl,?_⟩
  refine ZC rfl rfl ?_
  refine Zw rfl ZbS rfl rfl ?_
  refine⟨_,_,Nd PySem.F.slot_str_split PySem.F.type_str_split,trivial,?_⟩
  walk_at "w"
  refine B0 (by decide) (by decide+kernel) ?_
  rw[Zeb]
  refine⟨_,rfl,ZaG i,ZaE,⟨_,rfl,?_⟩⟩
  simp only[Bool.false_eq_true,if_false]
  by_cases hu:i.isT=true
  ·have hn:i.name≠"ud2" :=by intro q;cases i<;>first| (simp[Ins.isT]at hu;done)| (simp only[Ins.name]at q;revert q;decide+kernel)
   rw[show([("ud2" :Str),"int","int3","syscall","cpuid"].map V.str)=X8 from rfl,Zdl i (.inl hu)]
   refine Zk ?_
   walk_at "w"
   refine Q4 rfl (.inl rfl) (fun q_ q_=>rfl) (Ur ?_)
   walk_at "w"
   refine⟨_,rfl,fun i ρ' σ'=>i=0∧ρ'=_∧σ'=σ,⟨rfl,rfl,rfl⟩,fun q_ q_ q_ q_=>rfl,?_,?_⟩
   ·rintro j v ρ1 σ2 hv ⟨rfl,rfl,rfl⟩
    cases hv
    refine Zy (Zg rfl ?_)
    walk_at "w"
    refine Yl (Qi rfl rfl ?_) rfl
    walk_at "w"
    refine⟨QD.k,?_⟩
    walk_at "w"
    refine(OT I hz hi hu).e (nB rfl) ?_
    refine⟨_,rfl,?_⟩
    refine Zs ?_
    walk_at "w"
    exact⟨hn,rfl,rfl⟩
   ·rintro ρ1 σ2 ⟨q,_⟩
    cases q
  ·have hn:i.name="ud2" :=by cases i<;>first|rfl| (exfalso;exact hu rfl)| (exfalso;simp only[Ins.name]at q;revert q;decide+kernel)
   rw[show([("ud2" :Str),"int","int3","syscall","cpuid"].map V.str)=X8 from rfl,hn,Zby]
   refine Zs ?_
   walk_at "w"
   refine GA (d:=7) rfl rfl rfl ?_
   walk_at "w"
   refine⟨_,_,_,rfl,Z1,rfl,rfl,?_⟩
   exact fun e dd he=>⟨rfl,XM.mk he⟩
theorem Ze1{m m':MS}(h:(σ.mac a m).Le τ)(h1:m'.regs=m.regs)(h2:m'.mem=m.mem):(σ.mac a m').Le {τ with is:=up τ.is a.S (some ⟨false,667,a.dS,Qc a m'⟩)} where
 ls:=fun b x e=>h.ls b x (by rw[←e];unfold Hp.mac;rw[h1])
 ds:=fun b x e=>h.ds b x (by rw[←e];unfold Hp.mac;rw[h2])
 ss:=fun b x e=>h.ss b x e
 is:=fun b x e=>by
  by_cases q:b=a.S
  ·subst q;rw[←e];exact(up_self ..).trans (up_self ..).symm
  ·exact(Ze _ _ q).trans (h.is b x ((Ze _ _ q).trans ((Ze _ _ q).symm.trans e)))
 cs:=fun b x e=>h.cs b x e
 ts:=fun b x e=>h.ts b x e
theorem Zbb(I:MSt σ a m)(hz:m.mem.length≤1000){i:Ins}(hi:i.ok):Zd 11 (.ref 685) [.ref a.S,.obj 260 [("instruction",QM i),("length",.int 2),("form",.none),("prefixes",.none)],.lst [.ref 1096]] σ
  (fun x σ'=>i.name≠"ud2" ∧x=.none∧σ'=σ.mac a (i.run {m with begin:=m.rip,rip:=(m.rip+2) % 2^64})) (fun e σ'=>i.name="ud2" ∧XM (σ.mac a {m with begin:=m.rip}) e σ'):=by
 refine Zc (d:=10) ["state","found","deeds"] He (fun P=>by kernel_rfl) (fun e σ' ⟨_,h⟩=>Wz _ e σ' h) (Jr fun x y z=>rfl) rfl rfl rfl fun N=>?_
 walk_at "w"
 refine⟨_,_,_,Za I.st,ZL,rfl,rfl,?_⟩
 walk_at "w"
 refine⟨_,_,_,_,_,rfl,I.st,Ul,rfl,?_⟩
 refine WS.at (I.setI (m':={m with begin:=m.rip}) rfl rfl) ?_
 have I1:=I.mac (m':={m with begin:=m.rip}) (I.ok.rip ..)
 walk_at "w"
 refine Zb rfl rfl rfl rfl Qo ?_
 walk_at "w"
 refine⟨_,_,_,Za I1.st,ZL,rfl,rfl,?_⟩
 walk_at "w"
 refine⟨_,_,_,rfl,K9,rfl,rfl,?_⟩
 refine⟨_,_,_,rfl,rfl,rfl,?_⟩
 walk_at "w"
 refine(Qh (by decide) (by decide)).e (nB rfl) ?_
 walk_at "w"
 refine⟨_,_,_,_,_,rfl,I1.st,YB,rfl,?_⟩
 refine WS.at ((I1.setI (m':={m with begin:=m.rip,rip:=(m.rip+2) % 2^64}) rfl rfl).trans (Hp.mac_mac ..)) ?_
 have I2:=I.mac (m':={m with begin:=m.rip,rip:=(m.rip+2) % 2^64}) (I.ok.rip ..)
 walk_at "w"
 refine Zco rfl rfl VD rfl rfl Wq YB ?_
 walk_at "w"
 refine Zb rfl rfl rfl rfl Zd7 ?_
 walk_at "w"
 refine⟨_,_,_,rfl,Jm,rfl,rfl,?_⟩
 walk_at "w"
 refine(ZeJ I2 hz hi).w.mono (nB rfl) (fun v σ' q=>?_) fun e σ' q=>?_
 ·obtain⟨h,rfl,rfl⟩:=q
  walk_at "w"
  exact⟨h,rfl,Hp.mac_mac ..⟩
 ·obtain⟨h,dd,y,he,hl⟩:=q
  have I3:=I2.le hl
  refine⟨dd,_,a.S,a.dS,_,.int m.rip,he,rfl,I3.st,rfl,rfl,nB rfl,fun q_=>⟨h,dd,y,(Ze _ _ (fun q=>by rw[q,I3.st]at he;cases he)).trans he,Ze1 (m:={m with begin:=m.rip,rip:=(m.rip+2) % 2^64}) (m':={m with begin:=m.rip}) hl rfl rfl⟩⟩
noncomputable abbrev Prog:=List (Int×Ins)
noncomputable def Gx(i:Ins):V:=.obj 260 [("instruction",QM i),("length",.int 2),("form",.none),("prefixes",.none)]
noncomputable def Jo(p:Prog):List (Int×V):=p.map fun q=>(q.1,Gx q.2)
theorem Zaz(p:Prog)(x:Int):aget (Jo p) x=(aget p x).map Gx:=BW Gx x p
structure Zh6(p:Prog):Prop where
 ok:∀q∈p,q.2.ok
noncomputable def adv(m:MS):MS:={m with begin:=m.rip,rip:=(m.rip+2) % 2^64}
noncomputable def mstep(p:Prog)(m:MS):Option (Ins×MS):=
 if m.halted then none else match aget p m.rip with
  |none=>none
  |some i=>if i.name="ud2" then none else some (i,i.run (adv m))
theorem HU(I:MSt σ a m):Zd 3 (.ref 692) [.ref a.S] σ (fun x σ'=>m.halted=false∧x=.none∧σ'=σ) (fun e σ'=>m.halted=true∧XM σ e σ'):=by
 refine Zc (d:=2) ["state"] VF (fun P=>by kernel_rfl) (fun e σ' ⟨_,h⟩=>Wz _ e σ' h) (Yj fun x=>rfl) rfl rfl rfl fun N=>?_
 walk_at "w"
 refine Yl ?_ rfl
 walk_at "w"
 refine⟨_,_,_,Za I.st,Je,rfl,rfl,?_⟩
 refine⟨_,rfl,?_⟩
 refine Z7 (fun q=>?_) fun q=>?_
 ·walk_at "w"
  refine GA (d:=0) rfl rfl rfl ?_
  walk_at "w"
  exact fun e dd he=>⟨q,XM.mk he⟩
 ·walk_at "w"
  exact⟨q,rfl,rfl⟩
inductive Zan(σ:Hp)(a:MA)(m:MS)(p:Prog)(x:V)(σ':Hp):Prop
 |mk (i:_) (m':_) (h1:mstep p m=some (i,m')) (h2:x=Gx i) (h3:σ'=σ.mac a m'):Zan σ a m p x σ'
inductive Zam(σ:Hp)(a:MA)(m:MS)(p:Prog)(e:Addr)(σ':Hp):Prop
 |mk (h1:mstep p m=none) (b:_) (h2:XM (σ.mac a {m with begin:=b}) e σ'):Zam σ a m p e σ'
theorem Hi(I:MSt σ a m)(hz:m.mem.length≤1000){p:Prog}(hp:∀q∈p,q.2.ok):Zd 12 (.ref 699) [.ref a.S,.idict (Jo p),.lst [.ref 1096]] σ
  (Zan σ a m p) (Zam σ a m p):=by
 refine Zc (d:=11) ["state","program","deeds"] KV (fun P=>by kernel_rfl) (fun e σ' ⟨_,b,h⟩=>Wz _ e σ' h) (Jr fun x y z=>rfl) rfl rfl rfl fun N=>?_
 walk_at "w"
 refine Zb rfl rfl rfl rfl Ha ?_
 walk_at "w"
 refine(HU I).w.mono (nB rfl) (fun v σ' q=>?_) fun e σ' q=>?_
 rotate_left
 ·refine⟨by unfold mstep;rw[q.1];rfl,m.begin,?_⟩
  rw[show({m with begin:=m.begin}:MS)=m from rfl,I.self]
  exact q.2
 obtain⟨h,rfl,rfl⟩:=q
 walk_at "w"
 refine Zq (Hu (ne:=true) ?_ rfl) rfl
 walk_at "w"
 refine⟨_,_,_,Za I.st,ZL,rfl,rfl,?_⟩
 walk_at "w"
 refine⟨_,_,rfl,rfl,_,rfl,?_⟩
 simp only[if_true]
 rw[Zaz]
 cases e:aget p m.rip with
 |none=>
  refine Zs ?_
  walk_at "w"
  refine GA (d:=9) rfl rfl rfl ?_
  walk_at "w"
  refine fun e' dd he=>⟨by unfold mstep;rw[h,e];rfl,m.begin,?_⟩
  rw[show({m with begin:=m.begin}:MS)=m from rfl,I.self]
  exact XM.mk he
 |some i=>
  have hi:=Xe hp e
  refine Zk ?_
  walk_at "w"
  refine HZ ?_
  walk_at "w"
  refine⟨_,_,_,Za I.st,ZL,rfl,rfl,?_⟩
  refine⟨_,_,_,rfl,rfl,by rw[Zaz,e];rfl,?_⟩
  walk_at "w"
  refine Zb rfl rfl rfl rfl OO ?_
  walk_at "w"
  refine(Zbb I hz hi).w.mono (nB rfl) (fun v σ' q=>?_) fun e' σ' q=>?_
  ·obtain⟨h',rfl,rfl⟩:=q
   walk_at "w"
   have q:mstep p m=some (i,i.run (adv m)):=by
    unfold mstep
    rw[h,e]
    simp only[h',if_false,Bool.false_eq_true]
   exact⟨i,_,q,rfl,rfl⟩
  ·refine⟨?_,m.rip,q.2⟩
   unfold mstep
   rw[h,e]
   simp only[q.1,if_true,Bool.false_eq_true,if_false]
end
end
section
section
variable{σ τ:Hp}{d:Nat}{c:Ctx}{ρ:Loc}{X:Addr→Loc→Hp→Prop}
inductive ZcY(Q:V→Hp→Prop)(a:V)(b:V)(σ2:Hp):Prop
 |mk (vs:_) (us:_) (h1:ZV σ2 a=some vs) (h2:ZV σ2 b=some us) (h3:vs.length+us.length≤100000) (h4:∀D,σ2.ls D=none→Q (.ref D) {σ2 with ls:=up σ2.ls D (some (vs++us))}):ZcY Q a b σ2
theorem Nb{l r:Expr}{pos:Pos}{Q:V→Hp→Prop}
  (h:WE c d l ρ σ (fun a σ1=>WE c d r ρ σ1 (ZcY Q a) X) X):WE c d (.BinOp l .Add r pos) ρ σ Q X:=
 Hw h fun a b σ w os₀ A env k g s Q' E' x y hB S va vb hQ=>by
  obtain⟨vs,us,e1,e2,hz,q⟩:=hB
  obtain⟨a,Vs,n,rfl,p1,r1⟩:=S.st.list e1 va
  obtain⟨b,Us,m,rfl,p2,r2⟩:=S.st.list e2 vb
  refine Dy p1 p2 (by rw[←r1.length,←r2.length];exact Nat.le_trans hz (by decide)) ?_
  exact hQ _ _ _ g _ (Le.refl g) (.ref _) (S.pushed (Le.refl g) (S.st.newL (n:=0) (r1.append r2))) (q _ (S.st.fresh (Nat.le_refl _)).ls)
structure Pen where
 P:Addr
 sc:List Int
 z:Int
noncomputable abbrev QA(p:Pen)(s:Nat):List V:=[.lst (p.sc.map V.int),.int s,.int p.z]
structure Xg(p:Pen):Prop where
 len:p.sc.length≤60
 z0:0≤p.z
 z1:p.z<1000003
noncomputable def Hp.pen(σ:Hp)(p:Pen)(s:Nat):Hp:={σ with ls:=up σ.ls p.P (some (QA p s))}
theorem Hp.pen_at(σ:Hp)(p:Pen)(s:Nat):(σ.pen p s).ls p.P=some (QA p s):=up_self ..
theorem Hp.pen_pen(σ:Hp)(p:Pen)(s t:Nat):(σ.pen p s).pen p t=σ.pen p t:=by unfold Hp.pen;simp only[ZQ]
theorem ZbC{p:Pen}{s:Nat}(h:σ.ls p.P=some (QA p s)):σ.pen p s=σ:=by unfold Hp.pen;rw[YZ _ _ _ h]
theorem BU{p:Pen}{s:Nat}(ok:Xg p)(hs:s≤100000)(h:σ.ls p.P=some (QA p s)):Zd 1 (.ref 1103) [.ref p.P] σ (fun x σ'=>(∃i,x=.int i)∧σ'=σ.pen p (s+1)) noX:=by
 refine Zc (d:=0) ["pen"] KZ (fun P=>by kernel_rfl) Zf (Yj fun x=>rfl) rfl rfl rfl fun N=>?_
 walk_at "w"
 refine Zp ?_
 walk_at "w"
 refine⟨_,_,1,_,h,rfl,Z3 (by simp) (by simp),rfl,?_⟩
 walk_at "w"
 refine W4 ?_
 walk_at "w"
 refine⟨_,_,_,rfl,rfl,rfl,?_⟩
 walk_at "w"
 refine⟨p.P,_,1,rfl,h,rfl,by simp,by simp,?_⟩
 have h1:=σ.pen_at p (s+1)
 refine WS.at (σ':=σ.pen p (s+1)) rfl ?_
 walk_at "w"
 refine Zq (Zl ?_ rfl) rfl
 walk_at "w"
 refine Z4 rfl rfl rfl rfl YT YU trivial ?_
 refine Zh (Zp ?_) rfl
 walk_at "w"
 refine⟨_,_,0,_,h1,rfl,Z3 (by simp) (by simp),rfl,?_⟩
 walk_at "w"
 refine YX rfl (by rw[List.length_map];exact Nat.le_trans ok.len (by decide)) ?_
 refine⟨_,_,_,rfl,rfl,rfl,_,rfl,?_⟩
 refine VB (fun q=>?_) fun q=>?_
 ·rw[List.length_map]at q
  have q':s<p.sc.length:=by exact Int.ofNat_lt.mp (by assumption)
  walk_at "w"
  refine Z4 rfl rfl rfl rfl Zbf Zbi trivial ?_
  refine Zh (Zp (Zp ?_)) rfl
  walk_at "w"
  refine⟨_,_,0,_,h1,rfl,Z3 (by simp) (by simp),rfl,?_⟩
  walk_at "w"
  refine⟨_,_,s,.int (p.sc[s]),rfl,rfl,Z3 (by rw[List.length_map];exact q') (by rw[List.length_map];have:=ok.len;exact Nat.lt_of_le_of_lt (by assumption) (by decide)),by rw[List.getElem?_map,List.getElem?_eq_getElem q'];rfl,?_⟩
  walk_at "w"
  exact Zbs ⟨⟨_,rfl⟩,rfl⟩
 ·walk_at "w"
  refine Zp ?_
  walk_at "w"
  refine⟨_,_,2,_,h1,rfl,Z3 (by simp) (by simp),rfl,?_⟩
  walk_at "w"
  have z0:=ok.z0
  have z1:=ok.z1
  refine⟨_,_,_,rfl,rfl,Y3 (by decide) (show s<2^64 from Nat.lt_of_le_of_lt hs (by decide)),?_⟩
  refine⟨_,_,_,rfl,rfl,rfl,?_⟩
  walk_at "w"
  refine⟨_,_,_,rfl,rfl,Y3 (Hr (n:=1000003+7919*100000) (Int.add_nonneg z0 (Int.mul_nonneg (by decide) (Int.natCast_nonneg s))) (Int.add_lt_add_of_lt_of_le z1 (Int.mul_le_mul_of_nonneg_left (Int.ofNat_le.mpr hs) (by decide))) (by decide)) (by decide),?_⟩
  walk_at "w"
  refine⟨_,_,_,rfl,rfl,Un (by decide),?_⟩
  walk_at "w"
  refine⟨_,_,_,rfl,rfl,HH (by decide) (by decide),?_⟩
  exact⟨⟨_,rfl⟩,rfl⟩
theorem QZ{p:Pen}{s n:Nat}(ok:Xg p)(hs:s≤100000)(hn:0<n)(h:σ.ls p.P=some (QA p s)):Zd 2 (.ref 1110) [.ref p.P,.int n] σ (fun x σ'=>(∃i:Nat,i<n∧x=.int i)∧σ'=σ.pen p (s+1)) noX:=by
 refine Zc (d:=1) ["pen","many"] XR (fun P=>by kernel_rfl) Zf (ZH fun x y=>rfl) rfl rfl rfl fun N=>?_
 walk_at "w"
 refine Zb rfl rfl rfl rfl Uv ?_
 walk_at "w"
 refine(BU ok hs h).u (nB rfl) ?_
 rintro _ σ ⟨⟨i,rfl⟩,rfl⟩
 walk_at "w"
 refine⟨_,_,_,rfl,rfl,Un (by exact Int.ofNat_lt.mpr (by assumption)),?_⟩
 have h0:=Int.emod_nonneg i (b:=(n:Int)) (by lia)
 have h1:=Int.emod_lt_of_pos i (b:=(n:Int)) (by exact Int.ofNat_lt.mpr (by assumption))
 exact⟨⟨(i % n).toNat,(Int.toNat_lt h0).mpr h1,by rw[Int.toNat_of_nonneg h0]⟩,rfl⟩
theorem Ux{r:Nat}(hr:r<8):Zd 4 (.ref 1117) [.int r] σ (fun x σ'=>x=opV (.reg r)∧σ'=σ) noX:=by
 refine Zc (d:=3) ["number"] KY (fun P=>by kernel_rfl) Zf (Yj fun x=>rfl) rfl rfl rfl fun N=>?_
 walk_at "w"
 refine Zb rfl rfl rfl rfl ZeF ?_
 walk_at "w"
 refine Zb rfl rfl rfl rfl D5 ?_
 walk_at "w"
 refine(Zaa hr).e (nB rfl) ?_
 walk_at "w"
 refine(Zgw).e (nB rfl) ?_
 exact⟨rfl,rfl⟩
end
end
section
section
variable{σ τ:Hp}{d:Nat}{c:Ctx}{ρ:Loc}{X:Addr→Loc→Hp→Prop}
inductive Row
 |ins (i:Ins)|call (n:Nat)|loop (i:Int)
noncomputable def O5:Row→V
 | .ins i=>QM i
 | .call n=>.tup [.str "call",.int n]
 | .loop i=>.tup [.str "loop",.int i]
noncomputable def Ins.good:Ins→Prop
 | .push r=>r<8| .pop r=>r<8∧r≠4| .movr r q=>r<8∧q<8∧r≠4| .movi r _=>r<8∧r≠4|_=>True
theorem Ins.good.ok{i:Ins}(h:i.good):i.ok:=by
 cases i<;>first|trivial|exact h|exact h.1|exact⟨h.1,h.2.1⟩
noncomputable def Row.good:Row→Prop
 | .ins i=>i.good
 | .call n=>n<3
 | .loop i=>i.natAbs≤1
noncomputable abbrev Yd(l:List Row):List V:=l.map O5
structure Yn(l:List Row)(n:Nat):Prop where
 len:l.length≤n
 ok:∀r∈l,r.good
theorem Yn.app{l k:List Row}{n m:Nat}(a:Yn l n)(b:Yn k m):Yn (l++k) (n+m):=
 ⟨by rw[List.length_append];have:=a.len;have:=b.len;lia,fun r h=>(List.mem_append.mp h).elim (a.ok r) (b.ok r)⟩
theorem Yn.up{l:List Row}{n m:Nat}(a:Yn l n)(h:n≤m):Yn l m:=⟨Nat.le_trans a.len h,a.ok⟩
theorem QG(l k:List Row):Yd l++Yd k=Yd (l++k):=(List.map_append ..).symm
theorem Y1{nm:Str}{ops:List V}(hz:ops.length≤1000):Zd 3 (.ref 900) [.str nm,.tup ops] σ (fun v σ'=>v=QN nm ops∧σ'=σ) noX:=BP hz
theorem Za1{p:Pen}{s t:Nat}(h:(σ.pen p s).Le τ):(σ.pen p t).Le (τ.pen p t):=by
 refine⟨fun b x e=>?_,h.ds,h.ss,h.is,h.cs,h.ts⟩
 by_cases q:b=p.P
 ·subst q;exact(up_self ..).trans ((up_self ..).symm.trans e)
 ·exact(Ze _ _ q).trans (h.ls b x ((Ze _ _ q).trans ((Ze _ _ q).symm.trans e)))
theorem Dp{p:Pen}{s:Nat}{D:Addr}(h:D≠p.P)(e:σ.ls D=none):(σ.pen p s).ls D=none:=(Ze _ _ h).trans e
structure GF(σ:Hp)(p:Pen)(s b:Nat)(n:Nat)(D:Addr)(σ':Hp):Prop where
 ex:∃rs s',σ'.ls D=some (Yd rs)∧σ.ls D=none∧(σ.pen p s').Le σ'∧s'≤s+b∧Yn rs n∧2≤rs.length
theorem GF.app{p:Pen}{s n D s' b' n':Nat}{rs ks:List Row}(h1:σ.ls D=none)(h2:(σ.pen p s').Le τ)(hD:D≠p.P)(h3:s'≤s+b')(h4:Yn rs n)(h5:2≤rs.length)(h6:Yn ks n'):GF σ p s b' (n+n') D {τ with ls:=up τ.ls D (some (Yd rs++Yd ks))}:=
 ⟨_,s',(up_self ..).trans (by rw[QG]),h1,h2.nl (Dp hD h1) _,h3,h4.app h6,by rw[List.length_append];lia⟩
theorem Z9{ρ:Loc}{x y:Str}{v u:V}(h:aget ρ y=some u)(n:y≠x):aget (aset ρ x v) y=some u:=(ZT ..).trans ((if_neg n).trans h)
inductive Zal(σ:Hp)(p:Pen)(s:Nat)(x:V)(σ':Hp):Prop
 |mk (rs:_) (s':_) (h1:x=.lst (Yd rs)) (h2:σ'=σ.pen p s') (h3:s'≤s+7) (h4:Yn rs 10) (h5:0<rs.length):Zal σ p s x σ'
inductive JFn(σ₀:Hp)(p:Pen)(s n:Nat)(k:Nat)(ρ':Loc)(σ':Hp):Prop
 |mk (h1:aget ρ' "pen" =some (.ref p.P)) (h2:aget ρ' "number" =some (.int n)) (D:_) (h3:aget ρ' "rows" =some (.ref D)) (h4:GF σ₀ p s (1+2*k) (2+3*k) D σ'):JFn σ₀ p s n k ρ' σ'
theorem Zab{σ:Hp}{p:Pen}{s n:Nat}(ok:Xg p)(hs:s≤90000)(hn:n<3)(h:σ.ls p.P=some (QA p s)):
  Zd 5 (.ref 1124) [.ref p.P,.int n] σ (Zal σ p s) noX:=by
 refine Zd.weakQ ?_
 refine Zc (d:=4) ["pen","number"] Vm (fun P=>by kernel_rfl) Zf (ZH fun x y=>rfl) rfl rfl rfl fun N=>?_
 walk_at "w"
 refine YE ?_
 walk_at "w"
 refine Zb rfl rfl rfl rfl ZA ?_
 walk_at "w"
 refine Zx ?_
 walk_at "w"
 refine Zb rfl rfl rfl rfl Yw ?_
 walk_at "w"
 refine(Ux (r:=5) (by decide)).e (nB rfl) ?_
 walk_at "w"
 refine⟨nB rfl,?_⟩
 walk_at "w"
 refine(Y1 (nB rfl)).e (nB rfl) ?_
 walk_at "w"
 refine Zb rfl rfl rfl rfl ZA ?_
 walk_at "w"
 refine Zx ?_
 walk_at "w"
 refine Zb rfl rfl rfl rfl Yw ?_
 walk_at "w"
 refine(Ux (r:=5) (by decide)).e (nB rfl) ?_
 walk_at "w"
 refine Zb rfl rfl rfl rfl Yw ?_
 walk_at "w"
 refine(Ux (r:=4) (by decide)).e (nB rfl) ?_
 walk_at "w"
 refine⟨nB rfl,?_⟩
 walk_at "w"
 refine(Y1 (nB rfl)).e (nB rfl) ?_
 walk_at "w"
 refine⟨nB rfl,fun D hD=>?_⟩
 have hDP:D≠p.P:=(nne h hD).symm
 walk_at "w"
 obtain⟨σ₀,rfl⟩:∃x,x=σ:=⟨_,rfl⟩
 refine Q4 rfl (.inl rfl) (fun q_ q_=>rfl) (Y9 (YH rfl JD JE rfl ⟨rfl,?_⟩) rfl)
 walk_at "w"
 refine Zb rfl rfl rfl rfl Y0 ?_
 walk_at "w"
 refine(QZ (n:=3) ok (by exact Nat.le_trans (by assumption) (by decide)) (by decide) ((Ze _ _ hDP.symm).trans h)).x (nB rfl) fun i σ2 hi e2=>?_
 walk_at "w"
 refine⟨i,rfl,by exact Nat.le_trans (by assumption) (by decide),JFn σ₀ p s n,?_,?_,?_,?_⟩
 ·refine⟨rfl,rfl,D,rfl,[.ins (.push 5),.ins (.movr 5 4)],s+1,?_,hD,?_,by exact Nat.lt_succ_self _,⟨by decide,?_⟩,by decide⟩
  ·rw[e2];exact(Ze _ _ hDP).trans (up_self ..)
  ·rw[e2]
   refine Za1 (s:=s) ?_
   rw[ZbC h]
   exact(Hp.Le.refl σ₀).nl hD _
  ·intro r hr
   rcases List.mem_cons.mp hr with rfl|hr
   ·exact(by decide:(5:Nat)<8)
   ·rcases List.mem_cons.mp hr with rfl|hr
    ·exact⟨(by decide:(5:Nat)<8),by decide,by decide⟩
    ·cases hr
 ·intros;trivial
 ·rintro k v ρ1 σ3 hv ⟨hp1,hp2,D,hp3,rs,s',hD1,hD2,hle,hs',hrs,hl⟩
  have hDP:D≠p.P:=(nne h hD2).symm
  have hk:k<i:=by
   have:=(List.getElem?_eq_some_iff.mp hv).1
   simpa using this
  have hsA:s'+3≤100000:=by lia
  have hrA:rs.length≤20:=Nat.le_trans hrs.len (Nat.le_trans (Nat.add_le_add_left (Nat.mul_le_mul_left 3 (Nat.le_trans (Nat.le_of_lt hk) (Nat.le_of_lt hi))) 2) (by decide))
  refine Zy (Zg rfl ?_)
  refine WS.view (ρ':=[("pen",.ref p.P),("number",.int n),("rows",.ref D)]) ⟨Z9 hp1 (by decide),Z9 hp2 (by decide),Z9 hp3 (by decide),trivial⟩ ?_
  have h3:σ3.ls p.P=some (QA p s'):=hle.ls _ _ (Hp.pen_at ..)
  walk_at "w"
  refine JR (names:=["sort","raw"]) ?_ rfl (fun q_ q_ q_ q_ q_ q_ q_ q_=>rfl)
  refine Zx ?_
  walk_at "w"
  refine Zb rfl rfl rfl rfl Y0 ?_
  walk_at "w"
  refine(QZ (n:=4) ok (by first|exact Nat.le_of_succ_le hsA|exact Nat.le_of_succ_le (Nat.le_of_succ_le hsA)|exact Nat.le_of_succ_le (Nat.le_of_succ_le (Nat.le_of_succ_le hsA))|lia) (by decide) h3).x (nB rfl) fun j σ4 hj e4=>?_
  have h4:σ4.ls p.P=some (QA p (s'+1)):=by rw[e4];exact Hp.pen_at ..
  walk_at "w"
  refine Zb rfl rfl rfl rfl Uv ?_
  walk_at "w"
  refine(BU ok (by first|exact hsA|exact Nat.le_of_succ_le hsA|exact Nat.le_of_succ_le (Nat.le_of_succ_le hsA)|lia) h4).y (nB rfl) fun r σ5 e5=>?_
  have hle5:(σ₀.pen p (s'+2)).Le σ5:=by rw[e5,e4,Hp.pen_pen];exact Za1 hle
  have hD5:σ5.ls D=some (Yd rs):=by rw[e5,e4,Hp.pen_pen];exact(Ze _ _ hDP).trans hD1
  walk_at "w"
  refine⟨nB rfl,_,rfl,rfl,?_⟩
  walk_at "w"
  refine WT.mono (Q:=fun b σ1=>b=(((j:Nat):Int)==0&&decide ((n:Int)<2))∧σ1=σ5) ?_ ?_
  ·refine ZY (ZE (Zq (Zl ?_ rfl) rfl))
   walk_at "w"
   refine⟨_,_,_,rfl,rfl,rfl,_,rfl,?_⟩
   refine Z7 (fun q=>ZE (Zq (Zl ?_ rfl) rfl)) fun q=>⟨by rw[q];rfl,rfl⟩
   walk_at "w"
   refine⟨_,_,_,rfl,rfl,rfl,_,rfl,?_⟩
   exact Z7 (fun q2=>Ym ⟨by rw[q,q2];rfl,rfl⟩) fun q2=>⟨by rw[q,q2];rfl,rfl⟩
  rintro b σ5' ⟨rfl,rfl⟩
  refine Z7 (fun q=>?_) fun q_=>?_
  ·have hn2:n<2:=by
    rw[Bool.and_eq_true,decide_eq_true_eq]at q
    exact Int.ofNat_lt.mp q.2
   walk_at "w"
   refine ZC rfl rfl ?_
   walk_at "w"
   refine⟨_,_,Yb PySem.F.slot_list_append PySem.F.type_list_append hD5,trivial,?_⟩
   walk_at "w"
   refine Zx ?_
   walk_at "w"
   refine⟨_,_,_,rfl,rfl,rfl,?_⟩
   walk_at "w"
   refine⟨_,_,_,rfl,rfl,rfl,?_⟩
   have hp2:(0:Int)<2-n:=Int.sub_pos_of_lt (Int.ofNat_lt.mpr hn2)
   refine⟨_,_,_,rfl,rfl,Un hp2,?_⟩
   refine⟨_,_,_,rfl,rfl,rfl,?_⟩
   walk_at "w"
   refine⟨nB rfl,?_⟩
   walk_at "w"
   refine Yo hD5 (by rw[List.length_map];first|exact Nat.lt_of_le_of_lt hrA (by decide)|exact Nat.le_trans hrA (by decide)) ?_
   walk_at "w"
   have q1:=Int.emod_nonneg r (b:=2-(n:Int)) (Int.ne_of_gt hp2)
   have q2:=Int.emod_lt_of_pos r (b:=2-(n:Int)) hp2
   obtain⟨t,ht⟩:∃t:Nat,(n:Int)+1+r % (2-n)=t:=⟨((n:Int)+1+r % (2-n)).toNat,(Int.toNat_of_nonneg (Int.add_nonneg (Int.natCast_nonneg (n+1)) q1)).symm⟩
   rw[ht]
   exact⟨rfl,rfl,D,rfl,GF.app (b':=1+2*(k+1)) (ks:=[.call t]) (n':=3) hD2 hle5 hDP (Nat.add_le_add_right hs' 2) hrs hl ⟨by simp,fun x hx=>by cases List.mem_singleton.mp hx;show t<3;lia⟩⟩
  walk_at "w"
  refine Zq (Zl ?_ rfl) rfl
  walk_at "w"
  refine⟨_,_,_,rfl,rfl,rfl,_,rfl,?_⟩
  refine Z7 (fun q_=>?_) fun q_=>?_
  ·refine Zn (Y5 ?_ rfl)
   refine Nb ?_
   walk_at "w"
   refine ZN ?_
   walk_at "w"
   refine Zb rfl rfl rfl rfl ZA ?_
   walk_at "w"
   refine Zx ?_
   walk_at "w"
   refine Zb rfl rfl rfl rfl Yw ?_
   walk_at "w"
   refine(Ux (r:=0) (by decide)).e (nB rfl) ?_
   walk_at "w"
   refine⟨nB rfl,?_⟩
   walk_at "w"
   refine(Y1 (nB rfl)).e (nB rfl) ?_
   walk_at "w"
   refine Zb rfl rfl rfl rfl ZA ?_
   walk_at "w"
   refine Zx ?_
   walk_at "w"
   refine Zb rfl rfl rfl rfl Yw ?_
   walk_at "w"
   refine Zp ?_
   refine ZN ?_
   walk_at "w"
   refine⟨nB rfl,?_⟩
   walk_at "w"
   refine⟨_,_,_,rfl,rfl,Un (by decide),?_⟩
   obtain⟨t,ht⟩:∃t:Nat,r % 2=t:=⟨(r % 2).toNat,(Int.toNat_of_nonneg (Int.emod_nonneg r (by decide))).symm⟩
   have ht2:t<2:=Int.ofNat_lt.mp (ht▸Int.emod_lt_of_pos r (by decide))
   obtain⟨u,hu,hu2,hu4⟩:∃u:Nat,([V.int 1,V.int 3]:List V)[t]? =some (.int u)∧u<8∧u≠4:=by
    match t,ht2 with
    |0,_=>exact⟨1,rfl,by decide,by decide⟩
    |1,_=>exact⟨3,rfl,by decide,by decide⟩
   refine⟨_,_,t,_,rfl,rfl,by rw[ht];exact Z3 ht2 (by show 2<2^63;decide),hu,?_⟩
   walk_at "w"
   refine(Ux (r:=u) hu2).e (nB rfl) ?_
   walk_at "w"
   refine⟨nB rfl,?_⟩
   walk_at "w"
   refine(Y1 (nB rfl)).e (nB rfl) ?_
   walk_at "w"
   refine⟨nB rfl,?_⟩
   refine⟨_,_,hD5,rfl,by rw[List.length_map];exact Nat.le_trans (Nat.add_le_add_right hrA 2) (by decide),fun D' hD'=>?_⟩
   have hle6:σ₀.ls D'=none:=by
    have:D'≠p.P:=fun q=>by rw[q,hle5.ls _ _ (Hp.pen_at ..)]at hD';cases hD'
    have q:=Zi hle5.ls hD'
    exact(Ze _ _ this).symm.trans q
   walk_at "w"
   exact⟨rfl,rfl,D',rfl,GF.app (b':=1+2*(k+1)) (ks:=[.ins (.push 0),.ins (.pop u)]) (n':=3) hle6 hle5 (fun q=>by rw[q,h]at hle6;cases hle6) (Nat.add_le_add_right hs' 2) hrs hl ⟨by simp,fun x hx=>by
    rcases List.mem_cons.mp hx with rfl|hx
    ·exact(by decide:(0:Nat)<8)
    ·cases List.mem_singleton.mp hx;exact⟨hu2,hu4⟩⟩⟩
  walk_at "w"
  refine Zq (Zl ?_ rfl) rfl
  walk_at "w"
  refine⟨_,_,_,rfl,rfl,rfl,_,rfl,?_⟩
  refine Z7 (fun q_=>?_) fun q_=>?_
  ·refine Zn (Y5 ?_ rfl)
   refine Nb ?_
   walk_at "w"
   refine ZN ?_
   walk_at "w"
   refine Zb rfl rfl rfl rfl ZA ?_
   walk_at "w"
   refine Zx ?_
   walk_at "w"
   refine Zb rfl rfl rfl rfl Yw ?_
   walk_at "w"
   refine(Ux (r:=1) (by decide)).e (nB rfl) ?_
   walk_at "w"
   refine Zb rfl rfl rfl rfl ZaM ?_
   walk_at "w"
   refine⟨_,_,_,rfl,rfl,Un (by decide),?_⟩
   refine⟨_,_,_,rfl,rfl,rfl,?_⟩
   walk_at "w"
   refine(ZcL).e (nB rfl) ?_
   walk_at "w"
   refine⟨nB rfl,?_⟩
   walk_at "w"
   refine(Y1 (nB rfl)).e (nB rfl) ?_
   walk_at "w"
   refine Zb rfl rfl rfl rfl ZA ?_
   walk_at "w"
   refine Zx (ZW ⟨nB rfl,?_⟩)
   walk_at "w"
   refine(Y1 (ops:=[]) (nB rfl)).e (nB rfl) ?_
   walk_at "w"
   refine Zx ?_
   walk_at "w"
   refine Jw ?_
   walk_at "w"
   refine⟨_,rfl,?_⟩
   walk_at "w"
   refine⟨nB rfl,?_⟩
   walk_at "w"
   refine⟨nB rfl,?_⟩
   refine⟨_,_,hD5,rfl,by rw[List.length_map];exact Nat.le_trans (Nat.add_le_add_right hrA 3) (by decide),fun D' hD'=>?_⟩
   have hle6:σ₀.ls D'=none:=by
    have:D'≠p.P:=fun q=>by rw[q,hle5.ls _ _ (Hp.pen_at ..)]at hD';cases hD'
    have q:=Zi hle5.ls hD'
    exact(Ze _ _ this).symm.trans q
   walk_at "w"
   exact⟨rfl,rfl,D',rfl,GF.app (b':=1+2*(k+1)) (ks:=[.ins (.movi 1 (1+r % 3)),.ins .nop,.loop (-1)]) (n':=3) hle6 hle5 (fun q=>by rw[q,h]at hle6;cases hle6) (Nat.add_le_add_right hs' 2) hrs hl ⟨by simp,fun x hx=>by
    rcases List.mem_cons.mp hx with rfl|hx
    ·exact⟨(by decide:(1:Nat)<8),by decide⟩
    ·rcases List.mem_cons.mp hx with rfl|hx
     ·trivial
     ·cases List.mem_singleton.mp hx;show(-1:Int).natAbs≤1;decide⟩⟩
  walk_at "w"
  refine ZC rfl rfl ?_
  walk_at "w"
  refine⟨_,_,Yb PySem.F.slot_list_append PySem.F.type_list_append hD5,trivial,?_⟩
  walk_at "w"
  refine Zb rfl rfl rfl rfl ZA ?_
  walk_at "w"
  refine Zx ?_
  walk_at "w"
  refine Zb rfl rfl rfl rfl Yw ?_
  walk_at "w"
  refine(Ux (r:=0) (by decide)).e (nB rfl) ?_
  walk_at "w"
  refine Zb rfl rfl rfl rfl ZaM ?_
  walk_at "w"
  refine(ZcL).e (nB rfl) ?_
  walk_at "w"
  refine⟨nB rfl,?_⟩
  walk_at "w"
  refine(Y1 (nB rfl)).e (nB rfl) ?_
  walk_at "w"
  refine Yo hD5 (by rw[List.length_map];first|exact Nat.lt_of_le_of_lt hrA (by decide)|exact Nat.le_trans hrA (by decide)) ?_
  walk_at "w"
  exact⟨rfl,rfl,D,rfl,GF.app (b':=1+2*(k+1)) (ks:=[.ins (.movi 0 r)]) (n':=3) hD2 hle5 hDP (Nat.add_le_add_right hs' 2) hrs hl ⟨by simp,fun x hx=>by cases List.mem_singleton.mp hx;exact⟨(by decide:(0:Nat)<8),by decide⟩⟩⟩
 ·rintro ρ1 σ3 ⟨hp1,hp2,D,hp3,rs,s',hD1,hD2,hle,hs',hrs,hl⟩
  have hDP:D≠p.P:=(nne h hD2).symm
  refine WS.view (ρ':=[("pen",.ref p.P),("number",.int n),("rows",.ref D)]) ⟨hp1,hp2,hp3,trivial⟩ ?_
  simp only[List.length_map,List.length_range]at hs' hrs
  walk_at "w"
  refine ZC rfl rfl ?_
  walk_at "w"
  refine⟨_,_,Yb PySem.F.slot_list_append PySem.F.type_list_append hD1,trivial,?_⟩
  walk_at "w"
  refine Zb rfl rfl rfl rfl ZA ?_
  walk_at "w"
  refine Zx ?_
  walk_at "w"
  refine Zb rfl rfl rfl rfl Yw ?_
  walk_at "w"
  refine(Ux (r:=5) (by decide)).e (nB rfl) ?_
  walk_at "w"
  refine⟨nB rfl,?_⟩
  walk_at "w"
  refine(Y1 (nB rfl)).e (nB rfl) ?_
  walk_at "w"
  refine Yo hD1 (by rw[List.length_map];have:=hrs.len;lia) ?_
  refine Zn (Q3 ?_)
  refine Qt ?_
  walk_at "w"
  refine ZN ?_
  walk_at "w"
  refine Zb rfl rfl rfl rfl ZA ?_
  refine Zh (UQ (Zq (Zl ?_ rfl) rfl)) rfl
  walk_at "w"
  refine⟨_,_,_,rfl,rfl,rfl,_,rfl,?_⟩
  have key:∀i:Ins,i.good→Zao (Zal σ₀ p s) (V.lst ((Yd rs++[QN "pop" [opV (Op.reg 5)]])++[QM i])) {σ3 with ls:=up σ3.ls D (some (Yd rs++[QN "pop" [opV (Op.reg 5)]]))}:=fun i hi=>
   ⟨_,hle.nl (Dp hDP hD2) _,rs++[.ins (.pop 5)]++[.ins i],s',by rw[←QG,←QG];rfl,rfl,by lia,((hrs.app (m:=1) ⟨by simp,fun x hx=>by cases List.mem_singleton.mp hx;exact⟨(by decide:(5:Nat)<8),by decide⟩⟩).app (m:=1) ⟨by simp,fun x hx=>by cases List.mem_singleton.mp hx;exact hi⟩).up (by lia),by simp⟩
  refine Z7 (fun q_=>?_) fun q_=>?_
  ·walk_at "w"
   refine Zx (ZW ⟨nB rfl,?_⟩)
   walk_at "w"
   refine(Y1 (ops:=[]) (nB rfl)).e (nB rfl) ?_
   walk_at "w"
   refine⟨nB rfl,_,_,up_self ..,rfl,by simp only[List.length_append,List.length_map];have:=hrs.len;show _+1+1≤_;lia,?_⟩
   exact key .hlt trivial
  ·walk_at "w"
   refine Zx (ZW ⟨nB rfl,?_⟩)
   walk_at "w"
   refine(Y1 (ops:=[]) (nB rfl)).e (nB rfl) ?_
   walk_at "w"
   refine⟨nB rfl,_,_,up_self ..,rfl,by simp only[List.length_append,List.length_map];have:=hrs.len;show _+1+1≤_;lia,?_⟩
   exact key .ret trivial
end
end
section
section
variable{σ τ:Hp}{d:Nat}{c:Ctx}{ρ:Loc}{X:Addr→Loc→Hp→Prop}
inductive ZcX(Q:V→Hp→Prop)(v:V)(σ':Hp):Prop
 |mk (D:_) (fs:_) (h1:v=.ref D) (h2:σ'.ds D=some fs) (h3:Q (.idict fs) (σ'.dropD D)):ZcX Q v σ'
theorem Zd.fixD{f:V}{args:List V}{Q:V→Hp→Prop}{X:Addr→Hp→Prop}(h:Zd d f args σ (ZcX Q) X):Zd d f args σ Q X:=
 ⟨fun w os₀ A k g s fv xs R S rf ra rm hh fr hQ hX=>h.run w os₀ A k g s fv xs R S rf ra rm hh fr (fun v σ' x g' s' l r S' q=>by
  obtain⟨D,fs,rfl,e,q⟩:=q
  cases r
  obtain⟨g2,S2,l2,v2⟩:=S'.fixD e
  exact hQ _ _ _ g2 _ (l.trans l2) v2 S2 q) hX⟩
inductive ZcW(Q:V→Hp→Prop)(v:V)(σ':Hp):Prop
 |mk (D:_) (fs:_) (h1:v=.ref D) (h2:σ'.ls D=some fs) (h3:Q (.lst fs) (σ'.dropL D)):ZcW Q v σ'
theorem Zd.fixL{f:V}{args:List V}{Q:V→Hp→Prop}{X:Addr→Hp→Prop}(h:Zd d f args σ (ZcW Q) X):Zd d f args σ Q X:=
 ⟨fun w os₀ A k g s fv xs R S rf ra rm hh fr hQ hX=>h.run w os₀ A k g s fv xs R S rf ra rm hh fr (fun v σ' x g' s' l r S' q=>by
  obtain⟨D,fs,rfl,e,q⟩:=q
  cases r
  obtain⟨g2,S2,l2,v2⟩:=S'.fixL e
  exact hQ _ _ _ g2 _ (l.trans l2) v2 S2 q) hX⟩
theorem Yn.part{l:List Row}{n:Nat}(a:Yn l n)(i j:Nat):Yn ((l.drop i).take j) n:=
 ⟨by rw[List.length_take,List.length_drop];exact Nat.le_trans (Nat.min_le_right ..) (Nat.le_trans (Nat.sub_le ..) a.len),fun r h=>a.ok r (List.mem_of_mem_drop (List.mem_of_mem_take h))⟩
theorem WB(l:List Row)(i j:Nat):((Yd l).drop i).take j=Yd ((l.drop i).take j):=by rw[←List.map_drop,←List.map_take]
noncomputable def Ox:Nat→Row
 |0=>.ins (.pop 3)|1=>.ins (.push 0)|2=>.ins .ret|3=>.loop 1|_=>.ins .ud2
theorem Zbm(n:Nat):(Ox n).good:=by
 match n with
 |0=>exact⟨(by decide:(3:Nat)<8),by decide⟩
 |1=>exact(by decide:(0:Nat)<8)
 |2=>trivial
 |3=>show(1:Int).natAbs≤1;decide
 |_+4=>trivial
theorem Zgh{A B:List Row}{r:Row}(ha:Yn A 30)(hb:Yn B 30)(hr:r.good):∃rs',V.lst (Yd A++[O5 r]++Yd B)=.lst (Yd rs')∧Yn rs' 61∧0<rs'.length:=
 ⟨A++[r]++B,by rw[←QG,←QG];rfl,(ha.app (m:=1) ⟨by simp,fun x hx=>by cases List.mem_singleton.mp hx;exact hr⟩).app hb,by simp only[List.length_append,List.length_singleton];lia⟩
inductive ZcV(σ:Hp)(p:Pen)(s:Nat)(x:V)(σ':Hp):Prop
 |mk (rs':_) (h1:x=.lst (Yd rs')) (h2:σ'=σ.pen p (s+2)) (h3:Yn rs' 61) (h4:0<rs'.length):ZcV σ p s x σ'
theorem ZeK{p:Pen}{s:Nat}{rs:List Row}(ok:Xg p)(hs:s≤90000)(h:σ.ls p.P=some (QA p s))(hr:Yn rs 30)(h0:0<rs.length):
  Zd 5 (.ref 1131) [.ref p.P,.lst (Yd rs)] σ (ZcV σ p s) noX:=by
 have hlen:=hr.len
 refine Zc (d:=4) ["pen","rows"] XS (fun P=>by kernel_rfl) Zf (ZH fun x y=>rfl) rfl rfl rfl fun N=>?_
 walk_at "w"
 refine JR (names:=["spot","way"]) ?_ rfl (fun q_ q_ q_ q_ q_ q_ q_ q_=>rfl)
 refine Zx ?_
 walk_at "w"
 refine Zb rfl rfl rfl rfl Y0 ?_
 walk_at "w"
 refine Z4 rfl rfl rfl rfl YT YU trivial ?_
 walk_at "w"
 refine YX rfl (by rw[List.length_map];exact Nat.le_trans (by assumption) (by decide)) ?_
 walk_at "w"
 rw[List.length_map]
 refine(QZ ok (by exact Nat.le_trans (by assumption) (by decide)) h0 h).x (nB rfl) fun i σ2 hi e2=>?_
 have h2:σ2.ls p.P=some (QA p (s+1)):=by rw[e2];exact Hp.pen_at ..
 walk_at "w"
 refine Zb rfl rfl rfl rfl Y0 ?_
 walk_at "w"
 refine(QZ (n:=5) ok (by exact Nat.lt_of_le_of_lt (by assumption) (by decide)) (by decide) h2).x (nB rfl) fun j σ3 hj e3=>?_
 have e3:σ3=σ.pen p (s+2):=by rw[e3,e2,Hp.pen_pen]
 walk_at "w"
 refine⟨nB rfl,_,rfl,rfl,?_⟩
 walk_at "w"
 refine ZN ?_
 walk_at "w"
 refine Zb rfl rfl rfl rfl ZA ?_
 walk_at "w"
 refine Zx ?_
 walk_at "w"
 refine Zb rfl rfl rfl rfl Yw ?_
 walk_at "w"
 refine(Ux (r:=3) (by decide)).e (nB rfl) ?_
 walk_at "w"
 refine⟨nB rfl,?_⟩
 walk_at "w"
 refine(Y1 (nB rfl)).e (nB rfl) ?_
 walk_at "w"
 refine Zb rfl rfl rfl rfl ZA ?_
 walk_at "w"
 refine Zx ?_
 walk_at "w"
 refine Zb rfl rfl rfl rfl Yw ?_
 walk_at "w"
 refine(Ux (r:=0) (by decide)).e (nB rfl) ?_
 walk_at "w"
 refine⟨nB rfl,?_⟩
 walk_at "w"
 refine(Y1 (nB rfl)).e (nB rfl) ?_
 walk_at "w"
 refine Zb rfl rfl rfl rfl ZA ?_
 walk_at "w"
 refine Zx (ZW ⟨nB rfl,?_⟩)
 walk_at "w"
 refine(Y1 (ops:=[]) (nB rfl)).e (nB rfl) ?_
 walk_at "w"
 refine Zx ?_
 walk_at "w"
 refine⟨nB rfl,?_⟩
 walk_at "w"
 refine Zb rfl rfl rfl rfl ZA ?_
 walk_at "w"
 refine Zx (ZW ⟨nB rfl,?_⟩)
 walk_at "w"
 refine(Y1 (ops:=[]) (nB rfl)).e (nB rfl) ?_
 walk_at "w"
 refine⟨nB rfl,?_⟩
 refine Zg rfl ?_
 refine Zn (Q3 ?_)
 refine Qt (Qt ?_)
 refine Vy ?_ (fun q_ q_=>rfl)
 walk_at "w"
 refine W5 (Kv ?_)
 walk_at "w"
 refine⟨_,none,some _,rfl,by rw[List.length_map];exact Nat.le_trans (by assumption) (by decide),.none,.int _,?_⟩
 refine ZN ?_
 refine Zh (Zp ?_) rfl
 walk_at "w"
 have hb:([QN "pop" [opV (Op.reg 3)],QN "push" [opV (Op.reg 0)],QN "ret" [],V.tup [.str "loop",.int 1],QN "ud2" []]:List V)[j]? =some (O5 (Ox j)):=by
  match j,hj with
  |0,_|1,_|2,_|3,_|4,_=>rfl
 refine⟨_,_,j,_,rfl,rfl,Z3 hj (by show 5<_;decide),hb,?_⟩
 walk_at "w"
 refine⟨nB rfl,?_⟩
 refine⟨_,_,rfl,rfl,?_,?_⟩
 ·rw[WB,List.length_map];have:=(hr.part (kms_lo none (Yd rs).length) (kms_hi (some ↑i) (Yd rs).length-kms_lo none (Yd rs).length)).len;show _+1≤_;exact Nat.lt_of_le_of_lt (by assumption) (by decide)
 refine Vy ?_ (fun q_ q_=>rfl)
 walk_at "w"
 refine⟨_,_,_,rfl,rfl,rfl,?_⟩
 refine W5 ?_
 refine⟨_,some _,none,rfl,by rw[List.length_map];exact Nat.le_trans (by assumption) (by decide),.int _,.none,?_⟩
 rw[WB,WB]
 refine⟨_,_,rfl,rfl,?_,?_⟩
 ·simp only[List.length_append,List.length_map]
  exact Nat.le_trans (Nat.add_le_add (Nat.add_le_add (hr.part _ _).len (Nat.le_refl 1)) (hr.part _ _).len) (show 30+1+30≤100000 by decide)
 ·obtain⟨rs',e,h1,h2⟩:=Zgh (hr.part _ _) (hr.part _ _) (Zbm j);exact⟨rs',e,e3,h1,h2⟩
theorem Zeo(m:Prog)(x:Int)(u:Ins):aset (Jo m) x (Gx u)=Jo (aset m x u):=ZcN Gx x u m
theorem Hp.Le.dropD(h:σ.Le τ){D:Addr}(n:σ.ds D=none):σ.Le (τ.dropD D):=h.nd n none
inductive ZcU(σ:Hp)(x:V)(σ':Hp):Prop
 |mk (p:Prog) (h1:x=.idict (Jo p)) (h2:σ'=σ) (h3:∀q∈p,q.2.good):ZcU σ x σ'
inductive JPr(σ₀:Hp)(F H:Addr)(i:Nat)(ρ':Loc)(σ':Hp):Prop
 |mk (h1:aget ρ' "firsts" =some (.ref F)) (h2:aget ρ' "found" =some (.ref H)) (p:Prog) (h3:σ'={σ₀ with ds:=up σ₀.ds H (some (Jo p))}) (h4:p.length≤i) (h5:∀q∈p,q.2.good):JPr σ₀ F H i ρ' σ'
theorem Zba{rs:List Row}{n:Nat}{F:Addr}{f0 f1 f2:Int}(hr:Yn rs 100)(hF:σ.ls F=some [.int f0,.int f1,.int f2])(b0:f0.natAbs≤1000)(b1:f1.natAbs≤1000)(b2:f2.natAbs≤1000):
  Zd 5 (.ref 1138) [.lst (Yd rs),.ref F] σ (ZcU σ) noX:=by
 refine Zd.weakQ (Zd.fixD ?_)
 have hlen:=hr.len
 refine Zc (d:=4) ["rows","firsts"] VG (fun P=>by kernel_rfl) Zf (ZH fun x y=>rfl) rfl rfl rfl fun N=>?_
 walk_at "w"
 refine Vz fun H h1 h2=>?_
 obtain⟨σ₀,rfl⟩:∃x,x=σ:=⟨_,rfl⟩
 walk_at "w"
 refine Ht rfl rfl rfl ?_
 walk_at "w"
 refine⟨_,rfl,JPr σ₀ F H,⟨rfl,rfl,[],rfl,Nat.le_refl 0,fun q hq=>by cases hq⟩,fun q_ q_ q_ q_=>rfl,?_,?_⟩
 ·rintro i v ρ1 σ2 hv ⟨hp1,hp2,p,rfl,hl,hg⟩
  refine Q6 rfl rfl rfl (fun q_=>rfl) ?_
  refine Zy (Zg rfl (Zy (Zg rfl ?_)))
  rw[List.getElem?_map]at hv
  obtain⟨r,hr1,rfl⟩:=Option.map_eq_some_iff.mp hv
  have hi:i<100:=Nat.lt_of_lt_of_le (List.getElem?_eq_some_iff.mp hr1).1 hlen
  have hg1:=hr.ok r (List.mem_of_getElem? hr1)
  refine WS.view (ρ':=[("firsts",.ref F),("found",.ref H),("at",.int i),("row",O5 r)]) ⟨Z9 (Z9 hp1 (by decide)) (by decide),Z9 (Z9 hp2 (by decide)) (by decide),Z9 ((ZT ..).trans (if_pos rfl)) (by decide),(ZT ..).trans (if_pos rfl),trivial⟩ ?_
  walk_at "w"
  refine Yl ?_ rfl
  refine Z4 rfl rfl rfl rfl BQ BR trivial ?_
  walk_at "w"
  refine YH rfl Xc Xd rfl ?_
  walk_at "w"
  have fin:∀(j:Ins) (ρ2:Loc) (τ:Hp),τ={σ₀ with ds:=up σ₀.ds H (some (Jo p))}→j.good→aget ρ2 "firsts" =some (.ref F)→aget ρ2 "found" =some (.ref H)→
    JPr σ₀ F H (i+1) ρ2 {τ with ds:=up τ.ds H (some (aset (Jo p) (4096+2*(i:Int)) (Gx j)))}:=by
   rintro j ρ2 τ rfl hj a1 a2
   refine⟨a1,a2,aset p (4096+2*i) j,by rw[Zeo];simp only[ZQ],?_,Vw hj hg⟩
   have:=Q2 p (4096+2*i) j
   exact Nat.le_trans this (Nat.succ_le_succ hl)
  have hpl:(Jo p).length≤100000:=by simp only[Jo,List.length_map];lia
  cases r with
  |ins j=>
   refine Zbr ⟨_,rfl,?_⟩
   refine Zk ?_
   walk_at "w"
   refine Qs ?_
   refine Zb rfl rfl rfl rfl WR ?_
   walk_at "w"
   refine(Kb).e (nB rfl) ?_
   walk_at "w"
   refine⟨_,_,_,rfl,rfl,Y3 (by decide) (by first|exact(show i+1<2^64 from Nat.lt_of_le_of_lt hi (by decide))|exact Nat.lt_of_le_of_lt (Int.natAbs_add_le _ _) (Nat.lt_of_le_of_lt (Nat.add_le_add (Nat.le_of_lt hi) (by assumption)) (by decide))|exact(show i<2^64 from Nat.lt_trans hi (by decide))|lia),?_⟩
   refine⟨_,_,_,rfl,rfl,rfl,?_⟩
   refine⟨H,_,_,rfl,up_self ..,rfl,hpl,?_⟩
   walk_at "w"
   exact fin j _ _ rfl hg1 rfl rfl
  |call n=>
   refine Nh ⟨_,rfl,?_⟩
   refine Zs ?_
   walk_at "w"
   refine UQ (Z2 ?_ rfl)
   refine Z8 ?_
   walk_at "w"
   refine⟨_,_,0,_,rfl,rfl,Z3 (show 0<2 by decide) (show 2<2^63 by decide),rfl,?_⟩
   walk_at "w"
   refine⟨_,_,rfl,rfl,?_⟩
   refine Zs ?_
   refine Zp ?_
   walk_at "w"
   refine Z8 ?_
   walk_at "w"
   refine⟨_,_,1,_,rfl,rfl,Z3 (show 1<2 by decide) (show 2<2^63 by decide),rfl,?_⟩
   have hn:n<3:=hg1
   obtain⟨f,hf,hfb⟩:∃f:Int,([V.int f0,V.int f1,V.int f2]:List V)[n]? =some (.int f)∧f.natAbs≤1000:=by
    match n,hn with
    |0,_=>exact⟨f0,rfl,b0⟩
    |1,_=>exact⟨f1,rfl,b1⟩
    |2,_=>exact⟨f2,rfl,b2⟩
   refine⟨_,_,n,_,hF,rfl,Z3 hn (by show 3<_;decide),hf,?_⟩
   walk_at "w"
   refine Zb rfl rfl rfl rfl ZA ?_
   walk_at "w"
   refine Z8 ?_
   walk_at "w"
   refine⟨_,_,0,_,rfl,rfl,Z3 (show 0<2 by decide) (show 2<2^63 by decide),rfl,?_⟩
   walk_at "w"
   refine Zx ?_
   walk_at "w"
   refine Zb rfl rfl rfl rfl ZaL ?_
   walk_at "w"
   refine⟨_,_,_,rfl,rfl,Y3 (by decide) (by first|exact(show i+1<2^64 from Nat.lt_of_le_of_lt hi (by decide))|exact Nat.lt_of_le_of_lt (Int.natAbs_add_le _ _) (Nat.lt_of_le_of_lt (Nat.add_le_add (Nat.le_of_lt hi) (by assumption)) (by decide))|exact(show i<2^64 from Nat.lt_trans hi (by decide))|exact Nat.lt_of_le_of_lt (by assumption) (by decide)),?_⟩
   walk_at "w"
   refine⟨_,_,_,rfl,rfl,rfl,?_⟩
   refine⟨_,_,_,rfl,rfl,Y3 (by decide) (by first|exact(show i+1<2^64 from Nat.lt_of_le_of_lt hi (by decide))|exact Nat.lt_of_le_of_lt (Int.natAbs_add_le _ _) (Nat.lt_of_le_of_lt (Nat.add_le_add (Nat.le_of_lt hi) (by assumption)) (by decide))|exact(show i<2^64 from Nat.lt_trans hi (by decide))|lia),?_⟩
   refine⟨_,_,_,rfl,rfl,rfl,?_⟩
   walk_at "w"
   refine(ZcK).e (nB rfl) ?_
   walk_at "w"
   refine⟨nB rfl,?_⟩
   walk_at "w"
   refine(Y1 (nB rfl)).e (nB rfl) ?_
   walk_at "w"
   refine Qs ?_
   refine Zb rfl rfl rfl rfl WR ?_
   walk_at "w"
   refine(Kb).e (nB rfl) ?_
   walk_at "w"
   refine⟨_,_,_,rfl,rfl,Y3 (by decide) (by first|exact(show i+1<2^64 from Nat.lt_of_le_of_lt hi (by decide))|exact Nat.lt_of_le_of_lt (Int.natAbs_add_le _ _) (Nat.lt_of_le_of_lt (Nat.add_le_add (Nat.le_of_lt hi) (by assumption)) (by decide))|exact(show i<2^64 from Nat.lt_trans hi (by decide))|lia),?_⟩
   refine⟨_,_,_,rfl,rfl,rfl,?_⟩
   refine⟨H,_,_,rfl,up_self ..,rfl,hpl,?_⟩
   walk_at "w"
   exact fin (.call _) _ _ rfl trivial rfl rfl
  |loop j=>
   have hj:j.natAbs≤1:=hg1
   refine Nh ⟨_,rfl,?_⟩
   refine Zs ?_
   walk_at "w"
   refine UQ (Z2 ?_ rfl)
   refine Z8 ?_
   walk_at "w"
   refine⟨_,_,0,_,rfl,rfl,Z3 (show 0<2 by decide) (show 2<2^63 by decide),rfl,?_⟩
   walk_at "w"
   refine⟨_,_,rfl,rfl,?_⟩
   refine Zk ?_
   walk_at "w"
   refine Z8 ?_
   walk_at "w"
   refine⟨_,_,1,_,rfl,rfl,Z3 (show 1<2 by decide) (show 2<2^63 by decide),rfl,?_⟩
   refine⟨_,_,_,rfl,rfl,rfl,?_⟩
   walk_at "w"
   refine Zb rfl rfl rfl rfl ZA ?_
   walk_at "w"
   refine Z8 ?_
   walk_at "w"
   refine⟨_,_,0,_,rfl,rfl,Z3 (show 0<2 by decide) (show 2<2^63 by decide),rfl,?_⟩
   walk_at "w"
   refine Zx ?_
   walk_at "w"
   refine Zb rfl rfl rfl rfl ZaL ?_
   walk_at "w"
   refine⟨_,_,_,rfl,rfl,Y3 (by decide) (by first|exact(show i+1<2^64 from Nat.lt_of_le_of_lt hi (by decide))|exact Nat.lt_of_le_of_lt (Int.natAbs_add_le _ _) (Nat.lt_of_le_of_lt (Nat.add_le_add (Nat.le_of_lt hi) (by assumption)) (by decide))|exact(show i<2^64 from Nat.lt_trans hi (by decide))|lia),?_⟩
   walk_at "w"
   refine⟨_,_,_,rfl,rfl,rfl,?_⟩
   refine⟨_,_,_,rfl,rfl,Y3 (by decide) (by first|exact(show i+1<2^64 from Nat.lt_of_le_of_lt hi (by decide))|exact Nat.lt_of_le_of_lt (Int.natAbs_add_le _ _) (Nat.lt_of_le_of_lt (Nat.add_le_add (Nat.le_of_lt hi) (by assumption)) (by decide))|exact(show i<2^64 from Nat.lt_trans hi (by decide))|lia),?_⟩
   refine⟨_,_,_,rfl,rfl,rfl,?_⟩
   walk_at "w"
   refine(ZcK).e (nB rfl) ?_
   walk_at "w"
   refine⟨nB rfl,?_⟩
   walk_at "w"
   refine(Y1 (nB rfl)).e (nB rfl) ?_
   walk_at "w"
   refine Qs ?_
   refine Zb rfl rfl rfl rfl WR ?_
   walk_at "w"
   refine(Kb).e (nB rfl) ?_
   walk_at "w"
   refine⟨_,_,_,rfl,rfl,Y3 (by decide) (by first|exact(show i+1<2^64 from Nat.lt_of_le_of_lt hi (by decide))|exact Nat.lt_of_le_of_lt (Int.natAbs_add_le _ _) (Nat.lt_of_le_of_lt (Nat.add_le_add (Nat.le_of_lt hi) (by assumption)) (by decide))|exact(show i<2^64 from Nat.lt_trans hi (by decide))|lia),?_⟩
   refine⟨_,_,_,rfl,rfl,rfl,?_⟩
   refine⟨H,_,_,rfl,up_self ..,rfl,hpl,?_⟩
   walk_at "w"
   exact fin (.jl _) _ _ rfl trivial rfl rfl
 ·rintro ρ1 σ2 ⟨hp1,hp2,p,rfl,hl,hg⟩
  refine WS.view (ρ':=[("found",.ref H)]) ⟨hp2,trivial⟩ ?_
  walk_at "w"
  exact⟨H,_,rfl,up_self ..,_,(Hp.Le.refl σ₀).nd h1 _|>.dropD h1,p,rfl,rfl,hg⟩
end
end
section
section
variable{σ τ:Hp}{d:Nat}{a:MA}{m:MS}{c:Ctx}{ρ:Loc}{X:Addr→Loc→Hp→Prop}
noncomputable def mload(m:List (Int×Int))(p:Int):Nat→Int
 |0=>0
 |n+1=>mload m p n+mget m (p+n)*2^(8*n)
theorem UL{m:List (Int×Int)}{k:Int}(h:k∉m.map (·.1)):mget m k=0:=congrArg (fun x=>x.getD 0) (Hq h)
theorem Gl(ps:List (Int×Int)):(srt ps).Perm ps:=List.mergeSort_perm ..
noncomputable def dV(m:List (Int×Int)):List (Int×V):=Jp ((srt (nzs m)).map fun p=>(p.1,.int p.2))
theorem GO(l:List (Int×Int)):Jp (ZI l)=ZI (Jp l):=
 List.rec (motive:=fun l=>∀m,(ZI l).foldl (fun m p=>aset m p.1 p.2) (ZI m)=ZI (l.foldl (fun m p=>aset m p.1 p.2) m)) (fun q_=>rfl) (fun p r i m=>(congrArg (fun x=>(ZI r).foldl (fun m p=>aset m p.1 p.2) x) (Vf m p.1 p.2)).trans (i _)) l []
theorem DL{m:List (Int×Int)}(nd:(m.map (·.1)).Nodup)(k:Int):(aget (dV m) k).getD (.int 0)=.int (mget m k):=by
 have n1:((srt (nzs m)).map (·.1)).Nodup:=((Gl _).map _).nodup_iff.mpr ((Dq m).nodup nd)
 refine(congrArg (fun x=>x.getD (V.int 0)) (congrArg (fun l=>aget l k) (GO _))).trans ((ZaA _ k).trans (congrArg V.int ?_))
 show(aget (Jp _) k).getD 0=_
 rw[Za3 n1]
 by_cases h0:mget m k=0
 ·rw[h0]
  refine UL fun h=>?_
  obtain⟨q,hq,rfl⟩:=List.mem_map.mp h
  obtain⟨p,hp,rfl⟩:=List.mem_map.mp ((Gl _).mem_iff.mp hq)
  exact bne_iff_ne.mp (List.mem_filter.mp hp).2 h0
 ·obtain⟨p,hp,rfl⟩:=List.mem_map.mp (Decidable.byContradiction fun h=>h0 (UL h):k∈m.map (·.1))
  show mget _ _=_
  unfold mget
  rw[ZdU n1 ((Gl _).mem_iff.mpr (List.mem_map.mpr ⟨p,List.mem_filter.mpr ⟨hp,bne_iff_ne.mpr h0⟩,rfl⟩))]
  rfl
theorem Zdz{m:List (Int×Int)}(h:∀p∈m,0≤p.2∧p.2<256)(x:Int):(mget m x).natAbs<2^64:=by
 exact Hr (UM h x).1 (UM h x).2 (n:=256) (by decide)
theorem Bo(m:List (Int×Int))(p:Int):∀n:Nat,((List.range n).map fun i:Nat=>mget m (p+i)*2^(8*i)).sum=mload m p n
 |0=>rfl
 |n+1=>by
  rw[List.range_succ,List.map_append,List.sum_append,Bo m p n]
  simp[mload]
theorem W8(m:MS):UK σ (.tup (Zr (srt (nzs m.mem))))=some (((srt (nzs m.mem)).map fun p=>(p.1,V.int p.2)).map fun p=>.tup [.int p.1,p.2]):=by
 rw[List.map_map];rfl
theorem Gh{m:MS}(hz:m.mem.length≤1000):((srt (nzs m.mem)).map fun p=>(p.1,V.int p.2)).length≤10000:=by
 rw[List.length_map,srt,List.length_mergeSort]
 exact Nat.le_trans (WF m.mem) (Nat.le_trans hz (by decide))
theorem Hj{sp:Int}(ok:MOK m)(hz:m.mem.length≤1000):Zd 4 (.ref 1143) [Yx m,.int sp] σ (fun x σ'=>x=.int (mload m.mem sp 8)∧σ'=σ) noX:=by
 refine Zd.weakQ ?_
 refine Yq (d:=3) (ns:=["told","spot"]) Vl (fun P=>by kernel_rfl) rfl Zf (ZH fun x y=>rfl) rfl fun n hn=>?_
 rw[show cellsσ (n+1) Vl.scope.names σ={σ with cs:=up (up σ.cs (n+1) (some none)) (n+2) (some none)}from rfl]
 have hc1:=(hn (n+1) (Nat.le_succ n)).cs
 have hc2:=(hn (n+2) (Nat.le_add_right n 2)).cs
 have h12:n+1≠n+2:=Nat.ne_of_lt (Nat.lt_succ_self (n+1))
 refine Zg rfl (ZP rfl rfl ((Ze _ _ h12).trans (up_self ..)) ?_)
 refine WS.gen fun τ1 e1=>?_
 have f1:τ1.cs (n+1)=some (some (.int sp)):=by rw[e1];exact up_self ..
 have f2:τ1.cs (n+2)=some none:=by rw[e1];exact(Ze _ _ h12.symm).trans (up_self ..)
 have l1:σ.Le τ1:=by rw[e1];exact(((Hp.Le.refl σ).nc hc1 _).nc hc2 _).nc hc1 _
 walk_at "w"
 refine Z4 rfl rfl rfl rfl Ko Kr trivial ?_
 walk_at "w"
 refine Z8 ?_
 walk_at "w"
 refine⟨_,_,3,_,rfl,rfl,Z3 (show 3<7 by decide) (show 7<2^63 by decide),rfl,?_⟩
 walk_at "w"
 refine Xj (W8 m) (Gh hz) fun D hD=>?_
 refine ZP rfl rfl f2 ?_
 refine WS.gen fun τ2 e2=>?_
 have g1:τ2.cs (n+1)=some (some (.int sp)):=by rw[e2];exact(Ze _ _ h12).trans f1
 have g2:τ2.cs (n+2)=some (some (.ref D)):=by rw[e2];exact up_self ..
 have g3:τ2.ds D=some (dV m.mem):=by rw[e2];exact up_self ..
 have l2:σ.Le τ2:=by rw[e2];exact(l1.nd (Zi l1.ds hD) _).nc hc2 _
 walk_at "w"
 refine Z4 rfl rfl rfl rfl Zbd Zbg trivial ?_
 refine Zh ?_ rfl
 refine UY rfl (.inl rfl) (fun q_ q_=>rfl) rfl rfl (by decide) (by decide+kernel) (Y9 (YH rfl JD JE rfl ⟨rfl,?_⟩) rfl)
 walk_at "w"
 refine⟨8,rfl,by decide,trivial,by simp,fun v=>some (.int (mget m.mem (sp+iAt v)*2^(8*iAt v).toNat)),?_,?_⟩
 ·intro v hv
  obtain⟨i,hi,rfl⟩:=List.mem_map.mp hv
  have hi:=List.mem_range.mp hi
  refine Zy (Zg rfl ⟨rfl,?_⟩)
  refine⟨rfl,Zs ?_⟩
  refine JL ?_
  refine ZC rfl rfl ?_
  refine Zo rfl rfl g2 rfl ?_
  refine⟨_,_,Ua PySem.F.slot_dict_get PySem.F.type_dict_get g3,trivial,?_⟩
  walk_at "w"
  refine Zo rfl rfl g1 rfl ?_
  walk_at "w"
  refine⟨_,_,_,rfl,rfl,rfl,?_⟩
  walk_at "w"
  refine Ki g3 ?_
  rw[DL ok.nd]
  walk_at "w"
  refine⟨_,_,_,rfl,rfl,Y3 (by decide) (by first|exact(show i<2^64 from Nat.lt_trans hi (by decide))|lia),?_⟩
  refine⟨_,_,_,rfl,rfl,QK (Int.mul_nonneg (by decide) (Int.natCast_nonneg _)) (by lia) (Zdz ok.oct _),rfl,rfl⟩
 ·walk_at "w"
  refine Zbq (ns:=(List.range 8).map fun i:Nat=>mget m.mem (sp+i)*2^(8*i)) rfl ?_
  exact⟨σ,l2,congrArg V.int (Bo m.mem sp 8),rfl⟩
end
end
section
section
variable{σ τ:Hp}{d:Nat}{a:MA}{m:MS}
theorem Zay{m:MS}{r q:Nat}{v:Int}(h:r≠q):reg (ZD m r v) q=reg m q:=by
 unfold reg ZD
 simp only[List.getD_eq_getElem?_getD]
 rw[List.getElem?_set_ne h]
structure Inv(m:MS)(k:Nat):Prop where
 ok:MOK m
 sz:m.mem.length≤8*k
 r0:32768-8*(k:Int)≤reg m 4∧reg m 4≤32768+8*k
 ks:∀x∈m.mem.map (·.1),32768-8*(k:Int)≤x∧x<32768+8*k
theorem le8(x:Int):x-8≤x:=Int.sub_le_self x (by decide)
theorem up8(x:Int):x≤x+8:=Int.le_add_of_nonneg_right (by decide)
theorem lo8{k:Nat}{x:Int}(h:32768-8*(k:Int)≤x):32768-8*((k+1:Nat):Int)≤x-8:=by
 rw[Int.natCast_succ,Int.mul_add,Int.mul_one,←Int.sub_sub];exact Int.sub_le_sub_right h 8
theorem hi8{k:Nat}{x:Int}(h:x≤32768+8*(k:Int)):x+8≤32768+8*((k+1:Nat):Int):=by
 rw[Int.natCast_succ,Int.mul_add,Int.mul_one,←Int.add_assoc];exact Int.add_le_add_right h 8
theorem Zbw{k:Nat}{x:Int}(h:32768-8*(k:Int)≤x∧x<32768+8*k):32768-8*((k+1:Nat):Int)≤x∧x<32768+8*((k+1:Nat):Int):=
 ⟨Int.le_trans (lo8 h.1) (le8 x),Int.lt_of_lt_of_le h.2 (Int.le_trans (up8 _) (hi8 (Int.le_refl _)))⟩
theorem rgB{k:Nat}{x:Int}(hk:k≤1000)(h:32768-8*(k:Int)≤x∧x≤32768+8*k):32768-8000≤x∧x≤32768+8000:=
 have h8:8*(k:Int)≤8000:=Int.mul_le_mul_of_nonneg_left (Int.ofNat_le.mpr hk) (by decide)
 ⟨Int.le_trans (Int.sub_le_sub_left h8 32768) h.1,Int.le_trans h.2 (Int.add_le_add_left h8 32768)⟩
theorem rg8{k:Nat}{x:Int}(hk:k≤1000)(h:32768-8*(k:Int)≤x∧x≤32768+8*k):0≤x-8∧x-8<2^64∧x-8+8<2^64∧0≤x+8∧x+8<2^64:=
 have b:=rgB hk h
 ⟨Int.sub_nonneg_of_le (Int.le_trans (by decide) b.1),Int.lt_of_le_of_lt (Int.le_trans (le8 x) b.2) (by decide),by rw[Int.sub_add_cancel];exact Int.lt_of_le_of_lt b.2 (by decide),Int.add_nonneg (Int.le_trans (by decide) b.1) (by decide),Int.lt_of_le_of_lt (Int.add_le_add_right b.2 8) (by decide)⟩
theorem Bn(m:List (Int×Int))(nd:(m.map (·.1)).Nodup)(p v:Int)(hp:0≤p∧p+8<2^64):∀n:Nat,n≤8→∀x∈(mwrite m p v n).map (·.1),x∈m.map (·.1)∨(p≤x∧x<p+n)
 |0,_,x,h=>.inl h
 |n+1,hn,x,h=>by
  unfold mwrite at h
  rcases (Bz _ _ _ (VT nd p v n)).2 x h with e|e
  ·refine .inr ?_
   rw[Int.emod_eq_of_lt (by exact Int.add_nonneg (And.left (by assumption)) (Int.natCast_nonneg _)) (by lia)]at e
   lia
  ·rcases Bn m nd p v hp n (by exact Nat.le_of_lt (by assumption)) x e with e|e
   ·exact .inl e
   ·exact .inr (by lia)
theorem Inv.other{m m':MS}{k:Nat}(I:Inv m k)(ok:MOK m')(h1:m'.mem=m.mem)(h2:reg m' 4=reg m 4):Inv m' (k+1):=
 ⟨ok,h1▸Nat.le_trans I.sz (Nat.le_add_right ..),h2▸⟨Int.le_trans (lo8 I.r0.1) (le8 _),Int.le_trans (up8 _) (hi8 I.r0.2)⟩,fun x hx=>Zbw (I.ks x (h1▸hx))⟩
theorem Inv.push{m:MS}{k:Nat}(I:Inv m k)(hk:k≤1000)(v:Int):Inv (Ut m v) (k+1):=by
 have r0:=I.r0
 have e:(reg m 4-8) % 2^64=reg m 4-8:=Int.emod_eq_of_lt (rg8 hk r0).1 (rg8 hk r0).2.1
 have e4:reg (Ut m v) 4=reg m 4-8:=by
  show reg (ZD m 4 ((reg m 4-8) % 2^64)) 4=_
  rw[Va I.ok (by decide),e]
 refine⟨Dk I.ok v,?_,by rw[e4];exact⟨lo8 r0.1,Int.le_trans (le8 _) (Int.le_trans (up8 _) (hi8 r0.2))⟩,fun x hx=>?_⟩
 ·exact Nat.le_trans (UA m.mem ((reg m 4-8) % 2^64) v 8) (Nat.add_le_add_right I.sz 8)
 ·rw[show(Ut m v).mem=mwrite m.mem ((reg m 4-8) % 2^64) v 8 from rfl,e]at hx
  rcases Bn m.mem I.ok.nd _ v ⟨(rg8 hk r0).1,(rg8 hk r0).2.2.1⟩ 8 (Nat.le_refl 8) x hx with h|h
  ·exact Zbw (I.ks x h)
  ·exact⟨Int.le_trans (lo8 r0.1) h.1,Int.lt_of_lt_of_le h.2 (Int.le_trans (Int.le_of_eq (Int.sub_add_cancel ..)) (Int.le_trans r0.2 (Int.le_trans (up8 _) (hi8 (Int.le_refl _)))))⟩
theorem Inv.pop{m:MS}{k:Nat}(I:Inv m k)(hk:k≤1000):Inv (WC m) (k+1):=by
 have r0:=I.r0
 have e:(reg m 4+8) % 2^64=reg m 4+8:=Int.emod_eq_of_lt (rg8 hk r0).2.2.2.1 (rg8 hk r0).2.2.2.2
 have e4:reg (WC m) 4=reg m 4+8:=by
  show reg (ZD m 4 ((reg m 4+8) % 2^64)) 4=_
  rw[Va I.ok (by decide),e]
 exact⟨H4 I.ok,Nat.le_trans I.sz (Nat.le_add_right ..),by rw[e4];exact⟨Int.le_trans (lo8 r0.1) (Int.le_trans (le8 _) (up8 _)),hi8 r0.2⟩,fun x hx=>Zbw (I.ks x hx)⟩
theorem Inv.rip{m:MS}{k:Nat}(I:Inv m k)(i b:Int)(t:Bool):Inv {m with rip:=i,begin:=b,halted:=t} k:=⟨I.ok.rip i b t,I.sz,I.r0,I.ks⟩
theorem Inv.set{m:MS}{k:Nat}(I:Inv m k){r:Nat}(h:r≠4)(v:Int)(hv:0≤v∧v<2^64):Inv (ZD m r v) k:=
 ⟨I.ok.reg r hv,I.sz,by rw[Zay h];exact I.r0,I.ks⟩
theorem Inv.up{m:MS}{k:Nat}(I:Inv m k):Inv m (k+1):=I.other I.ok rfl rfl
theorem Inv.run{m:MS}{k:Nat}(I:Inv m k)(hk:k≤1000){i:Ins}(hg:i.good):Inv (i.run m) (k+1):=by
 cases i with
 |push r=>exact I.push hk _
 |pop r=>exact(I.pop hk).set hg.2 _ (YJ _)
 |movr r q=>exact(I.set hg.2.2 _ (YJ _)).up
 |movi r i=>exact(I.set hg.2 _ (YJ _)).up
 |nop=>exact I.up
 |ret=>exact(I.pop hk).rip _ _ _
 |hlt=>exact(I.rip _ _ _).up
 |ud2=>exact I.up
 |jl i=>
  show Inv (WK m i) (k+1)
  unfold WK
  split
  ·exact(I.set (by decide) _ (YJ _)).up
  ·exact((I.set (by decide) _ (YJ _)).rip _ _ _).up
 |call i=>exact(I.push hk _).rip _ _ _
set_option tactic.hygienic true in
theorem OC{p:Prog}{m m':MS}{i:Ins}(h:mstep p m=some (i,m')):m.halted=false∧aget p m.rip=some i∧i.name≠"ud2" ∧m'=i.run (adv m):=by
 unfold mstep at h
 split at h
 ·cases h
 ·rename_i q
  split at h
  ·cases h
  ·rename_i e
   split at h
   ·cases h
   ·rename_i n
    cases h
    exact⟨by simpa using q,e,n,rfl⟩
theorem Inv.step{p:Prog}(hp:∀q∈p,q.2.good){m m':MS}{k:Nat}(I:Inv m k)(hk:k≤1000){i:Ins}(h:mstep p m=some (i,m')):Inv m' (k+1):=by
 obtain⟨_,e,_,rfl⟩:=OC h
 exact(I.rip _ _ _).run hk (Xe hp e)
theorem Nz(p:Prog)(m:MS)(b:Int):mstep p {m with begin:=b}=mstep p m:=rfl
structure Chain(p:Prog)(l:List (Str×MS)):Prop where
 hd:∃m0:MS,l[0]? =some ((("" :Str),m0):Str×MS)
 st:∀i x y,l[i]? =some x→l[i+1]? =some y→∃j,mstep p x.2=some (j,y.2)∧y.1=j.name
 inv:∀i x,l[i]? =some x→Inv x.2 i
theorem Chain.snoc{p:Prog}(hp:∀q∈p,q.2.good){l:List (Str×MS)}(C:Chain p l)(hl:l.length≤100){x:Str×MS}(hx:l.getLast? =some x){i:Ins}{m':MS}(h:mstep p x.2=some (i,m')):Chain p (l++[(i.name,m')]):=by
 have hpos:l≠[]:=by rintro rfl;cases hx
 have hn:0<l.length:=List.length_pos_iff.mpr hpos
 have hx':l[l.length-1]? =some x:=by rw[←List.getLast?_eq_getElem?];exact hx
 refine⟨?_,?_,?_⟩
 ·obtain⟨m0,e⟩:=C.hd
  exact⟨m0,by rw[List.getElem?_append_left hn];exact e⟩
 ·intro k y z hy hz
  by_cases q:k+1<l.length
  ·rw[List.getElem?_append_left (by lia)]at hy hz
   exact C.st k y z hy hz
  ·have q1:k+1=l.length:=by
    have:=(List.getElem?_eq_some_iff.mp hz).1
    simp at this
    lia
   rw[List.getElem?_append_left (Nat.lt_of_lt_of_eq (Nat.lt_succ_self k) q1)]at hy
   rw[List.getElem?_append_right (Nat.le_of_eq q1.symm),q1]at hz
   simp at hz
   rw[show k=l.length-1 from Nat.eq_sub_of_add_eq q1,hx']at hy
   cases hy
   subst hz
   exact⟨i,h,rfl⟩
 ·intro k y hy
  by_cases q:k<l.length
  ·rw[List.getElem?_append_left q]at hy
   exact C.inv k y hy
  ·have q1:k=l.length:=by
    have:=(List.getElem?_eq_some_iff.mp hy).1
    simp at this
    lia
   rw[List.getElem?_append_right (Nat.le_of_eq q1.symm),q1]at hy
   simp at hy
   subst hy
   have:=(C.inv _ _ hx').step hp (Nat.le_trans (Nat.sub_le ..) (Nat.le_trans hl (by decide))) h
   rw[q1]
   rwa [show l.length-1+1=l.length from Nat.sub_add_cancel hn]at this
end
end
section
section
variable{σ τ:Hp}{d:Nat}{a:MA}{m:MS}{c:Ctx}{ρ:Loc}{X:Addr→Loc→Hp→Prop}
set_option tactic.hygienic true in
theorem WS.fixL{st:List Stmt}{N:Loc→Hp→Prop}{R:V→Hp→Prop}{x:Str}{T:Addr}{vs:List V}(hx:aget ρ x=some (.ref T))(e:σ.ls T=some vs)(h:WS c d st (aset ρ x (.lst vs)) (σ.dropL T) N R X):WS c d st ρ σ N R X:=
 ⟨fun w os₀ A env k g s Q' E' S hQ hE=>by
  obtain⟨g1,S1,l1,v1⟩:=S.st.fixL e
  have S2:=S.turn l1 S1 fun o e=>e
  obtain⟨mm,n1,n2⟩:=S2.ns
  have S3:Sit w os₀ d c A env k g1 (aset ρ x (.lst vs)) (σ.dropL T) s:={S2 with ns:=⟨mm,n1,fun y=>by
   rw[ZT]
   split
   ·rename_i q
    have:=n2 y
    rw[q,hx]at this
    obtain⟨z,hz,r⟩:=this.some
    cases r
    rw[q,hz]
    exact v1
   ·exact n2 y⟩}
  exact h.run w os₀ A env k g1 s Q' E' S3 (fun v ρ' σ' x g' s' l r S' q=>hQ v ρ' σ' x g' s' (l1.trans l) r S' q) (hE.mono l1)⟩
theorem MSt.upL(I:MSt σ a m){T:Addr}(h1:T≠a.R)(h2:T≠a.XM)(v:Option (List V)):MSt {σ with ls:=up σ.ls T v} a m:=
 ⟨I.st,(Ze _ _ h1.symm).trans I.rs,(Ze _ _ h2.symm).trans I.xs,I.fl,⟨I.me.is,I.me.ds,I.me.oct⟩,I.sg,I.hF,I.hM,I.hX,I.ok⟩
theorem Dt{σ₀:Hp}(h:σ₀.Le σ)(n1:σ₀.is a.S=none)(n2:σ₀.ls a.R=none)(n3:σ₀.ds a.H=none)(m:MS):σ₀.Le (σ.mac a m):=((h.nl n2 _).nd n3 _).ni n1 _
noncomputable abbrev Y7(l:List (Str×MS)):List V:=l.map fun q=>Yx q.2
noncomputable abbrev Qn(l:List (Str×MS)):List V:=l.map fun q=>.str q.1
structure Recd(p:Prog)(m0:MS)(l:List (Str×MS))(o:Bool):Prop where
 ch:Chain p l
 hd:l[0]? =some ((("" :Str),m0):Str×MS)
 le:l.length≤23
 ov:o=true→∀x,l.getLast? =some x→mstep p x.2=none
 un:o=false→l.length=23
structure ZeX(σ₀:Hp)(a:MA)(p:Prog)(m0:MS)(T Nm:Addr)(l:List (Str×MS))(m:MS)(o:Bool)(σ':Hp):Prop where
 ch:Chain p l
 hd:l[0]? =some ((("" :Str),m0):Str×MS)
 le:l.length≤23
 ov:o=true→∀x,l.getLast? =some x→mstep p x.2=none
 la:o=false→∃nm,l.getLast? =some (nm,m)
 st:MSt σ' a m
 tT:σ'.ls T=some (Y7 l)
 tN:σ'.ls Nm=some (Qn l)
 kp:σ₀.Le σ'
 z1:σ₀.ls T=none
 z2:σ₀.ls Nm=none
 d1:T≠Nm
 d2:T≠a.R
 d3:T≠a.XM
 d4:Nm≠a.R
 d5:Nm≠a.XM
inductive ZcT(m:MS)(σ₀:Hp)(p:Prog)(x:V)(σ':Hp):Prop
 |mk (l:_) (o:_) (T:_) (Nm:_) (h1:x=.tup [.ref T,.ref Nm,.bool o]) (h2:Recd p m l o) (h3:σ'.ls T=some (Y7 l)) (h4:σ'.ls Nm=some (Qn l)) (h5:σ₀.Le σ') (h6:σ₀.ls T=none) (h7:σ₀.ls Nm=none) (h8:T≠Nm):ZcT m σ₀ p x σ'
inductive Zfa(σ₀:Hp)(a:MA)(p:Prog)(m:MS)(T Nm:Addr)(n:Nat)(ρ':Loc)(σ':Hp):Prop
 |mk (l:_) (m':_) (o:_) (h1:Yt [("state",.ref a.S),("program",.idict (Jo p)),("tellings",.ref T),("names",.ref Nm),("is_over",.bool o)] ρ') (h2:ZeX σ₀ a p m T Nm l m' o σ') (h3:n=2*(23-l.length)+(if o then 0 else 1)):Zfa σ₀ a p m T Nm n ρ' σ'
theorem OU(SO:U9){σ₀:Hp}{p:Prog}(hp:∀q∈p,q.2.good)(I:MSt σ a m)(hI:Inv m 0)(hk:σ₀.Le σ)(n1:σ₀.is a.S=none)(n2:σ₀.ls a.R=none)(n3:σ₀.ds a.H=none):
  Zd 13 (.ref 1150) [.ref a.S,.idict (Jo p)] σ (ZcT m σ₀ p) noX:=by
 have hpo:∀q∈p,q.2.ok:=fun q hq=>(hp q hq).ok
 refine Zc (d:=12) ["state","program"] Vk (fun P=>by kernel_rfl) Zf (ZH fun x y=>rfl) rfl rfl rfl fun N=>?_
 walk_at "w"
 refine JR (names:=["tellings","names","is_over"]) ?_ rfl (fun q_ q_ q_ q_ q_ q_ q_ q_=>rfl)
 refine Zx ?_
 refine Zh (YE ?_) rfl
 walk_at "w"
 refine Zj rfl rfl ?_
 walk_at "w"
 refine⟨_,_,_,Za I.st,UB,rfl,?_⟩
 walk_at "w"
 refine(Vv SO I (by have:=hI.sz;exact Nat.le_trans (by assumption) (by decide))).e (nB rfl) ?_
 walk_at "w"
 refine⟨nB rfl,fun T hT=>?_⟩
 refine Zh (YE ?_) rfl
 walk_at "w"
 refine⟨nB rfl,fun Nm hN=>?_⟩
 walk_at "w"
 refine⟨nB rfl,_,rfl,rfl,?_⟩
 walk_at "w"
 have hTN:Nm≠T:=by rintro rfl;simp at hN
 have hN0:σ.ls Nm=none:=(Ze _ _ hTN).symm.trans hN
 have J0:ZeX σ₀ a p m T Nm [("",m)] m false {σ with ls:=up (up σ.ls T (some (Y7 [(("" :Str),m)]))) Nm (some (Qn [(("" :Str),m)]))}:=
  {ch:=⟨⟨m,rfl⟩,fun i x y h1 h2=>by simp at h2,fun i x h=>by
    have:i=0:=by have:=(List.getElem?_eq_some_iff.mp h).1;simpa using this
    subst this;cases h;exact hI⟩
   hd:=rfl
   le:=(nB rfl:1≤23)
   ov:=fun h=>by cases h
   la:=fun q_=>⟨_,rfl⟩
   st:=(I.upL (nne I.rs hT).symm (nne I.xs hT).symm _).upL (nne I.rs hN0).symm (nne I.xs hN0).symm _
   tT:=(Ze _ _ hTN.symm).trans (up_self ..)
   tN:=up_self ..
   kp:=(hk.nl (Zi hk.ls hT) _).nl (Zi hk.ls hN0) _
   z1:=Zi hk.ls hT
   z2:=Zi hk.ls hN0
   d1:=hTN.symm
   d2:=(nne I.rs hT).symm
   d3:=(nne I.xs hT).symm
   d4:=(nne I.rs hN0).symm
   d5:=(nne I.xs hN0).symm}
 refine U8 (Zfa σ₀ a p m T Nm) _ ⟨_,m,false,⟨rfl,rfl,rfl,rfl,rfl,trivial⟩,J0,rfl⟩ ?_
 rintro n ρ' σ' ⟨l,m',o,hsub,J,rfl⟩
 refine⟨_,hsub,?_⟩
 refine WT.mono (Q:=fun b σ1=>b=(decide ((l.length:Int)≤22)&& !o)∧σ1=σ') ?_ ?_
 ·refine ZY (ZE (Zq (Zl ?_ rfl) rfl))
  refine Z4 rfl rfl rfl rfl YT YU trivial ?_
  walk_at "w"
  refine YX J.tT (by rw[List.length_map];have:=J.le;exact Nat.le_trans (by assumption) (by decide)) ?_
  refine Zw rfl D6 rfl rfl ?_
  refine⟨_,_,_,rfl,rfl,rfl,_,rfl,?_⟩
  rw[List.length_map]
  refine Z7 (fun q=>ZE (Kc (Yl ?_ rfl))) fun q=>⟨by rw[q];rfl,rfl⟩
  walk_at "w"
  refine⟨_,rfl,?_⟩
  refine Z7 (fun q2=>Ym ⟨by rw[q,q2];rfl,rfl⟩) fun q2=>⟨by rw[q,q2];rfl,rfl⟩
 rintro b σ1 ⟨rfl,rfl⟩
 refine Z7 (fun q=>?_) fun q=>?_
 ·rw[Bool.and_eq_true,decide_eq_true_eq,Bool.not_eq_true']at q
  obtain⟨q1,rfl⟩:=q
  obtain⟨nm,hla⟩:=J.la rfl
  have hpos:0<l.length:=(List.getElem?_eq_some_iff.mp J.hd).1
  have hin:Inv m' (l.length-1):=by
   rw[List.getLast?_eq_getElem?]at hla
   exact J.ch.inv _ _ hla
  have hl22:l.length≤22:=Int.ofNat_le.mp (show((l.length:Nat):Int)≤((22:Nat):Int)from q1)
  have hsz:m'.mem.length≤1000:=Nat.le_trans hin.sz (Nat.le_trans (Nat.mul_le_mul_left 8 (Nat.le_trans (Nat.sub_le ..) hl22)) (by decide))
  walk_at "w"
  refine ZeT rfl (.inr rfl) rfl VD rfl ?_
  walk_at "w"
  refine ZC rfl rfl ?_
  walk_at "w"
  refine⟨_,_,Yb PySem.F.slot_list_append PySem.F.type_list_append J.tN,trivial,?_⟩
  walk_at "w"
  refine DZ ?_ (fun q_=>rfl)
  refine Zb rfl rfl rfl rfl KS ?_
  walk_at "w"
  refine ZN ?_
  walk_at "w"
  refine Zw rfl QD.n rfl rfl ?_
  walk_at "w"
  refine⟨nB rfl,?_⟩
  walk_at "w"
  refine(Hi J.st hsz hpo).w.mono (nB rfl) (fun v σ2 q=>?_) fun e σ2 q=>?_
  ·obtain⟨i,m2,hm,rfl,rfl⟩:=q
   have hin2:Inv m2 l.length:=by
    have:=hin.step hp (Nat.le_trans (Nat.sub_le ..) (Nat.le_trans hl22 (by decide))) hm
    rwa [show l.length-1+1=l.length from Nat.sub_add_cancel hpos]at this
   have J2:=J.st.mac hin2.ok
   have N2:(σ1.mac a m2).ls Nm=some (Qn l):=(Ze _ _ J.d4).trans J.tN
   have T2:(σ1.mac a m2).ls T=some (Y7 l):=(Ze _ _ J.d2).trans J.tT
   refine⟨_,_,_,rfl,Jm,rfl,rfl,?_⟩
   refine⟨_,_,_,rfl,Z1,rfl,rfl,?_⟩
   walk_at "w"
   refine Yo N2 (by rw[List.length_map];exact Nat.le_trans (by assumption) (by decide)) ?_
   walk_at "w"
   refine ZC rfl rfl ?_
   have J3:=J2.upL J.d4 J.d5 (some (Qn l++[.str i.name]))
   walk_at "w"
   refine⟨_,_,Yb PySem.F.slot_list_append PySem.F.type_list_append ((Ze _ _ J.d1).trans T2),trivial,?_⟩
   walk_at "w"
   refine Zj rfl rfl ?_
   walk_at "w"
   refine⟨_,_,_,Za J3.st,UB,rfl,?_⟩
   walk_at "w"
   refine(Vv SO J3 (Nat.le_trans hin2.sz (Nat.le_trans (Nat.mul_le_mul_left 8 hl22) (by decide)))).e (nB rfl) ?_
   walk_at "w"
   refine Yo ((Ze _ _ J.d1).trans T2) (by rw[List.length_map];exact Nat.le_trans (by assumption) (by decide)) ?_
   walk_at "w"
   refine⟨_,?_,l++[(i.name,m2)],m2,false,⟨rfl,rfl,rfl,rfl,rfl,trivial⟩,?_,rfl⟩
   ·simp only[List.length_append,List.length_singleton,Bool.false_eq_true,if_false]
    exact Nat.succ_lt_succ ((Nat.mul_lt_mul_left (by decide:0<2)).mpr (Nat.pred_lt (Nat.sub_ne_zero_of_lt (Nat.lt_succ_of_le hl22))))
   ·exact
     {ch:=J.ch.snoc hp (Nat.le_trans hl22 (by decide)) hla hm
      hd:=by rw[List.getElem?_append_left hpos];exact J.hd
      le:=by rw[List.length_append,List.length_singleton];exact Nat.lt_of_le_of_lt (by assumption) (by decide)
      ov:=fun h=>by cases h
      la:=fun q_=>⟨i.name,List.getLast?_concat ..⟩
      st:=J3.upL J.d2 J.d3 _
      tT:=(up_self ..).trans (congrArg some (List.map_append (l₂:=[(i.name,m2)]) ..).symm)
      tN:=(Ze _ _ J.d1.symm).trans ((up_self ..).trans (congrArg some (List.map_append (l₂:=[(i.name,m2)]) ..).symm))
      kp:=((Dt J.kp n1 n2 n3 _).nl J.z2 _).nl J.z1 _
      z1:=J.z1
      z2:=J.z2
      d1:=J.d1
      d2:=J.d2
      d3:=J.d3
      d4:=J.d4
      d5:=J.d5}
  ·obtain⟨hm,b,dd,y,he,hle⟩:=q
   refine⟨dd,_,he,?_⟩
   walk_at "w"
   refine⟨_,?_,l,{m' with begin:=b},true,⟨rfl,rfl,rfl,rfl,rfl,trivial⟩,?_,rfl⟩
   ·simp only[Bool.false_eq_true,if_false,if_true]
    exact Nat.lt_succ_self _
   ·exact
     {ch:=J.ch
      hd:=J.hd
      le:=J.le
      ov:=fun q_ x hx=>by rw[hla]at hx;cases hx;exact hm
      la:=fun h=>by cases h
      st:=(J.st.mac (m':={m' with begin:=b}) (hin.ok.rip _ _ _)).le hle
      tT:=hle.ls _ _ ((Ze _ _ J.d2).trans J.tT)
      tN:=hle.ls _ _ ((Ze _ _ J.d4).trans J.tN)
      kp:=(Dt J.kp n1 n2 n3 _).trans hle
      z1:=J.z1
      z2:=J.z2
      d1:=J.d1
      d2:=J.d2
      d3:=J.d3
      d4:=J.d4
      d5:=J.d5}
 ·walk_at "w"
  refine Zx ?_
  walk_at "w"
  refine⟨nB rfl,l,o,T,Nm,rfl,⟨J.ch,J.hd,J.le,J.ov,fun h=>?_⟩,J.tT,J.tN,J.kp,J.z1,J.z2,J.d1⟩
  subst h
  have:=J.le
  simp only[Bool.not_false,Bool.and_true,decide_eq_false_iff_not]at q
  lia
end
end
section
section
variable{σ τ:Hp}{d:Nat}{a:MA}{m:MS}{c:Ctx}{ρ:Loc}{X:Addr→Loc→Hp→Prop}
theorem DI(v:V):PyData.eqv v.toD v.toD=true:=by
 have z:PyData.eqv .none .none=true:=rfl
 refine V.rec (motive_1:=fun v=>PyData.eqv v.toD v.toD=true) (motive_2:=fun vs=>PyData.eqvAll (V.toDs vs) (V.toDs vs)=true) (motive_3:=fun q_=>True) (motive_4:=fun q_=>True) (motive_5:=fun q_=>True) (motive_6:=fun q_=>True)
  z (fun b=>?_) (fun i=>?_) (fun s=>?_) (fun q_=>z) (fun vs h=>?_) (fun vs h=>?_) (fun q_ q_ q_=>z) (fun q_ q_=>z) (fun q_ q_=>z) (fun q_=>z) (fun q_=>z) rfl (fun v vs h1 h2=>?_) trivial (fun q_ q_ q_ q_=>trivial) trivial (fun q_ q_ q_ q_=>trivial) (fun q_ q_ q_=>trivial) (fun q_ q_ q_=>trivial) v
 ·show PyData.eqv (.bool b) (.bool b)=true;simp only[PyData.eqv,beq_self_eq_true]
 ·show PyData.eqv (.int i) (.int i)=true;simp only[PyData.eqv,beq_self_eq_true]
 ·show PyData.eqv (.str s) (.str s)=true;simp only[PyData.eqv,beq_self_eq_true]
 ·show PyData.eqv (.tuple (V.toDs vs)) (.tuple (V.toDs vs))=true;rw[PyData.eqv];exact h
 ·show PyData.eqv (.list (V.toDs vs)) (.list (V.toDs vs))=true;rw[PyData.eqv];exact h
 ·show PyData.eqvAll (v.toD::V.toDs vs) (v.toD::V.toDs vs)=true;rw[PyData.eqvAll,h1,h2];rfl
theorem Os(vs:List V):PyData.eqv (V.lst vs).toD (V.lst []).toD=vs.isEmpty:=by
 show PyData.eqv (.list (V.toDs vs)) (.list [])=_
 rw[PyData.eqv]
 cases vs with
 |nil=>rfl
 |cons v vs=>show PyData.eqvAll (v.toD::V.toDs vs) []=false;rw[PyData.eqvAll]<;>exact nofun
theorem UP{v:V}{vs:List V}(e:ZV σ v=some vs):deref σ v=.lst vs:=by
 cases v with
 |ref a=>exact congrArg (fun o=>Option.elim o (V.ref a) V.lst) (show σ.ls a=some vs from e)
 |lst us=>exact congrArg V.lst (Option.some.inj e)
 |_=>exact Ys e
inductive ZcS(Q:Bool→Hp→Prop)(a:V)(b:V)(σ2:Hp):Prop
 |mk (vs:_) (h1:ZV σ2 a=some vs) (h2:V.isD 20 (.lst vs)=true) (h3:b=.lst []) (h4:Q (!vs.isEmpty) σ2):ZcS Q a b σ2
theorem Kd{l r:Expr}{pos:Pos}{Q:Bool→Hp→Prop}(h:WE c d l ρ σ (fun a σ1=>WE c d r ρ σ1 (ZcS Q a) X) X)(hm:behindInMarks .NotEq r=false):WT c d (.Compare l [.NotEq] [r] pos) ρ σ Q X:=
 Zq (UX (ne:=true) (WE.mono h fun a σ1 h1=>WE.mono h1 fun b σ2 ⟨vs,e1,e2,e3,q⟩=>by
  subst e3
  have e4:deref σ2 (V.lst [])=.lst []:=rfl
  rw[UP e1,e4,Os]
  exact⟨e2,rfl,_,rfl,q⟩) hm) hm
theorem QJ(l:List (Int×Int))(n:Nat):V.isD (n+2) (.lst (Zr l))=true:=Um (fun q_=>rfl) l
theorem O7{n:Nat}(h:n<2^62):place (-1) (n+1)=some n:=by
 unfold place seqIndex?
 simp only[show ¬((-1:Int)< -(2^63)∨(2^63:Int)≤-1)from by decide,if_false,show(-1:Int)<0 from by decide,if_true]
 rw[if_pos (by simp;lia)]
 congr 1
 lia
structure CB where
 cs:List (Int×Int)
 bs:List (Int×Int)
noncomputable def JX(t:Int)(l:List (Int×Int)):List (Int×Int):=(l.reverse.dropWhile fun p=>decide (p.2<t)).reverse
theorem ZgA(t:Int):JX t []=[]:=rfl
theorem V9(t:Int)(l:List (Int×Int))(x:Int×Int):JX t (l++[x])=if x.2<t then JX t l else l++[x]:=by
 unfold JX
 rw[List.reverse_append,List.reverse_singleton,List.singleton_append,List.dropWhile_cons]
 by_cases q:x.2<t
 ·simp[q]
 ·simp[q]
theorem Dl(t:Int)(l:List (Int×Int)):(JX t l).length≤l.length:=by
 unfold JX
 rw[List.length_reverse]
 have:=(List.dropWhile_sublist (p:=fun p:Int×Int=>decide (p.2<t)) (l:=l.reverse)).length_le
 rwa [List.length_reverse]at this
noncomputable def Qw(top rip:Int)(cs bs:List (Int×Int)):List (Int×Int):=match cs.getLast? with
 |some x=>if x.2=top∧x.1≠rip then bs++[(x.1,rip)]else bs
 |none=>bs
noncomputable def U6(prev cur:MS)(nm:Str)(c:CB):CB:=
 if nm="call" then⟨c.cs++[(mload cur.mem (reg cur 4) 8,reg cur 4)],c.bs⟩
 else if nm="ret" then⟨JX (reg cur 4) c.cs,Qw (reg prev 4) cur.rip c.cs c.bs⟩else c
noncomputable def cbN(l:List (Str×MS)):Nat→CB
 |0=>⟨[],[]⟩
 |n+1=>match l[n]?,l[n+1]? with
  |some x,some y=>U6 x.2 y.2 y.1 (cbN l n)
  |_,_=>cbN l n
theorem Dh(t r:Int)(cs bs:List (Int×Int)):(Qw t r cs bs).length≤bs.length+1:=by
 unfold Qw
 split
 ·split
  ·rw[List.length_append];simp
  ·exact Nat.le_add_right ..
 ·exact Nat.le_add_right ..
theorem OS(p q:MS)(nm:Str)(c:CB):(U6 p q nm c).cs.length≤c.cs.length+1∧(U6 p q nm c).bs.length≤c.bs.length+1:=by
 unfold U6
 split
 ·simp
 ·split
  ·have:=Dl (reg q 4) c.cs
   have:=Dh (reg p 4) q.rip c.cs c.bs
   exact⟨by simp only;exact Nat.le_succ_of_le (by assumption),by simp only;assumption⟩
  ·lia
set_option tactic.hygienic true in
theorem Uq(l:List (Str×MS)):∀n,(cbN l n).cs.length≤n∧(cbN l n).bs.length≤n
 |0=>by simp[cbN]
 |n+1=>by
  have ih:=Uq l n
  unfold cbN
  split
  ·rename_i x y _ _
   have:=OS x.2 y.2 y.1 (cbN l n)
   exact⟨Nat.le_trans this.1 (Nat.succ_le_succ ih.1),Nat.le_trans this.2 (Nat.succ_le_succ ih.2)⟩
  ·exact⟨Nat.le_succ_of_le ih.1,Nat.le_succ_of_le ih.2⟩
noncomputable abbrev cbV(c:CB):V:=.tup [.lst (Zr c.cs),.lst (Zr c.bs)]
noncomputable abbrev Jg(l:List (Str×MS))(n:Nat):List V:=(List.range n).map fun i=>cbV (cbN l i)
theorem Dc{i:Nat}(h:0<i):((i:Nat):Int)-1=((i-1:Nat):Int):=(Int.ofNat_sub h).symm
theorem Uk{l:List (Str×MS)}{i:Nat}{x:Str×MS}(h:l[i]? =some x):(Y7 l)[i]? =some (Yx x.2):=by rw[List.getElem?_map,h];rfl
theorem UW{l:List (Str×MS)}{i:Nat}{x:Str×MS}(h:l[i]? =some x):(Qn l)[i]? =some (.str x.1):=by rw[List.getElem?_map,h];rfl
theorem Jz{l:List (Str×MS)}{i:Nat}{x:Str×MS}(h:l[i]? =some x)(hl:l.length≤1000):place (i:Int) (Y7 l).length=some i:=Z3 (by rw[List.length_map];exact(List.getElem?_eq_some_iff.mp h).1) (by rw[List.length_map];exact Nat.lt_of_le_of_lt (by assumption) (by decide))
theorem Ql{l:List (Str×MS)}{i:Nat}{x:Str×MS}(h:l[i]? =some x)(hl:l.length≤1000):place (i:Int) (Qn l).length=some i:=Z3 (by rw[List.length_map];exact(List.getElem?_eq_some_iff.mp h).1) (by rw[List.length_map];exact Nat.lt_of_le_of_lt (by assumption) (by decide))
inductive ZcR(d:Nat)(c:Ctx)(ρ:Loc)(X:Addr→Loc→Hp→Prop)(r:Nat)(j:Expr)(k:Expr)(Q:V→Hp→Prop)(v:V)(σ1:Hp):Prop
 |mk (m:MS) (h1:v=Yx m) (h2:MOK m) (h3:WE c d j ρ σ1 (fun w σ2=>w=.int 0∧WE c d k ρ σ2 (fun u σ3=>u=.int r∧Q (.int (reg m r)) σ3) X) X):ZcR d c ρ X r j k Q v σ1
theorem QF{r:Nat}{e j k:Expr}{p1 p2:Pos}{Q:V→Hp→Prop}(hr:r<16)(h:WE c d e ρ σ (ZcR d c ρ X r j k Q) X):WE c d (.Subscript (.Subscript e j p1) k p2) ρ σ Q X:=
 Z8 (Z8 (WE.mono h fun v σ1 ⟨m,e1,ok,h1⟩=>WE.mono h1 fun w σ2 ⟨e2,h2⟩=>⟨_,0,0,_,e1,e2,rfl,rfl,WE.mono h2 fun u σ3 ⟨e3,q⟩=>⟨_,r,r,_,rfl,e3,YC ok hr,YD ok hr,q⟩⟩))
theorem Vb{l:List (Int×Int)}{x:Int×Int}:(Zr (l++[x]))[l.length]? =some (.tup [.int x.1,.int x.2]):=by
 rw[List.getElem?_map,List.getElem?_append_right (Nat.le_refl _)];simp
theorem Qy{l:List (Int×Int)}{x:Int×Int}(h:l.length≤1000):place (-1) (Zr (l++[x])).length=some l.length:=by
 rw[List.length_map,List.length_append,List.length_singleton]
 exact O7 (by exact Nat.lt_of_le_of_lt (by assumption) (by decide))
theorem Nt{l:List (Int×Int)}{x:Int×Int}:((Zr (l++[x])).drop (kms_lo none (Zr (l++[x])).length)).take (kms_hi (some (-1)) (Zr (l++[x])).length-kms_lo none (Zr (l++[x])).length)=Zr l:=by
 simp only[kms_lo,kms_hi,show(-1:Int)<0 from by decide,if_true,List.drop_zero,Nat.sub_zero,List.length_map,List.length_append,List.length_singleton]
 rw[show(-(-1:Int)).toNat=1 from rfl,Nat.add_sub_cancel,←List.map_take,List.take_left]
theorem ZaW{l:List (Str×MS)}(h0:∃m,l[0]? =some ((("" :Str),m):Str×MS)){i:Nat}{x:Str×MS}(hx:l[i]? =some x):
  (x.1="call" ∧cbN l i=⟨(cbN l (i-1)).cs++[(mload x.2.mem (reg x.2 4) 8,reg x.2 4)],(cbN l (i-1)).bs⟩)∨
  (x.1≠"call" ∧x.1="ret" ∧∃y,l[i-1]? =some y∧0<i∧cbN l i=⟨JX (reg x.2 4) (cbN l (i-1)).cs,Qw (reg y.2 4) x.2.rip (cbN l (i-1)).cs (cbN l (i-1)).bs⟩)∨
  (x.1≠"call" ∧x.1≠"ret" ∧cbN l i=cbN l (i-1)):=by
 cases i with
 |zero=>
  obtain⟨m,e⟩:=h0
  rw[e]at hx
  cases hx
  exact .inr (.inr ⟨(by decide:("" :Str)≠"call"),(by decide:("" :Str)≠"ret"),rfl⟩)
 |succ n=>
  have hn:n<l.length:=by have:=(List.getElem?_eq_some_iff.mp hx).1;exact Nat.le_of_lt (by assumption)
  obtain⟨y,hy⟩:∃y,l[n]? =some y:=⟨_,List.getElem?_eq_getElem hn⟩
  have e:cbN l (n+1)=U6 y.2 x.2 x.1 (cbN l n):=by
   rw[cbN,hy,hx]
  rw[e,Nat.add_sub_cancel]
  unfold U6
  by_cases q1:x.1="call"
  ·exact .inl ⟨q1,by rw[if_pos q1]⟩
  ·by_cases q2:x.1="ret"
   ·exact .inr (.inl ⟨q1,q2,y,hy,by exact Nat.zero_lt_succ _,by rw[if_neg q1,if_pos q2]⟩)
   ·exact .inr (.inr ⟨q1,q2,by rw[if_neg q1,if_neg q2]⟩)
theorem Qm(l:List (Int×Int))(a b:Int):Zr l++[V.tup [.int a,.int b]]=Zr (l++[(a,b)]):=by
 show _=List.map _ (l++[(a,b)])
 rw[List.map_append];rfl
theorem Zbo{t:Expr}{a:List Stmt}{pos:Pos}{N:Loc→Hp→Prop}{R:V→Hp→Prop}(P:Loc→Hp→Prop)(h:WT c d t ρ σ (fun b σ1=>if b=true then WS c d a ρ σ1 P R X else P ρ σ1) X)(q:∀ρ' σ',P ρ' σ'→N ρ' σ'):WX c d (.If t a [] pos) ρ σ N R X:=
 Ja (WT.mono h fun b σ1 h1=>by
  cases b
  ·exact Ji (q _ _ h1)
  ·exact WG.mono h1 fun v ρ' σ' z=>by cases v with
    |none=>exact q _ _ z
    |some v=>exact z)
inductive JCl(σ₀:Hp)(F:Addr)(l:List (Str×MS))(i:Nat)(x y:Str×MS)(cs bs:List (Int×Int))(n:Nat)(ρ':Loc)(σ':Hp):Prop
 |mk (cs':_) (h1:n=cs'.length) (h2:JX (reg x.2 4) cs'=JX (reg x.2 4) cs) (h3:cs'.length≤100) (h4:Yt [("tellings",.lst (Y7 l)),("names",.lst (Qn l)),("calls",.lst (Zr cs')),("broken",.lst (Zr (Qw (reg y.2 4) x.2.rip cs bs))),("found",.ref F),("at",.int i),("told",Yx x.2)] ρ') (h5:σ'={σ₀ with ls:=up σ₀.ls F (some (Jg l i))}):JCl σ₀ F l i x y cs bs n ρ' σ'
theorem ZdK{l:List (Str×MS)}(hl:l.length≤100)(hI:∀x∈l,MOK x.2∧x.2.mem.length≤1000)(h0:∃m,l[0]? =some ((("" :Str),m):Str×MS)):
  Zd 6 (.ref 1157) [.lst (Y7 l),.lst (Qn l)] σ (fun x σ'=>x=.lst (Jg l l.length)∧σ'=σ) noX:=by
 refine Zd.weakQ (Zd.fixL ?_)
 have hl':l.length≤1000:=Nat.le_trans hl (by decide)
 refine Zc (d:=5) ["tellings","names"] Xo (fun P=>by kernel_rfl) Zf (ZH fun x y=>rfl) rfl rfl rfl fun N=>?_
 walk_at "w"
 refine JR (names:=["calls","broken","found"]) ?_ rfl (fun q_ q_ q_ q_ q_ q_ q_ q_=>rfl)
 refine Zx ?_
 refine Zh (ZN (ZW ⟨nB rfl,?_⟩)) rfl
 refine Zh (ZN (ZW ⟨nB rfl,?_⟩)) rfl
 refine Zh (YE (ZW ⟨nB rfl,fun F hF=>?_⟩)) rfl
 walk_at "w"
 refine⟨nB rfl,_,rfl,rfl,?_⟩
 walk_at "w"
 obtain⟨σ₀,rfl⟩:∃x,x=σ:=⟨_,rfl⟩
 refine Ht rfl rfl rfl ?_
 walk_at "w"
 refine⟨_,rfl,fun i ρ' σ'=>Yt [("tellings",.lst (Y7 l)),("names",.lst (Qn l)),("calls",.lst (Zr (cbN l (i-1)).cs)),("broken",.lst (Zr (cbN l (i-1)).bs)),("found",.ref F)] ρ'∧σ'={σ₀ with ls:=up σ₀.ls F (some (Jg l i))},⟨⟨rfl,rfl,rfl,rfl,rfl,trivial⟩,rfl⟩,fun q_ q_ q_ q_=>rfl,?_,?_⟩
 ·rintro i v ρ1 σ2 hv ⟨⟨s1,s2,s3,s4,s5,_⟩,rfl⟩
  refine Q6 rfl rfl rfl (fun q_=>rfl) ?_
  refine Zy (Zg rfl (Zy (Zg rfl ?_)))
  rw[List.getElem?_map]at hv
  obtain⟨x,hx,rfl⟩:=Option.map_eq_some_iff.mp hv
  obtain⟨ok,hz⟩:=hI x (List.mem_of_getElem? hx)
  have hi:i<l.length:=(List.getElem?_eq_some_iff.mp hx).1
  obtain⟨c1,c2⟩:=Uq l (i-1)
  have hi1:i-1≤100:=Nat.le_trans (Nat.sub_le i 1) (Nat.le_trans (Nat.le_of_lt hi) hl)
  refine WS.view (ρ':=[("tellings",.lst (Y7 l)),("names",.lst (Qn l)),("calls",.lst (Zr (cbN l (i-1)).cs)),("broken",.lst (Zr (cbN l (i-1)).bs)),("found",.ref F),("at",.int i),("told",Yx x.2)])
   ⟨Z9 (Z9 s1 (by decide)) (by decide),Z9 (Z9 s2 (by decide)) (by decide),Z9 (Z9 s3 (by decide)) (by decide),Z9 (Z9 s4 (by decide)) (by decide),Z9 (Z9 s5 (by decide)) (by decide),Z9 ((ZT ..).trans (if_pos rfl)) (by decide),(ZT ..).trans (if_pos rfl),trivial⟩ ?_
  have fin:∀{C:CB},cbN l i=C→Jg l i++[cbV C]=Jg l (i+1):=by
   rintro C rfl
   rw[Jg,Jg,List.range_succ,List.map_append];rfl
  walk_at "w"
  refine Z2 (Zp ?_) rfl
  walk_at "w"
  refine⟨_,_,i,_,rfl,rfl,Ql hx hl',UW hx,?_⟩
  walk_at "w"
  refine⟨_,_,rfl,rfl,?_⟩
  rcases ZaW h0 hx with ⟨q,e⟩| ⟨q,q2,y,hy,hpos,e⟩| ⟨q,q2,e⟩
  ·rw[show(x.1==("call" :Str))=true from by rw[q];rfl]
   refine Zs ?_
   refine Zn (Y5 ?_ rfl)
   refine Qt ?_
   walk_at "w"
   refine ZN ?_
   refine Zh (Zx ?_) rfl
   walk_at "w"
   refine Zb rfl rfl rfl rfl QP ?_
   walk_at "w"
   refine QF (r:=4) (by decide) ?_
   walk_at "w"
   refine⟨x.2,rfl,ok,?_⟩
   walk_at "w"
   refine⟨rfl,?_⟩
   walk_at "w"
   refine⟨rfl,?_⟩
   walk_at "w"
   refine(Hj ok hz).e (nB rfl) ?_
   walk_at "w"
   refine QF (r:=4) (by decide) ?_
   walk_at "w"
   refine⟨x.2,rfl,ok,?_⟩
   walk_at "w"
   refine⟨rfl,?_⟩
   walk_at "w"
   refine⟨rfl,?_⟩
   walk_at "w"
   refine⟨nB rfl,?_⟩
   walk_at "w"
   refine⟨nB rfl,?_⟩
   refine⟨_,_,rfl,rfl,by rw[List.length_map];first|exact Nat.le_trans (Nat.succ_le_succ (Nat.le_trans c1 hi1)) (by decide)|exact Nat.le_trans (Nat.succ_le_succ (Nat.le_trans c2 hi1)) (by decide),?_⟩
   walk_at "w"
   refine Z2 (Zp ?_) rfl
   walk_at "w"
   refine⟨_,_,i,_,rfl,rfl,Ql hx hl',UW hx,?_⟩
   walk_at "w"
   refine⟨_,_,rfl,rfl,?_⟩
   rw[show(x.1==("ret" :Str))=false from by rw[q];rfl]
   refine Zk ?_
   walk_at "w"
   refine ZC rfl rfl ?_
   walk_at "w"
   refine⟨_,_,Yb PySem.F.slot_list_append PySem.F.type_list_append (up_self ..),trivial,?_⟩
   walk_at "w"
   refine Zx ?_
   walk_at "w"
   refine⟨nB rfl,?_⟩
   walk_at "w"
   refine Yo (up_self ..) (by rw[List.length_map,List.length_range];lia) ?_
   walk_at "w"
   refine⟨⟨rfl,rfl,?_,?_,rfl,trivial⟩,?_⟩
   ·show _=some (V.lst (Zr (cbN l i).cs))
    rw[e];exact congrArg (fun z=>some (V.lst z)) (Qm ..)
   ·show _=some (V.lst (Zr (cbN l i).bs))
    rw[e];rfl
   ·simp only[ZQ]
    rw[←fin e]
    rw[Qm]
  ·rw[show(x.1==("call" :Str))=false from by rw[q2];rfl]
   refine Zk ?_
   walk_at "w"
   refine Z2 (Zp ?_) rfl
   walk_at "w"
   refine⟨_,_,i,_,rfl,rfl,Ql hx hl',UW hx,?_⟩
   walk_at "w"
   refine⟨_,_,rfl,rfl,?_⟩
   rw[show(x.1==("ret" :Str))=true from by rw[q2];rfl]
   refine Zs ?_
   walk_at "w"
   refine Z8 (Z8 (Zp ?_))
   walk_at "w"
   refine⟨_,_,_,rfl,rfl,rfl,?_⟩
   rw[Dc hpos]
   refine⟨_,_,i-1,_,rfl,rfl,Jz hy hl',Uk hy,?_⟩
   walk_at "w"
   refine⟨_,0,0,_,rfl,rfl,rfl,rfl,?_⟩
   walk_at "w"
   have oky:=(hI y (List.mem_of_getElem? hy)).1
   refine⟨_,4,4,_,rfl,rfl,YC oky (by decide),YD oky (by decide),?_⟩
   refine Zg rfl (Zn ?_)
   generalize (cbN l (i-1)).cs=cs at*
   generalize (cbN l (i-1)).bs=bs at*
   refine Zbo (fun ρ' σ'=>Yt [("tellings",.lst (Y7 l)),("names",.lst (Qn l)),("calls",.lst (Zr cs)),("broken",.lst (Zr (Qw (reg y.2 4) x.2.rip cs bs))),("found",.ref F),("at",.int i),("told",Yx x.2)] ρ'∧σ'={σ₀ with ls:=up σ₀.ls F (some (Jg l i))}) ?_ ?_
   ·refine ZY (ZE (Kd ?_ rfl))
    walk_at "w"
    refine ZN (ZW ⟨nB rfl,_,rfl,QJ _ 18,rfl,?_⟩)
    rcases List.eq_nil_or_concat cs with rfl| ⟨L,z,rfl⟩
    ·refine Zk ?_
     exact Zk ⟨⟨rfl,rfl,rfl,rfl,rfl,rfl,rfl,trivial⟩,rfl⟩
    rw[List.concat_eq_append]at*
    have hL:L.length≤100:=Nat.le_trans (List.sublist_append_left L _).length_le (Nat.le_trans c1 hi1)
    have hr:Qw (reg y.2 4) x.2.rip (L++[z]) bs=if z.2=reg y.2 4∧z.1≠x.2.rip then bs++[(z.1,x.2.rip)]else bs:=by
     unfold Qw;rw[List.getLast?_concat]
    rw[show(!(Zr (L++[z])).isEmpty)=true from by simp]
    refine Zs ?_
    refine(ZE (Zq (Zl ?_ rfl) rfl))
    refine Z8 (Zp ?_)
    walk_at "w"
    refine Jw ?_
    walk_at "w"
    refine⟨_,rfl,?_⟩
    refine⟨_,_,_,_,rfl,rfl,Qy (by exact Nat.le_trans (by assumption) (by decide)),Vb,?_⟩
    walk_at "w"
    refine⟨_,1,1,_,rfl,rfl,rfl,rfl,?_⟩
    walk_at "w"
    refine⟨_,_,_,rfl,rfl,rfl,_,rfl,?_⟩
    refine Z7 (fun q3=>?_) fun q3=>Zk ⟨⟨rfl,rfl,rfl,?_,rfl,rfl,rfl,trivial⟩,rfl⟩
    rotate_left
    ·rw[hr,if_neg (fun h=>by simp[h.1]at q3)];rfl
    refine(ZE (Zq (Zl ?_ rfl) rfl))
    refine Z8 (Zp ?_)
    walk_at "w"
    refine Jw ?_
    walk_at "w"
    refine⟨_,rfl,?_⟩
    refine⟨_,_,_,_,rfl,rfl,Qy (by exact Nat.le_trans (by assumption) (by decide)),Vb,?_⟩
    walk_at "w"
    refine⟨_,0,0,_,rfl,rfl,rfl,rfl,?_⟩
    walk_at "w"
    refine Z8 ?_
    walk_at "w"
    refine⟨_,4,4,_,rfl,rfl,rfl,rfl,?_⟩
    refine⟨_,_,_,rfl,rfl,rfl,_,rfl,?_⟩
    refine Z7 (fun q4=>Ym (Zs ?_)) fun q4=>Zk ⟨⟨rfl,rfl,rfl,?_,rfl,rfl,rfl,trivial⟩,rfl⟩
    rotate_left
    ·rw[hr,if_neg (fun h=>by simp[h.2]at q4)];rfl
    refine Zn (Y5 ?_ rfl)
    refine Qt ?_
    walk_at "w"
    refine ZN ?_
    refine Zh (Zx ?_) rfl
    walk_at "w"
    refine Z8 (Zp ?_)
    walk_at "w"
    refine Jw ?_
    walk_at "w"
    refine⟨_,rfl,?_⟩
    refine⟨_,_,_,_,rfl,rfl,Qy (by exact Nat.le_trans (by assumption) (by decide)),Vb,?_⟩
    walk_at "w"
    refine⟨_,0,0,_,rfl,rfl,rfl,rfl,?_⟩
    walk_at "w"
    refine Z8 ?_
    walk_at "w"
    refine⟨_,4,4,_,rfl,rfl,rfl,rfl,?_⟩
    walk_at "w"
    refine⟨nB rfl,?_⟩
    walk_at "w"
    refine⟨nB rfl,?_⟩
    refine⟨_,_,rfl,rfl,by rw[List.length_map];first|exact Nat.le_trans (Nat.succ_le_succ (Nat.le_trans c1 hi1)) (by decide)|exact Nat.le_trans (Nat.succ_le_succ (Nat.le_trans c2 hi1)) (by decide),?_⟩
    walk_at "w"
    refine⟨⟨rfl,rfl,rfl,?_,rfl,rfl,rfl,trivial⟩,rfl⟩
    rw[hr,if_pos ⟨by simpa using q3,by simpa using q4⟩]
    exact congrArg (fun z=>some (V.lst z)) (Qm ..)
   rintro ρ2 σ2 ⟨hs2,rfl⟩
   refine WS.view hs2 ?_
   walk_at "w"
   refine U8 (JCl σ₀ F l i x y cs bs) _ ⟨cs,rfl,rfl,Nat.le_trans c1 hi1,⟨rfl,rfl,rfl,rfl,rfl,rfl,rfl,trivial⟩,rfl⟩ ?_
   rintro n ρ' σ' ⟨cs',rfl,hp,hl2,hs3,rfl⟩
   refine⟨_,hs3,?_⟩
   refine WT.mono (Q:=fun b σ1=>σ1=({σ₀ with ls:=up σ₀.ls F (some (Jg l i))}:Hp)∧(if b=true then ∃L z,cs'=L++[z]∧z.2<reg x.2 4 else JX (reg x.2 4) cs'=cs')) ?_ ?_
   ·refine ZY (ZE (Kd ?_ rfl))
    walk_at "w"
    refine ZN (ZW ⟨nB rfl,_,rfl,QJ _ 18,rfl,?_⟩)
    rcases List.eq_nil_or_concat cs' with rfl| ⟨L,z,rfl⟩
    ·exact Zk ⟨rfl,Zk rfl⟩
    rw[List.concat_eq_append]at*
    have hL:L.length≤100:=Nat.le_trans (List.sublist_append_left L _).length_le hl2
    rw[show(!(Zr (L++[z])).isEmpty)=true from by simp]
    refine Zs ?_
    refine(ZE (Zq (Zl ?_ rfl) rfl))
    refine Z8 (Zp ?_)
    walk_at "w"
    refine Jw ?_
    walk_at "w"
    refine⟨_,rfl,?_⟩
    refine⟨_,_,_,_,rfl,rfl,Qy (by exact Nat.le_trans (by assumption) (by decide)),Vb,?_⟩
    walk_at "w"
    refine⟨_,1,1,_,rfl,rfl,rfl,rfl,?_⟩
    walk_at "w"
    refine QF (r:=4) (by decide) ?_
    walk_at "w"
    refine⟨x.2,rfl,ok,?_⟩
    walk_at "w"
    refine⟨rfl,?_⟩
    walk_at "w"
    refine⟨rfl,?_⟩
    refine⟨_,_,_,rfl,rfl,rfl,_,rfl,?_⟩
    refine VB (fun q6=>Ym ⟨rfl,Zs ⟨L,z,rfl,q6⟩⟩) fun q6=>⟨rfl,Zk ?_⟩
    rw[V9,if_neg q6]
   rintro b σ1 ⟨rfl,q5⟩
   cases b with
   |true=>
    refine Zs ?_
    obtain⟨L,z,rfl,q6⟩:=q5
    refine Zn (Y5 ?_ rfl)
    refine Vy ?_ (fun q_ q_=>rfl)
    walk_at "w"
    refine W5 (Kv (Jw ?_))
    walk_at "w"
    refine⟨_,rfl,?_⟩
    refine⟨_,none,some (-1),rfl,by rw[List.length_map];exact Nat.le_trans (by assumption) (by decide),.none,.int _,?_⟩
    rw[Nt]
    walk_at "w"
    refine⟨L.length,by simp,L,rfl,by rw[←hp,V9,if_pos q6],Nat.le_trans (List.sublist_append_left L _).length_le hl2,⟨rfl,rfl,rfl,rfl,rfl,rfl,rfl,trivial⟩,rfl⟩
   |false=>
    refine Zk ?_
    simp only[Bool.false_eq_true,if_false]at q5
    walk_at "w"
    refine ZC rfl rfl ?_
    walk_at "w"
    refine⟨_,_,Yb PySem.F.slot_list_append PySem.F.type_list_append (up_self ..),trivial,?_⟩
    walk_at "w"
    refine Zx ?_
    walk_at "w"
    refine⟨nB rfl,?_⟩
    walk_at "w"
    refine Yo (up_self ..) (by rw[List.length_map,List.length_range];lia) ?_
    walk_at "w"
    refine⟨⟨rfl,rfl,?_,?_,rfl,trivial⟩,?_⟩
    ·show _=some (V.lst (Zr (cbN l i).cs))
     rw[e,←hp,q5];rfl
    ·show _=some (V.lst (Zr (cbN l i).bs))
     rw[e];rfl
    ·simp only[ZQ]
     rw[←fin e,←hp,q5]
  ·rw[show(x.1==("call" :Str))=false from by simpa using q]
   refine Zk ?_
   walk_at "w"
   refine Z2 (Zp ?_) rfl
   walk_at "w"
   refine⟨_,_,i,_,rfl,rfl,Ql hx hl',UW hx,?_⟩
   walk_at "w"
   refine⟨_,_,rfl,rfl,?_⟩
   rw[show(x.1==("ret" :Str))=false from by simpa using q2]
   refine Zk ?_
   walk_at "w"
   refine ZC rfl rfl ?_
   walk_at "w"
   refine⟨_,_,Yb PySem.F.slot_list_append PySem.F.type_list_append (up_self ..),trivial,?_⟩
   walk_at "w"
   refine Zx ?_
   walk_at "w"
   refine⟨nB rfl,?_⟩
   walk_at "w"
   refine Yo (up_self ..) (by rw[List.length_map,List.length_range];lia) ?_
   walk_at "w"
   refine⟨⟨rfl,rfl,?_,?_,rfl,trivial⟩,?_⟩
   ·show _=some (V.lst (Zr (cbN l i).cs))
    rw[e];rfl
   ·show _=some (V.lst (Zr (cbN l i).bs))
    rw[e];rfl
   ·simp only[ZQ]
    rw[←fin e]
 ·rintro ρ1 σ2 ⟨⟨s1,s2,s3,s4,s5,_⟩,rfl⟩
  refine WS.view (ρ':=[("found",.ref F)]) ⟨s5,trivial⟩ ?_
  walk_at "w"
  exact⟨F,_,rfl,up_self ..,σ₀,((Hp.Le.refl σ₀).nl hF _).nl hF none,by rw[List.length_map],rfl⟩
end
end
section
structure DA where
 D:Addr
 dD:Addr
 P:Addr
 W:Addr
 C:Addr
 B:Addr
structure DS where
 pts:List (Int×Int)
 ws:List Nat
 cs:List (Int×Int)
 bs:List (Int×Int)
 count:Nat
 latest:Str
 what:Str
noncomputable abbrev Hg(S:Addr)(adv:V)(b:DA)(s:DS):List (Str×V):=[("state",.ref S),("advance",adv),("points",.ref b.P),("watches",.ref b.W),("calls",.ref b.C),("broken",.ref b.B),("count",.int s.count),("latest",.str s.latest),("what",.str s.what)]
noncomputable abbrev wsV(l:List Nat):List V:=l.map fun(w:Nat)=>.tup [.int (32768-(w:Int)),.int w]
structure WAd where
 Wd:Addr
 P:Addr
 W:Addr
structure BA where
 a:MA
 b:DA
 w:WAd
 p:Pen
structure BS where
 m:MS
 d:DS
 i:Nat
 pts:List (Int×Int)
 ws:List Nat
 s:Nat
structure BK where
 l:List (Str×MS)
 o:Bool
 adv:FuncData
noncomputable abbrev UU(k:BK)(w:WAd)(i:Nat):List (Str×V):=[("tellings",.lst (Y7 k.l)),("names",.lst (Qn k.l)),("over",.bool k.o),("at",.int i),("points",.ref w.P),("watches",.ref w.W),("calls",.lst (Jg k.l k.l.length))]
structure Big(σ₀ σ:Hp)(k:BK)(A:BA)(B:BS):Prop where
 le:σ₀.Le σ
 mst:MSt σ A.a B.m
 dbg:σ.is A.b.D=some ⟨false,232,A.b.dD,Hg A.a.S (.lam k.adv) A.b B.d⟩
 dP:σ.ds A.b.P=some (ZI B.d.pts)
 dW:σ.ls A.b.W=some (wsV B.d.ws)
 dC:σ.ls A.b.C=some (Zr B.d.cs)
 dB:σ.ls A.b.B=some (Zr B.d.bs)
 wd:σ.ss A.w.Wd=some (UU k A.w B.i)
 wP:σ.ds A.w.P=some (ZI B.pts)
 wW:σ.ls A.w.W=some (wsV B.ws)
 pn:σ.ls A.p.P=some (QA A.p B.s)
 nl:[A.a.R,A.a.XM,A.b.W,A.b.C,A.b.B,A.w.W,A.p.P].Nodup
 nd:[A.a.H,A.b.P,A.w.P].Nodup
 ns:A.w.Wd≠A.a.SG
 zi:∀x∈[A.a.S,A.b.D],σ₀.is x=none
 zl:∀x∈[A.a.R,A.b.W,A.b.C,A.b.B,A.w.W,A.p.P],σ₀.ls x=none
 zd:∀x∈[A.a.H,A.b.P,A.w.P],σ₀.ds x=none
 zs:σ₀.ss A.w.Wd=none
theorem Zc3{l:List Addr}(h:l.Nodup)(i j:Nat){x y:Addr}(e:(l[i]?,l[j]?)=(some x,some y))(n:(i !=j)=true):x≠y:=fun q=>
 bne_iff_ne.mp n ((List.getElem?_inj ((List.getElem?_eq_some_iff.mp (Prod.mk.inj e).1).1) h).mp ((Prod.mk.inj e).1.trans (q▸(Prod.mk.inj e).2.symm)))
theorem Za8{l:List Addr}(h:l.Nodup){W:Addr}(n:W∉l)(i:Nat):(l.set i W).Nodup:=by
 induction l generalizing i with
 |nil=>exact h
 |cons x r ih=>
  have h:=List.nodup_cons.mp h
  cases i with
  |zero=>exact List.nodup_cons.mpr ⟨fun m=>n (.tail _ m),h.2⟩
  |succ i=>exact List.nodup_cons.mpr ⟨fun m=>(List.mem_or_eq_of_mem_set m).elim h.1 fun e=>n (e▸ .head _),ih h.2 (fun m=>n (.tail _ m)) i⟩
theorem Ks{α:Type}{P:α→Prop}{l:List α}(h:∀x∈l,P x){w:α}(hw:P w)(i:Nat):∀x∈l.set i w,P x:=fun x m=>(List.mem_or_eq_of_mem_set m).elim (h x) fun e=>e▸hw
theorem nmem{l:List Addr}{W:Addr}(h:∀y∈l,y≠W):W∉l:=fun m=>h W m rfl
theorem mat{α:Type}{P:α→Prop}{l:List α}(h:∀x∈l,P x)(i:Nat){x:α}(e:l[i]? =some x):P x:=h x (List.mem_of_getElem? e)
theorem nd7i{a b c d e f g:Addr}(h:(a≠b∧a≠c∧a≠d∧a≠e∧a≠f∧a≠g)∧(b≠c∧b≠d∧b≠e∧b≠f∧b≠g)∧(c≠d∧c≠e∧c≠f∧c≠g)∧(d≠e∧d≠f∧d≠g)∧(e≠f∧e≠g)∧f≠g):[a,b,c,d,e,f,g].Nodup:=by
 simpa [List.nodup_cons,and_assoc]using h
theorem ZbH{a b c:Addr}(h:a≠b∧a≠c∧b≠c):[a,b,c].Nodup:=by simpa [List.nodup_cons,and_assoc]using h
section
variable{σ₀ σ τ:Hp}{k:BK}{A:BA}{B:BS}{c:Ctx}{d:Nat}{ρ:Loc}{X:Addr→Loc→Hp→Prop}
theorem WS.big{st:List Stmt}{N:Loc→Hp→Prop}{R:V→Hp→Prop}(h:Big σ₀ σ k A B)(q:∀τ,Big σ₀ τ k A B→WS c d st ρ τ N R X):WS c d st ρ σ N R X:=q σ h
theorem OM{x y:Addr}{r r':Rec}(h1:σ.is x=some r)(h2:σ.is y=some r')(n:(r.C !=r'.C)=true):x≠y:=fun q=>bne_iff_ne.mp n (congrArg Rec.C (Option.some.inj (h1.symm.trans (q▸h2))))
theorem Big.DS(G:Big σ₀ σ k A B):A.b.D≠A.a.S:=OM G.dbg G.mst.st rfl
theorem Big.DF(G:Big σ₀ σ k A B):A.b.D≠A.a.F:=OM G.dbg G.mst.fl rfl
theorem Big.DM(G:Big σ₀ σ k A B):A.b.D≠A.a.M:=OM G.dbg G.mst.me.is rfl
theorem Big.grow(G:Big σ₀ σ k A B)(h:σ.Le τ):Big σ₀ τ k A B:=
 {G with
  le:=G.le.trans h,mst:=G.mst.le h,dbg:=h.is _ _ G.dbg,dP:=h.ds _ _ G.dP,dW:=h.ls _ _ G.dW,dC:=h.ls _ _ G.dC,dB:=h.ls _ _ G.dB,wd:=h.ss _ _ G.wd,wP:=h.ds _ _ G.wP,wW:=h.ls _ _ G.wW,pn:=h.ls _ _ G.pn}
theorem Big.down{σ₁:Hp}(G:Big σ₁ σ k A B)(h:σ₀.Le σ₁):Big σ₀ σ k A B:=
 {G with
  le:=h.trans G.le,zi:=fun x m=>Zi h.is (G.zi x m),zl:=fun x m=>Zi h.ls (G.zl x m),zd:=fun x m=>Zi h.ds (G.zd x m),zs:=Zi h.ss G.zs}
theorem Big.nn(G:Big σ₀ σ k A B)(i j:Nat){x y:Addr}(e:([A.a.R,A.a.XM,A.b.W,A.b.C,A.b.B,A.w.W,A.p.P][i]?,[A.a.R,A.a.XM,A.b.W,A.b.C,A.b.B,A.w.W,A.p.P][j]?)=(some x,some y))(n:(i !=j)=true):x≠y:=Zc3 G.nl i j e n
theorem Big.nz(G:Big σ₀ σ k A B)(i j:Nat){x y:Addr}(e:([A.a.H,A.b.P,A.w.P][i]?,[A.a.H,A.b.P,A.w.P][j]?)=(some x,some y))(n:(i !=j)=true):x≠y:=Zc3 G.nd i j e n
theorem Big.mac(G:Big σ₀ σ k A B){m:MS}(ok:MOK m):Big σ₀ (σ.mac A.a m) k A {B with m:=m}:=
 {G with
  le:=((G.le.nl (mat G.zl 0 rfl) _).nd (mat G.zd 0 rfl) _).ni (mat G.zi 0 rfl) _
  mst:=G.mst.mac ok
  dbg:=(Ze _ _ G.DS).trans G.dbg
  dP:=(Ze _ _ (G.nz 1 0 rfl rfl)).trans G.dP
  dW:=(Ze _ _ (G.nn 2 0 rfl rfl)).trans G.dW
  dC:=(Ze _ _ (G.nn 3 0 rfl rfl)).trans G.dC
  dB:=(Ze _ _ (G.nn 4 0 rfl rfl)).trans G.dB
  wP:=(Ze _ _ (G.nz 2 0 rfl rfl)).trans G.wP
  wW:=(Ze _ _ (G.nn 5 0 rfl rfl)).trans G.wW
  pn:=(Ze _ _ (G.nn 6 0 rfl rfl)).trans G.pn}
theorem MSt.upI{a:MA}{m:MS}(I:MSt σ a m){T:Addr}(h1:T≠a.S)(h2:T≠a.F)(h3:T≠a.M)(v:Option Rec):MSt {σ with is:=up σ.is T v} a m:=
 ⟨(Ze _ _ h1.symm).trans I.st,I.rs,I.xs,(Ze _ _ h2.symm).trans I.fl,⟨(Ze _ _ h3.symm).trans I.me.is,I.me.ds,I.me.oct⟩,I.sg,I.hF,I.hM,I.hX,I.ok⟩
theorem MSt.upD{a:MA}{m:MS}(I:MSt σ a m){T:Addr}(h1:T≠a.H)(v:Option (List (Int×V))):MSt {σ with ds:=up σ.ds T v} a m:=
 ⟨I.st,I.rs,I.xs,I.fl,⟨I.me.is,(Ze _ _ h1.symm).trans I.me.ds,I.me.oct⟩,I.sg,I.hF,I.hM,I.hX,I.ok⟩
theorem MSt.upS{a:MA}{m:MS}(I:MSt σ a m){T:Addr}(h1:T≠a.SG)(v:Option (List (Str×V))):MSt {σ with ss:=up σ.ss T v} a m:=
 ⟨I.st,I.rs,I.xs,I.fl,⟨I.me.is,I.me.ds,I.me.oct⟩,(Ze _ _ h1.symm).trans I.sg,I.hF,I.hM,I.hX,I.ok⟩
theorem Big.setD(G:Big σ₀ σ k A B){n:Nat}{la wh:Str}:Big σ₀ {σ with is:=up σ.is A.b.D (some ⟨false,232,A.b.dD,Hg A.a.S (.lam k.adv) A.b {B.d with count:=n,latest:=la,what:=wh}⟩)} k A {B with d:={B.d with count:=n,latest:=la,what:=wh}}:=
 {G with
  le:=G.le.ni (mat G.zi 1 rfl) _
  mst:=G.mst.upI G.DS G.DF G.DM _
  dbg:=up_self ..}
theorem Big.setC(G:Big σ₀ σ k A B){l:List (Int×Int)}:Big σ₀ {σ with ls:=up σ.ls A.b.C (some (Zr l))} k A {B with d:={B.d with cs:=l}}:=
 {G with
  le:=G.le.nl (mat G.zl 2 rfl) _
  mst:=G.mst.upL (G.nn 3 0 rfl rfl) (G.nn 3 1 rfl rfl) _
  dW:=(Ze _ _ (G.nn 2 3 rfl rfl)).trans G.dW
  dC:=up_self ..
  dB:=(Ze _ _ (G.nn 4 3 rfl rfl)).trans G.dB
  wW:=(Ze _ _ (G.nn 5 3 rfl rfl)).trans G.wW
  pn:=(Ze _ _ (G.nn 6 3 rfl rfl)).trans G.pn}
theorem Big.setB(G:Big σ₀ σ k A B){l:List (Int×Int)}:Big σ₀ {σ with ls:=up σ.ls A.b.B (some (Zr l))} k A {B with d:={B.d with bs:=l}}:=
 {G with
  le:=G.le.nl (mat G.zl 3 rfl) _
  mst:=G.mst.upL (G.nn 4 0 rfl rfl) (G.nn 4 1 rfl rfl) _
  dW:=(Ze _ _ (G.nn 2 4 rfl rfl)).trans G.dW
  dC:=(Ze _ _ (G.nn 3 4 rfl rfl)).trans G.dC
  dB:=up_self ..
  wW:=(Ze _ _ (G.nn 5 4 rfl rfl)).trans G.wW
  pn:=(Ze _ _ (G.nn 6 4 rfl rfl)).trans G.pn}
theorem Big.setW(G:Big σ₀ σ k A B){l:List Nat}:Big σ₀ {σ with ls:=up σ.ls A.b.W (some (wsV l))} k A {B with d:={B.d with ws:=l}}:=
 {G with
  le:=G.le.nl (mat G.zl 1 rfl) _
  mst:=G.mst.upL (G.nn 2 0 rfl rfl) (G.nn 2 1 rfl rfl) _
  dW:=up_self ..
  dC:=(Ze _ _ (G.nn 3 2 rfl rfl)).trans G.dC
  dB:=(Ze _ _ (G.nn 4 2 rfl rfl)).trans G.dB
  wW:=(Ze _ _ (G.nn 5 2 rfl rfl)).trans G.wW
  pn:=(Ze _ _ (G.nn 6 2 rfl rfl)).trans G.pn}
theorem Big.setWW(G:Big σ₀ σ k A B){l:List Nat}:Big σ₀ {σ with ls:=up σ.ls A.w.W (some (wsV l))} k A {B with ws:=l}:=
 {G with
  le:=G.le.nl (mat G.zl 4 rfl) _
  mst:=G.mst.upL (G.nn 5 0 rfl rfl) (G.nn 5 1 rfl rfl) _
  dW:=(Ze _ _ (G.nn 2 5 rfl rfl)).trans G.dW
  dC:=(Ze _ _ (G.nn 3 5 rfl rfl)).trans G.dC
  dB:=(Ze _ _ (G.nn 4 5 rfl rfl)).trans G.dB
  wW:=up_self ..
  pn:=(Ze _ _ (G.nn 6 5 rfl rfl)).trans G.pn}
theorem Big.pen(G:Big σ₀ σ k A B)(s:Nat):Big σ₀ (σ.pen A.p s) k A {B with s:=s}:=
 {G with
  le:=G.le.nl (mat G.zl 5 rfl) _
  mst:=G.mst.upL (G.nn 6 0 rfl rfl) (G.nn 6 1 rfl rfl) _
  dW:=(Ze _ _ (G.nn 2 6 rfl rfl)).trans G.dW
  dC:=(Ze _ _ (G.nn 3 6 rfl rfl)).trans G.dC
  dB:=(Ze _ _ (G.nn 4 6 rfl rfl)).trans G.dB
  wW:=(Ze _ _ (G.nn 5 6 rfl rfl)).trans G.wW
  pn:=up_self ..}
theorem Big.setP(G:Big σ₀ σ k A B){l:List (Int×Int)}:Big σ₀ {σ with ds:=up σ.ds A.b.P (some (ZI l))} k A {B with d:={B.d with pts:=l}}:=
 {G with
  le:=G.le.nd (mat G.zd 1 rfl) _
  mst:=G.mst.upD (G.nz 1 0 rfl rfl) _
  dP:=up_self ..
  wP:=(Ze _ _ (G.nz 2 1 rfl rfl)).trans G.wP}
theorem Big.setWP(G:Big σ₀ σ k A B){l:List (Int×Int)}:Big σ₀ {σ with ds:=up σ.ds A.w.P (some (ZI l))} k A {B with pts:=l}:=
 {G with
  le:=G.le.nd (mat G.zd 2 rfl) _
  mst:=G.mst.upD (G.nz 2 0 rfl rfl) _
  dP:=(Ze _ _ (G.nz 1 2 rfl rfl)).trans G.dP
  wP:=up_self ..}
theorem Big.setAt(G:Big σ₀ σ k A B){i:Nat}:Big σ₀ {σ with ss:=up σ.ss A.w.Wd (some (UU k A.w i))} k A {B with i:=i}:=
 {G with
  le:=G.le.ns G.zs _
  mst:=G.mst.upS G.ns _
  wd:=up_self ..}
theorem Big.newP(G:Big σ₀ σ k A B){l:List (Int×Int)}{P:Addr}(h:σ.ds P=some (ZI l))(n1:P≠A.a.H)(n2:P≠A.w.P)(n3:σ₀.ds P=none):Big σ₀ {σ with is:=up σ.is A.b.D (some ⟨false,232,A.b.dD,Hg A.a.S (.lam k.adv) {A.b with P:=P} B.d⟩)} k {A with b:={A.b with P:=P}} {B with d:={B.d with pts:=l}}:=
 {G with
  le:=G.le.ni (mat G.zi 1 rfl) _
  mst:=G.mst.upI G.DS G.DF G.DM _
  dbg:=up_self ..
  dP:=h
  nd:=ZbH ⟨n1.symm,G.nz 0 2 rfl rfl,n2⟩
  zd:=Ks G.zd n3 1}
theorem Big.newW(G:Big σ₀ σ k A B){l:List Nat}{W:Addr}(h:σ.ls W=none):Big σ₀ {σ with ls:=up σ.ls W (some (wsV l)),is:=up σ.is A.b.D (some ⟨false,232,A.b.dD,Hg A.a.S (.lam k.adv) {A.b with W:=W} B.d⟩)} k {A with b:={A.b with W:=W}} {B with d:={B.d with ws:=l}}:=
 have hC:=nne G.dC h
 have hB:=nne G.dB h
 have hW:=nne G.wW h
 have hP:=nne G.pn h
 have hn:=nne G.dW h
 have hR:=nne G.mst.rs h
 have hX:=nne G.mst.xs h
 {G with
  le:=(G.le.nl (Zi G.le.ls h) _).ni (mat G.zi 1 rfl) _
  mst:=(G.mst.upL hR.symm hX.symm _).upI G.DS G.DF G.DM _
  dbg:=up_self ..
  dW:=up_self ..
  dC:=(Ze _ _ hC).trans G.dC
  dB:=(Ze _ _ hB).trans G.dB
  wW:=(Ze _ _ hW).trans G.wW
  pn:=(Ze _ _ hP).trans G.pn
  nl:=Za8 G.nl (nmem (List.forall_mem_cons.mpr ⟨hR,List.forall_mem_cons.mpr ⟨hX,List.forall_mem_cons.mpr ⟨hn,List.forall_mem_cons.mpr ⟨hC,List.forall_mem_cons.mpr ⟨hB,List.forall_mem_cons.mpr ⟨hW,List.forall_mem_cons.mpr ⟨hP,fun q_ m=>nin m⟩⟩⟩⟩⟩⟩⟩)) 2
  zl:=Ks G.zl (Zi G.le.ls h) 1}
theorem Big.newWP(G:Big σ₀ σ k A B){l:List (Int×Int)}{P:Addr}(h:σ.ds P=none):Big σ₀ {σ with ds:=up σ.ds P (some (ZI l)),ss:=up σ.ss A.w.Wd (some (UU k {A.w with P:=P} B.i))} k {A with w:={A.w with P:=P}} {B with pts:=l}:=
 have hH:=nne G.mst.me.ds h
 have hP:=nne G.dP h
 {G with
  le:=(G.le.nd (Zi G.le.ds h) _).ns G.zs _
  mst:=(G.mst.upD hH.symm _).upS G.ns _
  dP:=(Ze _ _ hP).trans G.dP
  wd:=up_self ..
  wP:=up_self ..
  nd:=ZbH ⟨G.nz 0 1 rfl rfl,hH,hP⟩
  zd:=Ks G.zd (Zi G.le.ds h) 2}
theorem Big.newWW(G:Big σ₀ σ k A B){l:List Nat}{W:Addr}(h:σ.ls W=none):Big σ₀ {σ with ls:=up σ.ls W (some (wsV l)),ss:=up σ.ss A.w.Wd (some (UU k {A.w with W:=W} B.i))} k {A with w:={A.w with W:=W}} {B with ws:=l}:=
 have hC:=nne G.dC h
 have hB:=nne G.dB h
 have hW:=nne G.dW h
 have hP:=nne G.pn h
 have hn:=nne G.wW h
 have hR:=nne G.mst.rs h
 have hX:=nne G.mst.xs h
 {G with
  le:=(G.le.nl (Zi G.le.ls h) _).ns G.zs _
  mst:=(G.mst.upL hR.symm hX.symm _).upS G.ns _
  dW:=(Ze _ _ hW).trans G.dW
  dC:=(Ze _ _ hC).trans G.dC
  dB:=(Ze _ _ hB).trans G.dB
  wd:=up_self ..
  wW:=up_self ..
  pn:=(Ze _ _ hP).trans G.pn
  nl:=Za8 G.nl (nmem (List.forall_mem_cons.mpr ⟨hR,List.forall_mem_cons.mpr ⟨hX,List.forall_mem_cons.mpr ⟨hW,List.forall_mem_cons.mpr ⟨hC,List.forall_mem_cons.mpr ⟨hB,List.forall_mem_cons.mpr ⟨hn,List.forall_mem_cons.mpr ⟨hP,fun q_ m=>nin m⟩⟩⟩⟩⟩⟩⟩)) 5
  zl:=Ks G.zl (Zi G.le.ls h) 4}
end
end
section
section
variable{σ₀ σ τ:Hp}{k:BK}{A:BA}{B:BS}{c:Ctx}{d:Nat}{ρ:Loc}{X:Addr→Loc→Hp→Prop}
noncomputable abbrev Zc0(m:MS)(ws:List Nat):List V:=ws.map fun(w:Nat)=>.int (mread m.mem (32768-(w:Int)) w)
theorem Big.c_seen(G:Big σ₀ σ k A B)(hw:∀w∈B.d.ws,w≤1000)(hl:B.d.ws.length≤1000):Zd 6 (.ref 156) [.ref A.b.D] σ (fun x σ'=>x=.lst (Zc0 B.m B.d.ws)∧σ'=σ) noX:=by
 refine Zd.weakQ ?_
 refine Yq (d:=5) (ns:=["self"]) QE (fun P=>by kernel_rfl) rfl Zf (Yj fun x=>rfl) rfl fun n hn=>?_
 rw[show cellsσ (n+1) QE.scope.names σ={σ with cs:=up σ.cs (n+1) (some none)}from rfl]
 refine ZP rfl rfl (up_self ..) ?_
 simp only[ZQ]
 have hc:=(hn _ (Nat.le_succ n)).cs
 have le:σ.Le {σ with cs:=up σ.cs (n+1) (some (some (.ref A.b.D)))}:=Zc7 _ hc
 have G':=G.grow le
 walk_at "w"
 refine UY rfl (.inr rfl) (fun q_ q_=>rfl) rfl rfl (by decide) (by decide+kernel) (Ur (ZS (Zo rfl rfl (up_self ..) rfl ?_) rfl))
 refine⟨_,_,_,Za G'.dbg,Ue,rfl,rfl,?_⟩
 refine⟨wsV B.d.ws,G'.dW,G'.dW,by rw[List.length_map];exact hl,fun v=>(tAt 1 v).map fun w=>.int (mread B.m.mem (32768-iAt w) (iAt w).toNat),?_,?_⟩
 ·intro v hv
  obtain⟨w,hw1,rfl⟩:=List.mem_map.mp hv
  refine Q6 rfl rfl rfl (fun q_=>rfl) ?_
  refine Zy (Zg rfl (Zy (Zg rfl ⟨rfl,rfl,Zs ?_⟩)))
  refine Zj rfl rfl ?_
  refine ZS (ZS (Zo rfl rfl (up_self ..) rfl ?_) rfl) rfl
  refine⟨_,_,_,Za G'.dbg,Zm,rfl,rfl,?_⟩
  refine⟨_,_,_,Za G'.mst.st,Yh,rfl,rfl,?_⟩
  refine⟨_,_,_,Za G'.mst.me.is,YM,rfl,?_⟩
  walk_at "w"
  refine(W3 (n:=w) G'.mst.me (hw w hw1)).e (nB rfl) ?_
  exact⟨rfl,rfl⟩
 ·refine⟨σ,le,congrArg V.lst ?_,rfl⟩
  rw[List.filterMap_map]
  exact List.filterMap_eq_map' (f:=fun(w:Nat)=>V.int (mread B.m.mem (32768-(w:Int)) w))▸rfl
inductive ZcQ(Q:V→Hp→Prop)(a:V)(b:V)(σ2:Hp):Prop
 |mk (vs:_) (h1:ZV σ2 a=some vs) (h2:vs.length≤100000) (h3:b=.int (-1)) (h4:Q (.lst vs.reverse) σ2):ZcQ Q a b σ2
theorem Oy{o:Expr}{st:Expr}{p pos:Pos}{Q:V→Hp→Prop}
  (h:WE c d o ρ σ (fun a σ1=>WE c d st ρ σ1 (ZcQ Q a) X) X):WE c d (.Subscript o (.Slice none none (some st) p) pos) ρ σ Q X:=
 WE.mk fun w os₀ A env k g s Q' E' S hE hQ=>Subscript_ (h.use S hE fun a σ1 x g1 s1 l1 va S1 hE1 h1=>
  wpAny_Slice (wpAny_evalPart_none (wpAny_evalPart_none (wpAny_evalPart_some (h1.use S1 hE1 fun b σ2 y g2 s2 l2 vb S2 hE2 h2=>by
   obtain⟨vs,e1,hz,rfl,q⟩:=h2
   cases vb with
   |int _ t=>
   obtain⟨l,Vs,n,rfl,p,r⟩:=S2.st.list e1 (va.mono l2)
   have S4:=S2.st.push {cls:=.type "slice",data:=.fields #[.none,.none,.int (-1) t]}
   have p4:=Heap.get?_push_of_some {cls:=.type "slice",data:=.fields #[.none,.none,.int (-1) t]} p
   refine tail_any (ZM p4).typeIs slot_list_getitem.lookup ?_ (show subscripted _ false _ _=operate [_,_] _ from rfl)
   refine wpAny_getItem_list_slice (vl:=.none) (vu:=.none) (vs:=.int (-1) t) (ZM p4) ⟨_,Heap.get?_push_size _ rfl,rfl,rfl⟩ .none .none (.int _ _) (by decide) ?_ (by rw[List.size_toArray,←r.length];exact Nat.le_trans hz (by decide))
   rw[krv_pick]
   obtain⟨g4,S5,l5,v⟩:=S4.newFixL (n:=0) r.reverse
   exact hQ _ _ _ g4 _ ((l1.trans l2).trans l5) v (S2.turn l5 S5 fun q_ e=>Heap.get?_push_of_some _ (Heap.get?_push_of_some _ e)) q)))))
theorem Big.c_where(G:Big σ₀ σ k A B)(hl:B.d.cs.length≤1000):Zd 6 (.ref 217) [.ref A.b.D] σ (fun x σ'=>x=.lst (.int B.m.rip::B.d.cs.reverse.map fun p=>.int p.1)∧σ'=σ) noX:=by
 refine Zc (d:=5) ["self"] UH (fun P=>by kernel_rfl) Zf (Yj fun x=>rfl) rfl rfl rfl fun N=>?_
 refine Zg rfl ?_
 refine Zn (Q3 ?_)
 refine Qt ?_
 refine ZN ?_
 walk_at "w"
 refine⟨_,_,_,Za G.dbg,Zm,rfl,rfl,?_⟩
 refine⟨_,_,_,Za G.mst.st,ZL,rfl,rfl,?_⟩
 walk_at "w"
 refine⟨nB rfl,?_⟩
 refine UY rfl (.inr rfl) (fun q_ q_=>rfl) rfl rfl (by decide) (by decide+kernel) (Ur (Oy ?_))
 walk_at "w"
 refine⟨_,_,_,Za G.dbg,ZB,rfl,rfl,?_⟩
 refine Jw ?_
 walk_at "w"
 refine⟨_,rfl,?_⟩
 refine⟨_,G.dC,by rw[List.length_map];exact Nat.le_trans (by assumption) (by decide),rfl,?_⟩
 refine⟨_,rfl,rfl,by rw[List.length_reverse,List.length_map];exact hl,tAt 0,?_,?_⟩
 ·intro v hv
  obtain⟨w,hw1,rfl⟩:=List.mem_map.mp (List.mem_reverse.mp hv)
  refine Q6 rfl rfl rfl (fun q_=>rfl) ?_
  refine Zy (Zg rfl (Zy (Zg rfl ⟨rfl,rfl,Zs ?_⟩)))
  walk_at "w"
  exact⟨rfl,rfl⟩
 ·refine⟨_,_,rfl,rfl,?_,?_,rfl⟩
  ·rw[←List.map_reverse,List.filterMap_map]
   have:=List.length_filterMap_le (tAt 0∘fun p:Int×Int=>V.tup [.int p.1,.int p.2]) B.d.cs.reverse
   rw[List.length_reverse]at this
   exact Nat.le_trans (Nat.add_le_add_left (Nat.le_trans this hl) 1) (by decide)
  ·rw[←List.map_reverse,List.filterMap_map]
   exact congrArg (fun z=>V.lst (.int B.m.rip::z)) (List.filterMap_eq_map' (f:=fun p:Int×Int=>V.int p.1)▸rfl)
noncomputable def frs(rd:Int→Int):Nat→Int→List Int
 |0,_=>[]
 |n+1,b=>if b=0 then []else rd (b+8)::frs rd n (if b<rd b then rd b else 0)
theorem Om{rd:Int→Int}{n:Nat}{b:Int}(h:b≠0):frs rd (n+1) b=rd (b+8)::frs rd n (if b<rd b then rd b else 0):=by
 rw[frs,if_neg h]
noncomputable abbrev Yg(l:List Int):List V:=l.map V.int
theorem Bq(l:List Int)(x:Int):Yg l++[V.int x]=Yg (l++[x]):=by
 show _=List.map _ (l++[x])
 rw[List.map_append];rfl
inductive JBt(σ₁:Hp)(A:BA)(B:BS)(F:Addr)(n:Nat)(z:Nat)(ρ':Loc)(σ':Hp):Prop
 |mk (l:_) (b:_) (h1:Yt [("self",.ref A.b.D),("most",.int n),("found",.ref F),("base",.int b)] ρ') (h2:σ'={σ₁ with ls:=up σ₁.ls F (some (Yg l))}) (h3:0<l.length) (h4:z=n+1-l.length) (h5:l.length≤n+1) (h6:l++frs (fun p=>mread B.m.mem p 8) (n+1-l.length) b=B.m.rip::frs (fun p=>mread B.m.mem p 8) n (reg B.m 5)):JBt σ₁ A B F n z ρ' σ'
theorem Big.c_backtrace(G:Big σ₀ σ k A B){n:Nat}(hn:n≤100):Zd 6 (.ref 224) [.ref A.b.D,.int n] σ (fun x σ'=>x=.lst (Yg (B.m.rip::frs (fun p=>mread B.m.mem p 8) n (reg B.m 5)))∧σ'=σ) noX:=by
 refine Zd.weakQ (Zd.fixL ?_)
 refine Zc (d:=5) ["self","most"] QL (fun P=>by kernel_rfl) Zf (ZH fun x y=>rfl) rfl rfl rfl fun N=>?_
 walk_at "w"
 refine JR (names:=["found","base"]) ?_ rfl (fun q_ q_ q_ q_ q_ q_ q_ q_=>rfl)
 refine Zx ?_
 refine Zh (YE ?_) rfl
 walk_at "w"
 refine⟨_,_,_,Za G.dbg,Zm,rfl,rfl,?_⟩
 refine⟨_,_,_,Za G.mst.st,ZL,rfl,rfl,?_⟩
 walk_at "w"
 refine⟨nB rfl,fun F hF=>?_⟩
 have hle:σ.Le {σ with ls:=up σ.ls F (some [V.int B.m.rip])}:=(Hp.Le.refl σ).nl hF _
 have G1:=G.grow hle
 refine Zh (Zp ?_) rfl
 walk_at "w"
 refine⟨_,_,_,Za G1.dbg,Zm,rfl,rfl,?_⟩
 refine⟨_,_,_,Za G1.mst.st,Z0,rfl,rfl,?_⟩
 refine Zw rfl ZbT rfl rfl ?_
 refine⟨_,_,5,_,G1.mst.rs,rfl,YC G.mst.ok (by decide),YD G.mst.ok (by decide),?_⟩
 walk_at "w"
 refine⟨nB rfl,_,rfl,rfl,?_⟩
 walk_at "w"
 obtain⟨σ₁,rfl⟩:∃x,x=σ:=⟨_,rfl⟩
 refine U8 (JBt σ₁ A B F n) _ ⟨[B.m.rip],_,⟨rfl,rfl,rfl,rfl,trivial⟩,rfl,by simp,rfl,by simp,rfl⟩ ?_
 rintro z ρ' σ' ⟨l,b,hsub,rfl,hpos,rfl,hl,hfr⟩
 refine⟨_,hsub,?_⟩
 have G2:=G.grow ((Hp.Le.refl σ₁).nl hF (some (Yg l)))
 refine WT.mono (Q:=fun t σ'=>σ'=({σ₁ with ls:=up σ₁.ls F (some (Yg l))}:Hp)∧t=(b !=0&&decide (l.length≤n))) ?_ ?_
 ·refine ZY (ZE (Zq (Zl ?_ rfl) rfl))
  walk_at "w"
  refine⟨_,_,_,rfl,rfl,rfl,_,rfl,?_⟩
  refine Z7 (fun q=>ZE (Zq (Zl ?_ rfl) rfl)) fun q=>⟨rfl,by rw[q];rfl⟩
  walk_at "w"
  refine Z4 rfl rfl rfl rfl YT YU trivial ?_
  walk_at "w"
  refine YX (up_self ..) (by rw[List.length_map];lia) ?_
  walk_at "w"
  refine⟨_,_,_,rfl,rfl,rfl,_,rfl,?_⟩
  rw[List.length_map]
  have e:decide ((l.length:Int)≤n)=decide (l.length≤n):=by simp
  refine Z7 (fun q2=>Ym ⟨rfl,by rw[q,←e,q2];rfl⟩) fun q2=>⟨rfl,by rw[q,←e,q2];rfl⟩
 rintro t σ2 ⟨rfl,rfl⟩
 refine Z7 (fun q=>?_) fun q=>?_
 ·simp only[Bool.and_eq_true,bne_iff_ne,decide_eq_true_eq]at q
  obtain⟨q1,q2⟩:=q
  obtain⟨t,ht⟩:∃t,n+1-l.length=t+1:=⟨n-l.length,Nat.succ_sub q2⟩
  rw[ht]at hfr
  rw[Om q1]at hfr
  walk_at "w"
  refine ZC rfl rfl ?_
  walk_at "w"
  refine⟨_,_,Yb PySem.F.slot_list_append PySem.F.type_list_append (up_self ..),trivial,?_⟩
  walk_at "w"
  refine Zj rfl rfl ?_
  walk_at "w"
  refine⟨_,_,_,Za G2.dbg,Zm,rfl,rfl,?_⟩
  refine⟨_,_,_,Za G2.mst.st,Yh,rfl,rfl,?_⟩
  refine⟨_,_,_,Za G2.mst.me.is,YM,rfl,?_⟩
  walk_at "w"
  refine⟨_,_,_,rfl,rfl,rfl,?_⟩
  walk_at "w"
  refine(W3 (n:=8) G2.mst.me (by decide)).e (nB rfl) ?_
  walk_at "w"
  refine Yo (up_self ..) (by rw[List.length_map];exact Nat.le_trans (by assumption) (Nat.le_trans (by assumption) (by decide))) ?_
  simp only[ZQ]
  rw[Bq]
  have G3:=G.grow ((Hp.Le.refl σ₁).nl hF (some (Yg (l++[mread B.m.mem (b+8) 8]))))
  walk_at "w"
  refine Zj rfl rfl ?_
  walk_at "w"
  refine⟨_,_,_,Za G3.dbg,Zm,rfl,rfl,?_⟩
  refine⟨_,_,_,Za G3.mst.st,Yh,rfl,rfl,?_⟩
  refine⟨_,_,_,Za G3.mst.me.is,YM,rfl,?_⟩
  walk_at "w"
  refine(W3 (n:=8) G3.mst.me (by decide)).e (nB rfl) ?_
  walk_at "w"
  refine UQ (Zq (Zl ?_ rfl) rfl)
  walk_at "w"
  refine⟨_,_,_,rfl,rfl,rfl,_,rfl,?_⟩
  have key:∀b',b'=(if b<mread B.m.mem b 8 then mread B.m.mem b 8 else 0)→Zaq (JBt σ₁ A B F n) (n+1-l.length) (aset (aset [("self",.ref A.b.D),("most",.int n),("found",.ref F),("base",.int b)] "older" (.int (mread B.m.mem b 8))) "base" (.int b')) ({σ₁ with ls:=up σ₁.ls F (some (Yg (l++[mread B.m.mem (b+8) 8])))}:Hp):=by
   rintro b' rfl
   refine⟨n+1-(l++[mread B.m.mem (b+8) 8]).length,?_,l++[mread B.m.mem (b+8) 8],_,⟨rfl,rfl,rfl,rfl,trivial⟩,rfl,by simp,rfl,?_,?_⟩
   ·rw[List.length_append,List.length_singleton];exact Nat.pred_lt (fun e=>absurd (ht.symm.trans e) (Nat.succ_ne_zero t))
   ·rw[List.length_append,List.length_singleton];exact Nat.succ_le_succ q2
   ·rw[List.length_append,List.length_singleton,show n+1-(l.length+1)=t from congrArg Nat.pred ht,←hfr,List.append_assoc]
    rfl
  refine VB (fun q3=>?_) fun q3=>?_
  ·walk_at "w"
   exact key _ (if_pos q3).symm
  ·walk_at "w"
   exact key _ (if_neg q3).symm
 ·have hfin:l=B.m.rip::frs (fun p=>mread B.m.mem p 8) n (reg B.m 5):=by
   rw[←hfr]
   by_cases q2:l.length≤n
   ·have q1:b=0:=by simpa [q2]using q
    obtain⟨t,ht⟩:∃t,n+1-l.length=t+1:=⟨n-l.length,Nat.succ_sub q2⟩
    rw[ht,frs,if_pos q1,List.append_nil]
   ·rw[show n+1-l.length=0 from Nat.sub_eq_zero_of_le (Nat.lt_of_not_le q2),frs,List.append_nil]
  walk_at "w"
  exact⟨F,_,rfl,up_self ..,σ₁,((Hp.Le.refl σ₁).nl hF _).nl hF none,by rw[hfin],rfl⟩
end
end
section
section
variable{σ₀ σ τ:Hp}{k:BK}{A:BA}{B:BS}{c:Ctx}{d:Nat}{ρ:Loc}{X:Addr→Loc→Hp→Prop}
theorem Big.c_stack_rows(G:Big σ₀ σ k A B){N:Nat}(hN:N≤100):Zd 6 (.ref 229) [.ref A.b.D,.int N] σ (fun x σ'=>x=.lst ((List.range N).map fun(i:Nat)=>.tup [.int (reg B.m 4+8*i),.int (mread B.m.mem (reg B.m 4+8*i) 8)])∧σ'=σ) noX:=by
 refine Zd.weakQ ?_
 refine Yq (d:=5) (ns:=["self","count"]) Jn (fun P=>by kernel_rfl) rfl Zf (ZH fun x y=>rfl) rfl fun n hn=>?_
 rw[show cellsσ (n+1) Jn.scope.names σ={σ with cs:=up (up σ.cs (n+1) (some none)) (n+2) (some none)}from rfl]
 have hc1:=(hn (n+1) (Nat.le_succ n)).cs
 have hc2:=(hn (n+2) (Nat.le_add_right n 2)).cs
 have h12:n+1≠n+2:=Nat.ne_of_lt (Nat.lt_succ_self (n+1))
 refine ZP rfl rfl ((Ze _ _ h12).trans (up_self ..)) (Zg rfl ?_)
 refine WS.gen fun τ1 e1=>?_
 have f1:τ1.cs (n+1)=some (some (.ref A.b.D)):=by rw[e1];exact up_self ..
 have f2:τ1.cs (n+2)=some none:=by rw[e1];exact(Ze _ _ h12.symm).trans (up_self ..)
 have l1:σ.Le τ1:=by rw[e1];exact(((Hp.Le.refl σ).nc hc1 _).nc hc2 _).nc hc1 _
 have G1:=G.grow l1
 walk_at "w"
 refine Zp ?_
 refine ZS (ZS (Zo rfl rfl f1 rfl ?_) rfl) rfl
 refine⟨_,_,_,Za G1.dbg,Zm,rfl,rfl,?_⟩
 refine⟨_,_,_,Za G1.mst.st,Z0,rfl,rfl,?_⟩
 refine Zw rfl YO rfl rfl ?_
 refine⟨_,_,4,_,G1.mst.rs,rfl,YC G.mst.ok (by decide),YD G.mst.ok (by decide),?_⟩
 refine ZP rfl rfl f2 ?_
 refine WS.gen fun τ2 e2=>?_
 have g1:τ2.cs (n+1)=some (some (.ref A.b.D)):=by rw[e2];exact(Ze _ _ h12).trans f1
 have g2:τ2.cs (n+2)=some (some (.int (reg B.m 4))):=by rw[e2];exact up_self ..
 have l2:σ.Le τ2:=by rw[e2];exact l1.nc hc2 _
 have G2:=G.grow l2
 walk_at "w"
 refine UY rfl (.inl rfl) (fun q_ q_=>rfl) rfl rfl (by decide) (by decide+kernel) (Y9 (YH rfl JD JE rfl ⟨rfl,?_⟩) rfl)
 walk_at "w"
 refine⟨N,rfl,by exact Nat.lt_of_le_of_lt (by assumption) (by decide),trivial,by rw[List.length_map,List.length_range];exact Nat.le_trans (by assumption) (by decide),fun v=>some (.tup [.int (reg B.m 4+8*iAt v),.int (mread B.m.mem (reg B.m 4+8*iAt v) 8)]),?_,?_⟩
 ·intro v hv
  obtain⟨i,hi,rfl⟩:=List.mem_map.mp hv
  have hi:=List.mem_range.mp hi
  refine Zy (Zg rfl ⟨rfl,rfl,Zs ?_⟩)
  refine Zx ?_
  walk_at "w"
  refine Zo rfl rfl g2 rfl ?_
  walk_at "w"
  refine⟨_,_,_,rfl,rfl,Y3 (by decide) (by exact Nat.lt_of_lt_of_le (Nat.lt_of_lt_of_le (by assumption) (by assumption)) (by decide)),?_⟩
  refine⟨_,_,_,rfl,rfl,rfl,?_⟩
  walk_at "w"
  refine Zj rfl rfl ?_
  refine ZS (ZS (Zo rfl rfl g1 rfl ?_) rfl) rfl
  refine⟨_,_,_,Za G2.dbg,Zm,rfl,rfl,?_⟩
  refine⟨_,_,_,Za G2.mst.st,Yh,rfl,rfl,?_⟩
  refine⟨_,_,_,Za G2.mst.me.is,YM,rfl,?_⟩
  walk_at "w"
  refine Zo rfl rfl g2 rfl ?_
  walk_at "w"
  refine⟨_,_,_,rfl,rfl,Y3 (by decide) (by exact Nat.lt_of_lt_of_le (Nat.lt_of_lt_of_le (by assumption) (by assumption)) (by decide)),?_⟩
  refine⟨_,_,_,rfl,rfl,rfl,?_⟩
  walk_at "w"
  refine(W3 (n:=8) G2.mst.me (by decide)).e (nB rfl) ?_
  walk_at "w"
  exact⟨nB rfl,rfl,rfl⟩
 ·refine⟨σ,l2,congrArg V.lst ?_,rfl⟩
  rw[List.filterMap_map]
  exact List.filterMap_eq_map' (f:=fun(i:Nat)=>V.tup [.int (reg B.m 4+8*(i:Int)),.int (mread B.m.mem (reg B.m 4+8*(i:Int)) 8)])▸rfl
theorem VA(p:List (Int×Int))(x:Int):aget (ZI p) x=(aget p x).map V.int:=BW V.int x p
noncomputable def met(pts:List (Int×Int))(rip:Int):Bool×List (Int×Int):=match aget pts rip with
 |none=>(false,pts)
 |some v=>if 0<v then(false,aset pts rip (v-1))else(v==0,pts)
theorem Big.c_is_met(G:Big σ₀ σ k A B)(hz:B.d.pts.length≤1000):Zd 6 (.ref 163) [.ref A.b.D] σ (fun x σ'=>x=.bool (met B.d.pts B.m.rip).1∧Big σ₀ σ' k A {B with d:={B.d with pts:=(met B.d.pts B.m.rip).2}}) noX:=by
 refine Zc (d:=5) ["self"] U5 (fun P=>by kernel_rfl) Zf (Yj fun x=>rfl) rfl rfl rfl fun N=>?_
 walk_at "w"
 refine ZC rfl rfl ?_
 walk_at "w"
 refine⟨_,_,_,Za G.dbg,Yv,rfl,rfl,?_⟩
 refine⟨_,_,Ua PySem.F.slot_dict_get PySem.F.type_dict_get G.dP,trivial,?_⟩
 walk_at "w"
 refine⟨_,_,_,Za G.dbg,Zm,rfl,rfl,?_⟩
 refine⟨_,_,_,Za G.mst.st,ZL,rfl,rfl,?_⟩
 walk_at "w"
 refine Jw ?_
 walk_at "w"
 refine⟨_,rfl,?_⟩
 walk_at "w"
 refine Ki G.dP ?_
 rw[VA]
 unfold met
 cases hp:aget B.d.pts B.m.rip with
 |none=>
  walk_at "w"
  refine Zq (Zl ?_ rfl) rfl
  walk_at "w"
  refine⟨_,_,_,rfl,rfl,rfl,_,rfl,?_⟩
  refine Zk ?_
  walk_at "w"
  refine Zl ?_ rfl
  walk_at "w"
  exact⟨_,_,_,rfl,rfl,rfl,rfl,G⟩
 |some v=>
  walk_at "w"
  refine Zq (Zl ?_ rfl) rfl
  walk_at "w"
  refine⟨_,_,_,rfl,rfl,rfl,_,rfl,?_⟩
  refine VB (fun q=>?_) fun q=>?_
  ·walk_at "w"
   refine Qs ?_
   walk_at "w"
   refine⟨_,_,_,rfl,rfl,rfl,?_⟩
   walk_at "w"
   refine⟨_,_,_,Za G.dbg,Yv,rfl,rfl,?_⟩
   walk_at "w"
   refine⟨_,_,_,Za G.dbg,Zm,rfl,rfl,?_⟩
   refine⟨_,_,_,Za G.mst.st,ZL,rfl,rfl,?_⟩
   refine⟨_,_,_,rfl,G.dP,rfl,by rw[ZI,List.length_map];exact Nat.le_trans (by assumption) (by decide),?_⟩
   rw[Vf]
   refine WS.big G.setP fun τ G2=>?_
   walk_at "w"
   refine Zl ?_ rfl
   walk_at "w"
   refine⟨_,_,_,rfl,rfl,rfl,?_,?_⟩
   ·simp only[q,if_true]
    have:(v==0)=false:=by simp;lia
    rw[this]
   ·simp only[q,if_true]
    exact G2
  ·walk_at "w"
   refine Zl ?_ rfl
   walk_at "w"
   refine⟨_,_,_,rfl,rfl,rfl,?_,?_⟩
   ·simp only[q,if_false]
   ·simp only[q,if_false]
    exact G
end
end
section
section
variable{σ₀ σ τ:Hp}{k:BK}{A:BA}{B:BS}{c:Ctx}{d:Nat}{ρ:Loc}{X:Addr→Loc→Hp→Prop}
theorem Xf{e i j:Expr}{p1 p2:Pos}{Q:V→Hp→Prop}{l:List (Int×Int)}{x:Int×Int}(hl:l.length≤1000)(t:Bool)
  (h:WE c d e ρ σ (fun a σ1=>WE c d i ρ σ1 (fun b σ2=>ZV σ2 a=some (Zr (l++[x]))∧b=.int (-1)∧WE c d j ρ σ2 (fun u σ3=>u=.int (if t then 1 else 0)∧Q (.int (if t then x.2 else x.1)) σ3) X) X) X):WE c d (.Subscript (.Subscript e i p1) j p2) ρ σ Q X:=
 Z8 (Zp (WE.mono h fun a σ1 h1=>WE.mono h1 fun b σ2 ⟨e1,e2,h2⟩=>⟨_,-1,l.length,_,e1,e2,Qy hl,Vb,WE.mono h2 fun u σ3 ⟨e3,q⟩=>by
  cases t
  ·exact⟨_,0,0,_,rfl,e3,rfl,rfl,q⟩
  ·exact⟨_,1,1,_,rfl,e3,rfl,rfl,q⟩⟩))
inductive JRt(σ₀:Hp)(k:BK)(A:BA)(B:BS)(top:Int)(n:Nat)(ρ':Loc)(σ':Hp):Prop
 |mk (cs':_) (h1:n=cs'.length) (h2:JX (reg B.m 4) cs'=JX (reg B.m 4) B.d.cs) (h3:cs'.length≤500) (h4:Yt [("self",.ref A.b.D)] ρ') (h5:Big σ₀ σ' k A {B with d:={B.d with cs:=cs',bs:=Qw top B.m.rip B.d.cs B.d.bs}}):JRt σ₀ k A B top n ρ' σ'
theorem Big.c_returned(G:Big σ₀ σ k A B){top:Int}(hc:B.d.cs.length≤500)(hb:B.d.bs.length≤500):Zd 6 (.ref 170) [.ref A.b.D,.int top] σ (fun x σ'=>x=.none∧Big σ₀ σ' k A {B with d:={B.d with cs:=JX (reg B.m 4) B.d.cs,bs:=Qw top B.m.rip B.d.cs B.d.bs}}) noX:=by
 refine Zc (d:=5) ["self","top"] QX (fun P=>by kernel_rfl) Zf (ZH fun x y=>rfl) rfl rfl rfl fun N=>?_
 refine Zg rfl (Zg rfl (Zn ?_))
 refine Zbo (fun ρ' σ'=>Yt [("self",.ref A.b.D),("top",.int top)] ρ'∧Big σ₀ σ' k A {B with d:={B.d with bs:=Qw top B.m.rip B.d.cs B.d.bs}}) ?_ ?_
 ·refine ZY (ZE (Kd ?_ rfl))
  walk_at "w"
  refine⟨_,_,_,Za G.dbg,ZB,rfl,rfl,?_⟩
  refine ZN (ZW ⟨nB rfl,_,G.dC,QJ _ 18,rfl,?_⟩)
  rcases List.eq_nil_or_concat B.d.cs with q| ⟨L,z,q⟩
  ·rw[q]
   refine Zk ?_
   refine Zk ⟨⟨rfl,rfl,trivial⟩,?_⟩
   exact G
  rw[List.concat_eq_append]at q
  have hL:L.length≤500:=by rw[q,List.length_append]at hc;exact Nat.le_of_lt (by assumption)
  have hr:Qw top B.m.rip B.d.cs B.d.bs=if z.2=top∧z.1≠B.m.rip then B.d.bs++[(z.1,B.m.rip)]else B.d.bs:=by
   unfold Qw;rw[q,List.getLast?_concat]
  have hC:=G.dC
  rw[q]at hC
  rw[show(!(Zr B.d.cs).isEmpty)=true from by rw[q];simp]
  refine Zs ?_
  refine(ZE (Zq (Zl ?_ rfl) rfl))
  refine Xf (l:=L) (x:=z) (by exact Nat.le_trans (by assumption) (by decide)) true ?_
  walk_at "w"
  refine⟨_,_,_,Za G.dbg,ZB,rfl,rfl,?_⟩
  refine Jw ?_
  walk_at "w"
  refine⟨_,rfl,hC,rfl,?_⟩
  walk_at "w"
  refine⟨rfl,?_⟩
  walk_at "w"
  refine⟨_,_,_,rfl,rfl,rfl,_,rfl,?_⟩
  refine Z7 (fun q3=>?_) fun q3=>Zk ⟨⟨rfl,rfl,trivial⟩,?_⟩
  rotate_left
  ·rw[hr,if_neg (fun h=>by simp[h.1]at q3)];exact G
  refine(ZE (Zq (Zl ?_ rfl) rfl))
  refine Xf (l:=L) (x:=z) (by exact Nat.le_trans (by assumption) (by decide)) false ?_
  walk_at "w"
  refine⟨_,_,_,Za G.dbg,ZB,rfl,rfl,?_⟩
  refine Jw ?_
  walk_at "w"
  refine⟨_,rfl,hC,rfl,?_⟩
  walk_at "w"
  refine⟨rfl,?_⟩
  walk_at "w"
  refine⟨_,_,_,Za G.dbg,Zm,rfl,rfl,?_⟩
  refine⟨_,_,_,Za G.mst.st,ZL,rfl,rfl,?_⟩
  refine⟨_,_,_,rfl,rfl,rfl,_,rfl,?_⟩
  refine Z7 (fun q4=>Ym (Zs ?_)) fun q4=>Zk ⟨⟨rfl,rfl,trivial⟩,?_⟩
  rotate_left
  ·rw[hr,if_neg (fun h=>by simp[h.2]at q4)];exact G
  walk_at "w"
  refine ZC rfl rfl ?_
  walk_at "w"
  refine⟨_,_,_,Za G.dbg,U3,rfl,rfl,?_⟩
  refine⟨_,_,Yb PySem.F.slot_list_append PySem.F.type_list_append G.dB,trivial,?_⟩
  refine Zh (Zx ?_) rfl
  refine Zh (Xf (l:=L) (x:=z) (by exact Nat.le_trans (by assumption) (by decide)) false ?_) rfl
  walk_at "w"
  refine⟨_,_,_,Za G.dbg,ZB,rfl,rfl,?_⟩
  refine Jw ?_
  walk_at "w"
  refine⟨_,rfl,hC,rfl,?_⟩
  walk_at "w"
  refine⟨rfl,?_⟩
  walk_at "w"
  refine⟨_,_,_,Za G.dbg,Zm,rfl,rfl,?_⟩
  refine⟨_,_,_,Za G.mst.st,ZL,rfl,rfl,?_⟩
  walk_at "w"
  refine⟨nB rfl,?_⟩
  walk_at "w"
  refine Yo G.dB (by rw[List.length_map];exact Nat.le_trans (by assumption) (by decide)) ?_
  rw[show(Zr B.d.bs++[V.tup [.int (if false=true then z.2 else z.1),.int B.m.rip]])=Zr (B.d.bs++[(z.1,B.m.rip)])from Qm ..]
  walk_at "w"
  refine⟨⟨rfl,rfl,trivial⟩,?_⟩
  rw[hr,if_pos ⟨by simpa using q3,by simpa using q4⟩]
  exact G.setB
 rintro ρ2 σ2 ⟨hs2,G2⟩
 refine WS.view hs2 ?_
 walk_at "w"
 refine U8 (JRt σ₀ k A B top) _ ⟨B.d.cs,rfl,rfl,hc,⟨rfl,trivial⟩,G2⟩ ?_
 rintro n ρ' σ' ⟨cs',rfl,hp,hl2,hs3,G3⟩
 refine⟨_,hs3,?_⟩
 refine WT.mono (Q:=fun b σ1=>σ1=σ'∧(if b=true then ∃L z,cs'=L++[z]∧z.2<reg B.m 4 else JX (reg B.m 4) cs'=cs')) ?_ ?_
 ·refine ZY (ZE (Kd ?_ rfl))
  walk_at "w"
  refine⟨_,_,_,Za G3.dbg,ZB,rfl,rfl,?_⟩
  refine ZN (ZW ⟨nB rfl,_,G3.dC,QJ _ 18,rfl,?_⟩)
  rcases List.eq_nil_or_concat cs' with rfl| ⟨L,z,rfl⟩
  ·exact Zk ⟨rfl,Zk rfl⟩
  rw[List.concat_eq_append]at*
  have hL:L.length≤500:=by rw[List.length_append]at hl2;exact Nat.le_of_lt (by assumption)
  rw[show(!(Zr (L++[z])).isEmpty)=true from by simp]
  refine Zs ?_
  refine(ZE (Zq (Zl ?_ rfl) rfl))
  refine Xf (l:=L) (x:=z) (by exact Nat.le_trans (by assumption) (by decide)) true ?_
  walk_at "w"
  refine⟨_,_,_,Za G3.dbg,ZB,rfl,rfl,?_⟩
  refine Jw ?_
  walk_at "w"
  refine⟨_,rfl,G3.dC,rfl,?_⟩
  walk_at "w"
  refine⟨rfl,?_⟩
  refine Zp ?_
  walk_at "w"
  refine⟨_,_,_,Za G3.dbg,Zm,rfl,rfl,?_⟩
  refine⟨_,_,_,Za G3.mst.st,Z0,rfl,rfl,?_⟩
  refine Zw rfl YO rfl rfl ?_
  refine⟨_,_,4,_,G3.mst.rs,rfl,YC G3.mst.ok (by decide),YD G3.mst.ok (by decide),?_⟩
  refine⟨_,_,_,rfl,rfl,rfl,_,rfl,?_⟩
  refine VB (fun q6=>Ym ⟨rfl,Zs ⟨L,z,rfl,q6⟩⟩) fun q6=>⟨rfl,Zk ?_⟩
  rw[V9]
  exact if_neg q6
 rintro b σ1 ⟨rfl,q5⟩
 cases b with
 |true=>
  refine Zs ?_
  obtain⟨L,z,rfl,q6⟩:=q5
  walk_at "w"
  refine ZC rfl rfl ?_
  walk_at "w"
  refine⟨_,_,_,Za G3.dbg,ZB,rfl,rfl,?_⟩
  refine⟨_,_,Yb PySem.F.slot_list_pop PySem.F.type_list_pop G3.dC,trivial,?_⟩
  walk_at "w"
  have hC:σ1.ls A.b.C=some (Zr L++[.tup [.int z.1,.int z.2]]):=G3.dC.trans (congrArg some (Qm ..).symm)
  refine ZfT hC (by rw[List.length_map];rw[List.length_append]at hl2;exact Nat.le_trans (Nat.le_of_lt (by assumption)) (by decide)) ?_
  walk_at "w"
  exact⟨L.length,by simp,L,rfl,by rw[←hp,V9,if_pos q6],by rw[List.length_append]at hl2;exact Nat.le_of_lt (by assumption),⟨rfl,trivial⟩,G3.setC⟩
 |false=>
  refine Zk ?_
  simp only[Bool.false_eq_true,if_false]at q5
  walk_at "w"
  refine⟨rfl,?_⟩
  rw[←hp,q5]
  exact G3
end
end
section
section
variable{σ₀ σ τ:Hp}{k:BK}{A:BA}{B:BS}{c:Ctx}{d:Nat}{ρ:Loc}{X:Addr→Loc→Hp→Prop}
theorem Zcd(a:List Int):∀b:List Int,PyData.eqvAll (V.toDs (Yg a)) (V.toDs (Yg b))=(a==b):=by
 induction a with
 |nil=>
  intro b
  cases b with
  |nil=>rfl
  |cons y b=>show PyData.eqvAll [] (.int y::V.toDs (Yg b))=false;rw[PyData.eqvAll]<;>exact nofun
 |cons x a ih=>
  intro b
  cases b with
  |nil=>show PyData.eqvAll (.int x::V.toDs (Yg a)) []=false;rw[PyData.eqvAll]<;>exact nofun
  |cons y b=>
   show PyData.eqvAll (.int x::V.toDs (Yg a)) (.int y::V.toDs (Yg b))=_
   simp only[PyData.eqvAll,PyData.eqv,ih]
   rfl
theorem Zce(a b:List Int):PyData.eqv (V.lst (Yg a)).toD (V.lst (Yg b)).toD=(a==b):=by
 show PyData.eqv (.list (V.toDs (Yg a))) (.list (V.toDs (Yg b)))=_
 rw[PyData.eqv];exact Zcd a b
theorem Gp(l:List Int)(n:Nat):V.isD (n+1) (.lst (Yg l))=true:=Um (fun q_=>rfl) l
noncomputable def Y8(m:MS)(ws:List Nat):List Int:=ws.map fun(w:Nat)=>mread m.mem (32768-(w:Int)) w
theorem Dg(m:MS)(ws:List Nat):Zc0 m ws=Yg (Y8 m ws):=by
 show List.map _ ws=List.map V.int (List.map _ ws)
 rw[List.map_map];rfl
theorem Kt{t:Expr}{a b:List Stmt}{pos:Pos}{N:Loc→Hp→Prop}{R:V→Hp→Prop}(P:Loc→Hp→Prop)(h:WT c d t ρ σ (fun v σ1=>if v=true then WS c d a ρ σ1 P R X else WS c d b ρ σ1 P R X) X)(q:∀ρ' σ',P ρ' σ'→N ρ' σ'):WX c d (.If t a b pos) ρ σ N R X:=
 Ja (WT.mono h fun v σ1 h1=>by
  cases v<;>exact WG.mono h1 fun v ρ' σ' z=>by cases v with
    |none=>exact q _ _ z
    |some v=>exact z)
noncomputable def Uc(σ₀:Hp)(k:BK)(p:Prog):Prop:=∀σ a m,σ₀.Le σ→MSt σ a m→m.mem.length≤1000→Zd 14 (.lam k.adv) [.ref a.S] σ
  (Zan σ a m p) (Zam σ a m p)
noncomputable def dcb(m m':MS)(nm:Str)(cs bs:List (Int×Int)):CB:=
 if nm="call" then⟨cs++[(mread m'.mem (reg m' 4) 8,reg m' 4)],bs⟩else if nm="ret" then⟨JX (reg m' 4) cs,Qw (reg m 4) m'.rip cs bs⟩else⟨cs,bs⟩
noncomputable def dnext(B:BS)(i:Ins)(m':MS):BS:={B with m:=m',d:={B.d with cs:=(dcb B.m m' i.name B.d.cs B.d.bs).cs,bs:=(dcb B.m m' i.name B.d.cs B.d.bs).bs,count:=B.d.count+1,latest:=i.name}}
noncomputable def reason(ws:List Nat)(m m':MS):Str:=if Y8 m' ws=Y8 m ws then(if m'.halted then "halted" else "step")else "watch"
theorem Big.c_step(G:Big σ₀ σ k A B){p:Prog}(hp:∀q∈p,q.2.good)(HA:Uc σ₀ k p){n:Nat}(hI:Inv B.m n)(hn:n≤100)(hw:∀w∈B.d.ws,w≤1000)(hl:B.d.ws.length≤1000)(hc:B.d.cs.length≤500)(hb:B.d.bs.length≤500):
  Zd 16 (.ref 177) [.ref A.b.D] σ (fun x σ'=>(mstep p B.m=none∧x=.str "fault" ∧∃b y,Big σ₀ σ' k A {B with m:={B.m with begin:=b},d:={B.d with what:=y}})∨
   (∃i m',mstep p B.m=some (i,m')∧x=.str (reason B.d.ws B.m m')∧Big σ₀ σ' k A (dnext B i m'))) noX:=by
 refine Zc (d:=15) ["self"] Vq (fun P=>by kernel_rfl) Zf (Yj fun x=>rfl) rfl rfl rfl fun N=>?_
 walk_at "w"
 refine JR (names:=["before","top"]) ?_ rfl (fun q_ q_ q_ q_ q_ q_ q_ q_=>rfl)
 refine Zx ?_
 walk_at "w"
 refine Zj rfl rfl ?_
 walk_at "w"
 refine⟨_,_,_,Za G.dbg,J8,rfl,?_⟩
 walk_at "w"
 refine(G.c_seen hw hl).e (nB rfl) ?_
 rw[Dg]
 refine Zh (Zp ?_) rfl
 walk_at "w"
 refine⟨_,_,_,Za G.dbg,Zm,rfl,rfl,?_⟩
 refine⟨_,_,_,Za G.mst.st,Z0,rfl,rfl,?_⟩
 refine Zw rfl YO rfl rfl ?_
 refine⟨_,_,4,_,G.mst.rs,rfl,YC G.mst.ok (by decide),YD G.mst.ok (by decide),?_⟩
 walk_at "w"
 refine⟨nB rfl,_,rfl,rfl,?_⟩
 walk_at "w"
 refine Zcp rfl (.inl rfl) rfl DC rfl rfl ?_
 walk_at "w"
 refine ZC rfl rfl ?_
 walk_at "w"
 refine⟨_,_,Zak (Za G.dbg) J8.ga J8.gk X4 rfl rfl,trivial,?_⟩
 walk_at "w"
 refine⟨_,_,_,Za G.dbg,Zm,rfl,rfl,?_⟩
 walk_at "w"
 refine(HA σ A.a B.m G.le G.mst (by have:=hI.sz;lia)).w.mono (nB rfl) (fun v σ2 q=>?_) fun e σ2 q=>?_
 ·obtain⟨i,m',hm,rfl,rfl⟩:=q
  have hI':=hI.step hp (by exact Nat.le_trans (by assumption) (by decide)) hm
  have G2:=G.mac hI'.ok
  refine Zg rfl ?_
  walk_at "w"
  refine⟨_,_,_,Za G2.dbg,UE,rfl,rfl,?_⟩
  walk_at "w"
  refine⟨_,_,_,rfl,rfl,rfl,?_⟩
  walk_at "w"
  refine⟨_,_,_,_,_,rfl,G2.dbg,UD,rfl,?_⟩
  refine WS.big (G2.setD (n:=B.d.count+1) (la:=B.d.latest) (wh:=B.d.what)) fun τ G3=>?_
  walk_at "w"
  refine⟨_,_,_,rfl,Jm,rfl,rfl,?_⟩
  refine⟨_,_,_,rfl,Z1,rfl,rfl,?_⟩
  walk_at "w"
  refine⟨_,_,_,_,_,rfl,G3.dbg,U2,rfl,?_⟩
  refine WS.big (G3.setD (n:=B.d.count+1) (la:=i.name) (wh:=B.d.what)) fun τ G4=>?_
  refine Zn (Kt (fun ρ' σ'=>Yt [("self",.ref A.b.D),("before",.lst (Yg (Y8 B.m B.d.ws)))] ρ'∧Big σ₀ σ' k A (dnext B i m')) ?_ ?_)
  ·refine Z2 ?_ rfl
   walk_at "w"
   refine⟨_,_,_,Za G4.dbg,Jf,rfl,rfl,?_⟩
   walk_at "w"
   refine⟨_,_,rfl,rfl,?_⟩
   by_cases q1:i.name="call"
   ·rw[show((i.name:Str)=="call")=true from by simpa using q1]
    refine Zs ?_
    have e:dcb B.m m' i.name B.d.cs B.d.bs=⟨B.d.cs++[(mread m'.mem (reg m' 4) 8,reg m' 4)],B.d.bs⟩:=if_pos q1
    refine Zn (Y5 ?_ rfl)
    refine Zp ?_
    walk_at "w"
    refine⟨_,_,_,Za G4.dbg,Zm,rfl,rfl,?_⟩
    refine⟨_,_,_,Za G4.mst.st,Z0,rfl,rfl,?_⟩
    refine Zw rfl YO rfl rfl ?_
    refine⟨_,_,4,_,G4.mst.rs,rfl,YC hI'.ok (by decide),YD hI'.ok (by decide),?_⟩
    walk_at "w"
    refine ZC rfl rfl ?_
    walk_at "w"
    refine⟨_,_,_,Za G4.dbg,ZB,rfl,rfl,?_⟩
    refine⟨_,_,Yb PySem.F.slot_list_append PySem.F.type_list_append G4.dC,trivial,?_⟩
    walk_at "w"
    refine Zx ?_
    walk_at "w"
    refine Zj rfl rfl ?_
    walk_at "w"
    refine⟨_,_,_,Za G4.dbg,Zm,rfl,rfl,?_⟩
    refine⟨_,_,_,Za G4.mst.st,Yh,rfl,rfl,?_⟩
    refine⟨_,_,_,Za G4.mst.me.is,YM,rfl,?_⟩
    walk_at "w"
    refine(W3 (n:=8) G4.mst.me (by decide)).e (nB rfl) ?_
    walk_at "w"
    refine⟨nB rfl,?_⟩
    walk_at "w"
    refine Yo G4.dC (by rw[List.length_map];show B.d.cs.length≤_;exact Nat.le_trans (by assumption) (by decide)) ?_
    walk_at "w"
    refine⟨⟨rfl,rfl,trivial⟩,?_⟩
    rw[show dnext B i m'={B with m:=m',d:={B.d with cs:=B.d.cs++[(mread m'.mem (reg m' 4) 8,reg m' 4)],bs:=B.d.bs,count:=B.d.count+1,latest:=i.name}}from by rw[dnext,e]]
    have:=G4.setC (l:=B.d.cs++[(mread m'.mem (reg m' 4) 8,reg m' 4)])
    rw[←Qm]at this
    exact this
   ·rw[show((i.name:Str)=="call")=false from by simpa using q1]
    refine Zk ?_
    refine Zn (Ja ?_)
    refine Z2 ?_ rfl
    walk_at "w"
    refine⟨_,_,_,Za G4.dbg,Jf,rfl,rfl,?_⟩
    walk_at "w"
    refine⟨_,_,rfl,rfl,?_⟩
    by_cases q2:i.name="ret"
    ·rw[show((i.name:Str)=="ret")=true from by simpa using q2]
     refine Zs ?_
     have e:dcb B.m m' i.name B.d.cs B.d.bs=⟨JX (reg m' 4) B.d.cs,Qw (reg B.m 4) m'.rip B.d.cs B.d.bs⟩:=(if_neg q1).trans (if_pos q2)
     walk_at "w"
     refine Zj rfl rfl ?_
     walk_at "w"
     refine⟨_,_,_,Za G4.dbg,WI,rfl,?_⟩
     walk_at "w"
     refine(G4.c_returned hc hb).v (nB rfl) fun τ G5=>?_
     walk_at "w"
     refine⟨⟨rfl,rfl,trivial⟩,?_⟩
     rw[show dnext B i m'={B with m:=m',d:={B.d with cs:=JX (reg m' 4) B.d.cs,bs:=Qw (reg B.m 4) m'.rip B.d.cs B.d.bs,count:=B.d.count+1,latest:=i.name}}from by rw[dnext,e]]
     exact G5
    ·rw[show((i.name:Str)=="ret")=false from by simpa using q2]
     refine Zk ?_
     have e:dcb B.m m' i.name B.d.cs B.d.bs=⟨B.d.cs,B.d.bs⟩:=(if_neg q1).trans (if_neg q2)
     walk_at "w"
     refine⟨⟨rfl,rfl,trivial⟩,?_⟩
     rw[show dnext B i m'={B with m:=m',d:={B.d with count:=B.d.count+1,latest:=i.name}}from by rw[dnext,e]]
     exact G4
  rintro ρ2 σ2 ⟨hs2,G5⟩
  refine WS.view hs2 ?_
  refine Zn (Ja (Zq (UX (ne:=true) ?_ rfl) rfl))
  refine Zj rfl rfl ?_
  walk_at "w"
  refine⟨_,_,_,Za G5.dbg,J8,rfl,?_⟩
  walk_at "w"
  refine(G5.c_seen hw hl).e (nB rfl) ?_
  rw[Dg]
  walk_at "w"
  refine⟨Gp _ 19,Gp _ 19,_,rfl,?_⟩
  have e1:deref σ2 (V.lst (Yg (Y8 m' B.d.ws)))=.lst (Yg (Y8 m' B.d.ws)):=rfl
  have e2:deref σ2 (V.lst (Yg (Y8 B.m B.d.ws)))=.lst (Yg (Y8 B.m B.d.ws)):=rfl
  simp only[if_true]
  rw[show(dnext B i m').m=m' from rfl,show(dnext B i m').d.ws=B.d.ws from rfl,e1,e2,Zce]
  by_cases q3:Y8 m' B.d.ws=Y8 B.m B.d.ws
  ·rw[q3,show(!(Y8 B.m B.d.ws==Y8 B.m B.d.ws))=false from by simp]
   refine Zk ?_
   walk_at "w"
   refine UQ (Yl ?_ rfl)
   walk_at "w"
   refine⟨_,_,_,Za G5.dbg,Zm,rfl,rfl,?_⟩
   refine⟨_,_,_,Za G5.mst.st,Je,rfl,rfl,?_⟩
   refine⟨_,rfl,?_⟩
   refine Z7 (fun q4=>?_) fun q4=>?_
   ·walk_at "w"
    refine .inr ⟨i,m',hm,?_,G5⟩
    unfold reason
    rw[if_pos q3,if_pos (show m'.halted=true from q4)]
   ·walk_at "w"
    refine .inr ⟨i,m',hm,?_,G5⟩
    unfold reason
    rw[if_pos q3,if_neg (by rw[show m'.halted=false from q4];decide)]
  ·rw[show(!(Y8 m' B.d.ws==Y8 B.m B.d.ws))=true from by simpa using q3]
   refine Zs ?_
   walk_at "w"
   refine .inr ⟨i,m',hm,?_,G5⟩
   unfold reason
   rw[if_neg q3]
 ·obtain⟨hm,b,dd,y,he,hle⟩:=q
  have G2:=(G.mac (m:={B.m with begin:=b}) (hI.ok.rip _ _ _)).grow hle
  refine⟨dd,_,he,?_⟩
  refine Zn (YV ?_)
  refine ZdW ?_ (fun q_=>rfl)
  walk_at "w"
  refine⟨e,dd,.str y,rfl,he,rfl,?_⟩
  walk_at "w"
  refine⟨_,_,_,_,_,rfl,G2.dbg,UZ,rfl,?_⟩
  refine WS.big (G2.setD (n:=B.d.count) (la:=B.d.latest) (wh:=y)) fun τ G3=>?_
  walk_at "w"
  exact .inl ⟨hm,rfl,b,y,G3⟩
end
end
section
section
variable{σ₀ σ τ:Hp}{k:BK}{A:BA}{B:BS}{c:Ctx}{d:Nat}{ρ:Loc}{X:Addr→Loc→Hp→Prop}
set_option tactic.hygienic true in
theorem Ob(pts:List (Int×Int))(rip:Int):(met pts rip).2.length=pts.length:=by
 unfold met
 split
 ·rfl
 ·rename_i v h
  split
  ·exact Ge h
  ·rfl
structure Bd(B:BS):Prop where
 inv:Inv B.m B.d.count
 cs:B.d.cs.length≤B.d.count
 bs:B.d.bs.length≤B.d.count
 pts:B.d.pts.length≤100
 ws:∀w∈B.d.ws,w≤1000
 wl:B.d.ws.length≤100
theorem Ot(m m':MS)(nm:Str)(cs bs:List (Int×Int)):(dcb m m' nm cs bs).cs.length≤cs.length+1∧(dcb m m' nm cs bs).bs.length≤bs.length+1:=by
 unfold dcb
 split
 ·simp
 ·split
  ·have:=Dl (reg m' 4) cs
   have:=Dh (reg m 4) m'.rip cs bs
   exact⟨by simp only;exact Nat.le_succ_of_le (by assumption),by simp only;assumption⟩
  ·simp
theorem Bd.next{p:Prog}(hp:∀q∈p,q.2.good)(b:Bd B)(hc:B.d.count≤100){i:Ins}{m':MS}(h:mstep p B.m=some (i,m')):Bd (dnext B i m'):=by
 obtain⟨h1,h2⟩:=Ot B.m m' i.name B.d.cs B.d.bs
 have b1:=b.cs
 have b2:=b.bs
 exact⟨b.inv.step hp (by exact Nat.le_trans (by assumption) (by decide)) h,by show(dcb B.m m' i.name B.d.cs B.d.bs).cs.length≤B.d.count+1;exact Nat.le_trans (by assumption) (Nat.succ_le_succ (by assumption)),by show(dcb B.m m' i.name B.d.cs B.d.bs).bs.length≤B.d.count+1;exact Nat.le_trans (by assumption) (Nat.succ_le_succ (by assumption)),b.pts,b.ws,b.wl⟩
theorem Bd.met(b:Bd B):Bd {B with d:={B.d with pts:=(met B.d.pts B.m.rip).2}}:=⟨b.inv,b.cs,b.bs,by rw[Ob];exact b.pts,b.ws,b.wl⟩
noncomputable abbrev OE(B:BS):BS:={B with d:={B.d with pts:=(met B.d.pts B.m.rip).2}}
noncomputable def Led(p:Prog)(ov:BS→Bool):Nat→BS→Str→BS→Prop
 |0,B,r,B'=>r="most" ∧B'=B
 |n+1,B,r,B'=>(mstep p B.m=none∧r="fault" ∧∃b y,B'={B with m:={B.m with begin:=b},d:={B.d with what:=y}})∨
   ∃i m',mstep p B.m=some (i,m')∧
    if reason B.d.ws B.m m'≠"step" then r=reason B.d.ws B.m m'∧B'=dnext B i m'
    else if ov (dnext B i m')=true then r="step" ∧B'=dnext B i m'
    else if(met (dnext B i m').d.pts (dnext B i m').m.rip).1=true then r="break" ∧B'=OE (dnext B i m')
    else Led p ov n (OE (dnext B i m')) r B'
noncomputable def ZeY(σ₀:Hp)(k:BK)(A:BA)(f:FuncData)(ov:BS→Bool):Prop:=∀σ B,Big σ₀ σ k A B→B.d.cs.length≤500→Zd 4 (.lam f) [] σ (fun x σ'=>x=.bool (ov B)∧σ'=σ) noX
inductive Bg(σ₀:Hp)(k:BK)(A:BA)(B:BS)(p:Prog)(ov:BS→Bool)(most:Nat)(x:V)(σ':Hp):Prop
 |mk (r:_) (B':_) (h1:x=.str r) (h2:Led p ov most B r B') (h3:Big σ₀ σ' k A B'):Bg σ₀ k A B p ov most x σ'
inductive JLd(σ₀:Hp)(k:BK)(A:BA)(B:BS)(p:Prog)(ov:BS→Bool)(f:FuncData)(most:Nat)(i:Nat)(ρ':Loc)(σ':Hp):Prop
 |mk (h1:Yt [("self",.ref A.b.D),("is_over",.lam f)] ρ') (B1:_) (h2:Big σ₀ σ' k A B1) (h3:Bd B1) (h4:B1.d.count=B.d.count+i) (h5:∀r B',Led p ov (most-i) B1 r B'→Led p ov most B r B'):JLd σ₀ k A B p ov f most i ρ' σ'
set_option tactic.hygienic true in
theorem Big.c_led(G:Big σ₀ σ k A B){p:Prog}(hp:∀q∈p,q.2.good)(HA:Uc σ₀ k p){f:FuncData}{ov:BS→Bool}(HO:ZeY σ₀ k A f ov)(b:Bd B){most:Nat}(hm:B.d.count+most≤100):
  Zd 18 (.ref 184) [.ref A.b.D,.int most,.lam f] σ (Bg σ₀ k A B p ov most) noX:=by
 refine Zc (d:=17) ["self","most","is_over"] VL (fun P=>by kernel_rfl) Zf (Jr fun x y z=>rfl) rfl rfl rfl fun N=>?_
 walk_at "w"
 refine Q4 rfl (.inl rfl) (fun q_ q_=>rfl) (Y9 (YH rfl JD JE rfl ⟨rfl,?_⟩) rfl)
 walk_at "w"
 refine⟨most,rfl,by lia,JLd σ₀ k A B p ov f most,⟨⟨rfl,rfl,trivial⟩,B,G,b,rfl,fun q_ q_ h=>h⟩,fun q_ q_ q_ q_=>trivial,?_,?_⟩
 ·rintro i v ρ1 σ1 hv ⟨⟨s1,s2,_⟩,B1,G1,b1,hc1,hk⟩
  have hi:i<most:=by
   have:=(List.getElem?_eq_some_iff.mp hv).1
   simpa using this
  obtain⟨t,ht⟩:∃t,most-i=t+1:=⟨_,(Nat.succ_pred (Nat.sub_ne_zero_of_lt hi)).symm⟩
  rw[ht]at hk
  have bc:=b1.cs
  have bb:=b1.bs
  have hn1:B1.d.count≤100:=hc1▸Nat.le_trans (Nat.add_le_add_left (Nat.le_of_lt hi) _) (by assumption)
  refine Zy (Zg rfl ?_)
  refine WS.view (ρ':=[("self",.ref A.b.D),("is_over",.lam f)]) ⟨Z9 s1 (by decide),Z9 s2 (by decide),trivial⟩ ?_
  walk_at "w"
  refine Zj rfl rfl ?_
  walk_at "w"
  refine⟨_,_,_,Za G1.dbg,Ve,rfl,?_⟩
  walk_at "w"
  refine(G1.c_step hp HA b1.inv (by first|exact hn1|exact Nat.le_trans hn1 (by decide)|lia) b1.ws (Nat.le_trans b1.wl (by decide)) (Nat.le_trans bc (Nat.le_trans hn1 (by decide))) (Nat.le_trans bb (Nat.le_trans hn1 (by decide)))).u (nB rfl) ?_
  rintro _ σ2 (⟨hm1,rfl,b',y,G2⟩| ⟨j,m',hm1,rfl,G2⟩)
  ·refine Zg rfl (Zn (Ja (JF ?_ rfl)))
   walk_at "w"
   refine⟨_,_,rfl,rfl,?_⟩
   refine Zs ?_
   walk_at "w"
   exact⟨"fault",_,rfl,hk _ _ (.inl ⟨hm1,rfl,b',y,rfl⟩),G2⟩
  ·refine Zg rfl (Zn (Ja (JF ?_ rfl)))
   walk_at "w"
   refine⟨_,_,rfl,rfl,?_⟩
   have b2:=b1.next hp (by first|exact hn1|exact Nat.le_trans hn1 (by decide)|lia) hm1
   refine Z7 (fun q=>?_) fun q=>?_
   ·walk_at "w"
    refine⟨_,_,rfl,hk _ _ (.inr ⟨j,m',hm1,?_⟩),G2⟩
    rw[if_pos (by simpa using q)]
    exact⟨rfl,rfl⟩
   ·have q':reason B1.d.ws B1.m m'="step" :=by simpa using q
    walk_at "w"
    refine Yl (Qi rfl rfl ?_) rfl
    walk_at "w"
    refine⟨trivial,?_⟩
    walk_at "w"
    have bc2:=b2.cs
    refine(HO _ _ G2 (by show(dcb B1.m m' j.name B1.d.cs B1.d.bs).cs.length≤_;exact Nat.le_trans (Ot B1.m m' j.name B1.d.cs B1.d.bs).1 (Nat.le_trans (Nat.succ_le_succ (Nat.le_trans bc hn1)) (by decide)))).e (nB rfl) ?_
    refine⟨_,rfl,?_⟩
    refine Z7 (fun q2=>?_) fun q2=>?_
    ·walk_at "w"
     refine⟨_,_,rfl,hk _ _ (.inr ⟨j,m',hm1,?_⟩),G2⟩
     rw[if_neg (by simpa using q'),if_pos q2]
     exact⟨rfl,rfl⟩
    ·walk_at "w"
     refine Yl ?_ rfl
     refine Zj rfl rfl ?_
     walk_at "w"
     refine⟨_,_,_,Za G2.dbg,XH,rfl,?_⟩
     walk_at "w"
     refine(G2.c_is_met (Nat.le_trans b1.pts (by decide))).v (nB rfl) fun σ4 G3=>?_
     refine⟨_,rfl,?_⟩
     refine Z7 (fun q3=>?_) fun q3=>?_
     ·walk_at "w"
      refine⟨_,_,rfl,hk _ _ (.inr ⟨j,m',hm1,?_⟩),G3⟩
      rw[if_neg (by simpa using q'),if_neg (by simpa using q2),if_pos q3]
      exact⟨rfl,rfl⟩
     ·walk_at "w"
      refine⟨⟨rfl,rfl,trivial⟩,_,G3,b2.met,by show B1.d.count+1=_;lia,fun r B' h=>hk _ _ (.inr ⟨j,m',hm1,?_⟩)⟩
      rw[if_neg (by simpa using q'),if_neg (by simpa using q2),if_neg (by simpa using q3)]
      rwa [show most-(i+1)=t from congrArg Nat.pred ht]at h
 ·rintro ρ1 σ1 ⟨_,B1,G1,b1,hc1,hk⟩
  walk_at "w"
  rw[List.length_map,List.length_range,Nat.sub_self]at hk
  exact⟨"most",B1,rfl,hk _ _ ⟨rfl,rfl⟩,G1⟩
end
end
section
section
variable{σ₀ σ τ:Hp}{k:BK}{A:BA}{B:BS}{c:Ctx}{d:Nat}{ρ:Loc}{X:Addr→Loc→Hp→Prop}
noncomputable def Wm(scope:Scope)(cl:List (Str×Addr))(q:Str)(code:Value)(n:Nat):Ctx:=⟨scope,cellsFrom (n+1) scope.names cl,q++".<locals>.",code,none,"frame",[]⟩
theorem YA{fd:FuncData}{params:Arguments}{body:Expr}{scope:Scope}{cl:List (Str×Addr)}{q:Str}(L:UR fd params body scope cl q){args vs:List V}{ns:List Str}{Q:V→Hp→Prop}
  (h1:scope.kind=.function) (h2:scope.isCoroutine=false) (h3:scope.isGenerator=false) (bd:YY fd args ns vs) (hl:ns.length=vs.length)
  (h:∀n code,(∀m,n≤m→Free σ m)→WNs (Wm scope cl q code n) ns vs [] (cellsσ (n+1) scope.names σ) fun ρ' σ'=>WE (Wm scope cl q code n) d body ρ' σ' Q YS):Zd (d+1) (.lam fd) args σ Q noX:=by
 obtain⟨l1,l2,l3,l4,l5,l6,l7,l8,l9⟩:=L
 refine Hx (e:=body) ⟨l6,l7,by rw[l3];exact h1,by rw[l3];exact h2,by rw[l3];exact h3⟩ l2 Zf bd hl fun n hn=>?_
 have:=h n fd.code hn
 unfold Wm at this
 unfold Yp
 rw[l3,l4,l5]
 exact this
theorem BV{fd:FuncData}(h:bindArgs fd ⟨[],[]⟩=pure []):YY fd [] [] []:=
 fun w g s xs K r=>by cases r;exact⟨[],.nil,BindsTo.of_eq h⟩
theorem Big.cells(G:Big σ₀ σ k A B){f g:Addr→Option (Option V)}(h:∀a x,g a=some x→f a=some x):Big {σ₀ with cs:=g} {σ with cs:=f} k A B:=
 {G with
  le:=⟨G.le.ls,G.le.ds,G.le.ss,G.le.is,h,G.le.ts⟩
  mst:=⟨G.mst.st,G.mst.rs,G.mst.xs,G.mst.fl,⟨G.mst.me.is,G.mst.me.ds,G.mst.me.oct⟩,G.mst.sg,G.mst.hF,G.mst.hM,G.mst.hX,G.mst.ok⟩}
theorem Uc.le{σ₁:Hp}{p:Prog}(h:Uc σ₀ k p)(l:σ₀.Le σ₁):Uc σ₁ k p:=fun σ a m h1=>h σ a m (l.trans h1)
set_option tactic.hygienic true in
theorem YL{α:Type}{f g:Addr→Option α}(h:∀a x,g a=some x→f a=some x)(n:Addr)(v:Option α):∀a x,up g n v a=some x→up f n v a=some x:=by
 intro a x e
 unfold up at e⊢
 split
 ·rename_i q;rwa [if_pos q]at e
 ·rename_i q;rw[if_neg q]at e;exact h a x e
structure Tabs(σ₀:Hp):Prop where
 go:σ₀.ts 186=some ("Debugger.go.<locals>." ++"<lambda>")
 run:σ₀.ts 193=some ("Debugger.run_to.<locals>." ++"<lambda>")
 over:σ₀.ts 200=some ("Debugger.step_over.<locals>." ++"<lambda>")
 fin:σ₀.ts 207=some ("Debugger.finish.<locals>." ++"<lambda>")
 deed:σ₀.ts 1188=some ("_law_deed.<locals>." ++"<lambda>")
 law:σ₀.ts 1195=some ("law.<locals>." ++"<lambda>")
noncomputable abbrev Zev:Arguments:=⟨[],[],none,[],[],none,[]⟩
theorem UR.b0{fd:FuncData}{body:Expr}{scope:Scope}{cl:List (Str×Addr)}{q:Str}(L:UR fd Zev body scope cl q):bindArgs fd ⟨[],[]⟩=pure []:=by
 obtain⟨l1,l2,l3,l4,l5,l6,l7,l8,l9⟩:=L
 cases fd
 cases l1
 cases l8
 cases l9
 rfl
theorem Big.c_go(G:Big σ₀ σ k A B){p:Prog}(hp:∀q∈p,q.2.good)(HA:Uc σ₀ k p)(T:Tabs σ₀)(b:Bd B){most:Nat}(hm:B.d.count+most≤100):
  Zd 19 (.ref 191) [.ref A.b.D,.int most] σ (Bg σ₀ k A B p (fun q_=>false) most) noX:=by
 refine Zc (d:=18) ["self","most"] Wy (fun P=>by kernel_rfl) Zf (ZH fun x y=>rfl) rfl rfl rfl fun N=>?_
 walk_at "w"
 refine Zj rfl rfl ?_
 walk_at "w"
 refine⟨_,_,_,Za G.dbg,JZ,rfl,?_⟩
 walk_at "w"
 refine Q5 (P:=186) (fun q_=>rfl) rfl rfl (fun q_=>by kernel_rfl) (G.le.ts _ _ T.go) fun fd L=>?_
 walk_at "w"
 refine(G.c_led hp HA (ov:=fun q_=>false) (fun σ' B' G' hc=>?_) b hm).u (nB rfl) fun v σ' q=>q
 refine YA (d:=3) L rfl rfl rfl (BV ?_) rfl fun n code hn=>?_
 ·exact L.b0
 ·walk_at "w"
  exact⟨rfl,rfl⟩
theorem Big.c_step_over(G:Big σ₀ σ k A B){p:Prog}(hp:∀q∈p,q.2.good)(HA:Uc σ₀ k p)(T:Tabs σ₀)(b:Bd B){most:Nat}(hm:B.d.count+most≤100):
  Zd 19 (.ref 205) [.ref A.b.D,.int most] σ (Bg σ₀ k A B p (fun C=>decide (C.d.cs.length≤B.d.cs.length)) most) noX:=by
 have bc:=b.cs
 refine Yq (d:=18) (ns:=["self","most"]) Ju (fun P=>by kernel_rfl) rfl Zf (ZH fun x y=>rfl) rfl fun n hn=>?_
 rw[show cellsσ (n+1) Ju.scope.names σ={σ with cs:=up (up σ.cs (n+1) (some none)) (n+2) (some none)}from rfl]
 have hc1:=Zi G.le.cs (hn (n+1) (Nat.le_succ n)).cs
 have hc2:=Zi G.le.cs (hn (n+2) (Nat.le_add_right n 2)).cs
 have h12:n+1≠n+2:=Nat.ne_of_lt (Nat.lt_succ_self (n+1))
 refine ZP rfl rfl ((Ze _ _ h12).trans (up_self ..)) (Zg rfl ?_)
 have G1:=G.cells (g:=up (up (up σ₀.cs (n+1) (some none)) (n+2) (some none)) (n+1) (some (some (.ref A.b.D)))) (YL (YL (YL G.le.cs (n+1) (some none)) (n+2) (some none)) (n+1) (some (some (.ref A.b.D))))
 refine WS.big G1 fun τ1 G1=>?_
 have f1:τ1.cs (n+1)=some (some (.ref A.b.D)):=G1.le.cs _ _ (up_self ..)
 have f2:τ1.cs (n+2)=some none:=G1.le.cs _ _ ((Ze _ _ h12.symm).trans (up_self ..))
 walk_at "w"
 refine Z4 rfl rfl rfl rfl YT YU trivial ?_
 refine Zh (ZS (Zo rfl rfl f1 rfl ?_) rfl) rfl
 refine⟨_,_,_,Za G1.dbg,ZB,rfl,rfl,?_⟩
 walk_at "w"
 refine YX G1.dC (by rw[List.length_map];have:=b.inv.sz;lia) ?_
 rw[List.length_map]
 refine ZP rfl rfl f2 ?_
 have G2:=G1.cells (YL G1.le.cs (n+2) (some (some (.int (B.d.cs.length:Nat)))))
 refine WS.big G2 fun τ2 G2=>?_
 have l2:σ₀.Le {σ₀ with cs:=up (up (up (up σ₀.cs (n+1) (some none)) (n+2) (some none)) (n+1) (some (some (.ref A.b.D)))) (n+2) (some (some (.int (B.d.cs.length:Nat))))}:=
  ((((Hp.Le.refl σ₀).nc hc1 _).nc hc2 _).nc hc1 _).nc hc2 _
 have g1:τ2.cs (n+1)=some (some (.ref A.b.D)):=G2.le.cs _ _ ((Ze _ _ h12).trans (up_self ..))
 walk_at "w"
 refine Zj rfl rfl (Zo rfl rfl g1 rfl ?_)
 refine⟨_,_,_,Za G2.dbg,JZ,rfl,?_⟩
 walk_at "w"
 refine Q5 (P:=200) (fun q_=>rfl) rfl rfl (fun q_=>by kernel_rfl) (G2.le.ts _ _ T.over) fun fd L=>?_
 walk_at "w"
 refine(G2.c_led hp (HA.le l2) (ov:=fun C=>decide (C.d.cs.length≤B.d.cs.length)) (fun σ' B' G' hc=>?_) b hm).u (nB rfl) fun v σ' ⟨r,B',e1,e2,G'⟩=>⟨r,B',e1,e2,G'.down l2⟩
 refine YA (d:=3) L rfl rfl rfl (BV ?_) rfl fun N code hN=>?_
 ·exact L.b0
 ·have k1:σ'.cs (n+1)=some (some (.ref A.b.D)):=G'.le.cs _ _ ((Ze _ _ h12).trans (up_self ..))
  have k2:σ'.cs (n+2)=some (some (.int (B.d.cs.length:Nat))):=G'.le.cs _ _ (up_self ..)
  refine Zl ?_ rfl
  refine Z4 rfl rfl rfl rfl YT YU trivial ?_
  refine Zh (ZS (Y6 rfl rfl k1 rfl rfl ?_) rfl) rfl
  refine⟨_,_,_,Za G'.dbg,ZB,rfl,rfl,?_⟩
  walk_at "w"
  refine YX G'.dC (by rw[List.length_map];exact Nat.le_trans (by assumption) (by decide)) ?_
  rw[List.length_map]
  refine Y6 rfl rfl k2 rfl rfl ?_
  refine⟨_,_,_,rfl,rfl,rfl,?_,rfl⟩
  simp
theorem Big.c_finish(G:Big σ₀ σ k A B){p:Prog}(hp:∀q∈p,q.2.good)(HA:Uc σ₀ k p)(T:Tabs σ₀)(b:Bd B){most:Nat}(hm:B.d.count+most≤100):
  Zd 19 (.ref 212) [.ref A.b.D,.int most] σ (Bg σ₀ k A B p (fun C=>decide (C.d.latest="ret" ∧reg B.m 4<reg C.m 4)) most) noX:=by
 refine Yq (d:=18) (ns:=["self","most"]) Qf (fun P=>by kernel_rfl) rfl Zf (ZH fun x y=>rfl) rfl fun n hn=>?_
 rw[show cellsσ (n+1) Qf.scope.names σ={σ with cs:=up (up σ.cs (n+1) (some none)) (n+2) (some none)}from rfl]
 have hc1:=Zi G.le.cs (hn (n+1) (Nat.le_succ n)).cs
 have hc2:=Zi G.le.cs (hn (n+2) (Nat.le_add_right n 2)).cs
 have h12:n+1≠n+2:=Nat.ne_of_lt (Nat.lt_succ_self (n+1))
 refine ZP rfl rfl ((Ze _ _ h12).trans (up_self ..)) (Zg rfl ?_)
 have G1:=G.cells (g:=up (up (up σ₀.cs (n+1) (some none)) (n+2) (some none)) (n+1) (some (some (.ref A.b.D)))) (YL (YL (YL G.le.cs (n+1) (some none)) (n+2) (some none)) (n+1) (some (some (.ref A.b.D))))
 refine WS.big G1 fun τ1 G1=>?_
 have f1:τ1.cs (n+1)=some (some (.ref A.b.D)):=G1.le.cs _ _ (up_self ..)
 have f2:τ1.cs (n+2)=some none:=G1.le.cs _ _ ((Ze _ _ h12.symm).trans (up_self ..))
 walk_at "w"
 refine Zp ?_
 refine ZS (ZS (Zo rfl rfl f1 rfl ?_) rfl) rfl
 refine⟨_,_,_,Za G1.dbg,Zm,rfl,rfl,?_⟩
 refine⟨_,_,_,Za G1.mst.st,Z0,rfl,rfl,?_⟩
 refine Zw rfl YO rfl rfl ?_
 refine⟨_,_,4,_,G1.mst.rs,rfl,YC G.mst.ok (by decide),YD G.mst.ok (by decide),?_⟩
 refine ZP rfl rfl f2 ?_
 have G2:=G1.cells (YL G1.le.cs (n+2) (some (some (.int (reg B.m 4)))))
 refine WS.big G2 fun τ2 G2=>?_
 have l2:σ₀.Le {σ₀ with cs:=up (up (up (up σ₀.cs (n+1) (some none)) (n+2) (some none)) (n+1) (some (some (.ref A.b.D)))) (n+2) (some (some (.int (reg B.m 4))))}:=
  ((((Hp.Le.refl σ₀).nc hc1 _).nc hc2 _).nc hc1 _).nc hc2 _
 have g1:τ2.cs (n+1)=some (some (.ref A.b.D)):=G2.le.cs _ _ ((Ze _ _ h12).trans (up_self ..))
 walk_at "w"
 refine Zj rfl rfl (Zo rfl rfl g1 rfl ?_)
 refine⟨_,_,_,Za G2.dbg,JZ,rfl,?_⟩
 walk_at "w"
 refine Q5 (P:=207) (fun q_=>rfl) rfl rfl (fun q_=>by kernel_rfl) (G2.le.ts _ _ T.fin) fun fd L=>?_
 walk_at "w"
 refine(G2.c_led hp (HA.le l2) (ov:=fun C=>decide (C.d.latest="ret" ∧reg B.m 4<reg C.m 4)) (fun σ' B' G' hc=>?_) b hm).u (nB rfl) fun v σ' ⟨r,B',e1,e2,G'⟩=>⟨r,B',e1,e2,G'.down l2⟩
 refine YA (d:=3) L rfl rfl rfl (BV ?_) rfl fun N code hN=>?_
 ·exact L.b0
 ·have k1:σ'.cs (n+1)=some (some (.ref A.b.D)):=G'.le.cs _ _ ((Ze _ _ h12).trans (up_self ..))
  have k2:σ'.cs (n+2)=some (some (.int (reg B.m 4))):=G'.le.cs _ _ (up_self ..)
  refine Na ?_
  refine JU (ne:=false) ?_ rfl
  refine ZS (Y6 rfl rfl k1 rfl rfl ?_) rfl
  refine⟨_,_,_,Za G'.dbg,Jf,rfl,rfl,?_⟩
  walk_at "w"
  refine⟨_,_,rfl,rfl,_,rfl,?_⟩
  simp only[Bool.false_eq_true,if_false]
  by_cases q:B'.d.latest="ret"
  ·rw[show(B'.d.latest==("ret" :Str))=true from by simpa using q]
   refine Zs ?_
   refine Zl ?_ rfl
   refine Zp ?_
   refine ZS (ZS (Y6 rfl rfl k1 rfl rfl ?_) rfl) rfl
   refine⟨_,_,_,Za G'.dbg,Zm,rfl,rfl,?_⟩
   refine⟨_,_,_,Za G'.mst.st,Z0,rfl,rfl,?_⟩
   refine Zw rfl YO rfl rfl ?_
   refine⟨_,_,4,_,G'.mst.rs,rfl,YC G'.mst.ok (by decide),YD G'.mst.ok (by decide),?_⟩
   refine Y6 rfl rfl k2 rfl rfl ?_
   refine⟨_,_,_,rfl,rfl,rfl,?_,rfl⟩
   simp[q]
  ·rw[show(B'.d.latest==("ret" :Str))=false from by simpa using q]
   refine Zk ?_
   exact⟨by simp[q],rfl⟩
theorem Big.c_run_to(G:Big σ₀ σ k A B){p:Prog}(hp:∀q∈p,q.2.good)(HA:Uc σ₀ k p)(T:Tabs σ₀)(b:Bd B){most:Nat}(hm:B.d.count+most≤100){place:Int}:
  Zd 19 (.ref 198) [.ref A.b.D,.int place,.int most] σ (Bg σ₀ k A B p (fun C=>C.m.rip==place) most) noX:=by
 refine Yq (d:=18) (ns:=["self","place","most"]) Qe (fun P=>by kernel_rfl) rfl Zf (Jr fun x y z=>rfl) rfl fun n hn=>?_
 rw[show cellsσ (n+1) Qe.scope.names σ={σ with cs:=up (up σ.cs (n+1) (some none)) (n+2) (some none)}from rfl]
 have hc1:=Zi G.le.cs (hn (n+1) (Nat.le_succ n)).cs
 have hc2:=Zi G.le.cs (hn (n+2) (Nat.le_add_right n 2)).cs
 have h12:n+1≠n+2:=Nat.ne_of_lt (Nat.lt_succ_self (n+1))
 refine ZP rfl rfl ((Ze _ _ h12).trans (up_self ..)) (ZP rfl rfl ((Ze _ _ h12.symm).trans (up_self ..)) (Zg rfl ?_))
 have G2:=G.cells (g:=up (up (up (up σ₀.cs (n+1) (some none)) (n+2) (some none)) (n+1) (some (some (.ref A.b.D)))) (n+2) (some (some (.int place)))) (YL (YL (YL (YL G.le.cs (n+1) (some none)) (n+2) (some none)) (n+1) (some (some (.ref A.b.D)))) (n+2) (some (some (.int place))))
 refine WS.big G2 fun τ2 G2=>?_
 have l2:σ₀.Le {σ₀ with cs:=up (up (up (up σ₀.cs (n+1) (some none)) (n+2) (some none)) (n+1) (some (some (.ref A.b.D)))) (n+2) (some (some (.int place)))}:=
  ((((Hp.Le.refl σ₀).nc hc1 _).nc hc2 _).nc hc1 _).nc hc2 _
 have g1:τ2.cs (n+1)=some (some (.ref A.b.D)):=G2.le.cs _ _ ((Ze _ _ h12).trans (up_self ..))
 walk_at "w"
 refine Zj rfl rfl (Zo rfl rfl g1 rfl ?_)
 refine⟨_,_,_,Za G2.dbg,JZ,rfl,?_⟩
 walk_at "w"
 refine Q5 (P:=193) (fun q_=>rfl) rfl rfl (fun q_=>by kernel_rfl) (G2.le.ts _ _ T.run) fun fd L=>?_
 walk_at "w"
 refine(G2.c_led hp (HA.le l2) (ov:=fun C=>C.m.rip==place) (fun σ' B' G' hc=>?_) b hm).u (nB rfl) fun v σ' ⟨r,B',e1,e2,G'⟩=>⟨r,B',e1,e2,G'.down l2⟩
 refine YA (d:=3) L rfl rfl rfl (BV ?_) rfl fun N code hN=>?_
 ·exact L.b0
 ·have k1:σ'.cs (n+1)=some (some (.ref A.b.D)):=G'.le.cs _ _ ((Ze _ _ h12).trans (up_self ..))
  have k2:σ'.cs (n+2)=some (some (.int place)):=G'.le.cs _ _ (up_self ..)
  refine Zl ?_ rfl
  refine ZS (ZS (Y6 rfl rfl k1 rfl rfl ?_) rfl) rfl
  refine⟨_,_,_,Za G'.dbg,Zm,rfl,rfl,?_⟩
  refine⟨_,_,_,Za G'.mst.st,ZL,rfl,rfl,?_⟩
  refine Y6 rfl rfl k2 rfl rfl ?_
  exact⟨_,_,_,rfl,rfl,rfl,rfl,rfl⟩
end
end
section
section
variable{σ₀ σ τ:Hp}{k:BK}{A:BA}{B:BS}{c:Ctx}{d:Nat}{ρ:Loc}{X:Addr→Loc→Hp→Prop}
theorem Zbk{a b c:V}:YY JC [a,b,c] ["self","place","passes"] [a,b,c]:=fun w g s xs X r=>by
 cases r with
 |cons r1 r=>cases r with
 |cons r2 r=>cases r with
 |cons r3 r=>cases r;exact⟨[_,_,_],.cons r1 (.cons r2 (.cons r3 .nil)),BindsTo.of_defaults (T:=123) rfl (X 123 {cls:=.type "tuple",data:=.seq #[.int 0 333] 0} (by kernel_rfl)) rfl rfl rfl⟩
theorem Big.c_break_at(G:Big σ₀ σ k A B){place passes:Int}(hz:B.d.pts.length≤1000):
  Zd 3 (.ref 130) [.ref A.b.D,.int place,.int passes] σ (fun x σ'=>x=.none∧Big σ₀ σ' k A {B with d:={B.d with pts:=aset B.d.pts place passes}}) noX:=by
 refine Zc (d:=2) ["self","place","passes"] JC (fun P=>by kernel_rfl) Zf Zbk rfl rfl rfl fun N=>?_
 walk_at "w"
 refine Qs ?_
 walk_at "w"
 refine⟨_,_,_,Za G.dbg,Yv,rfl,rfl,?_⟩
 walk_at "w"
 refine⟨_,_,_,rfl,G.dP,rfl,by rw[ZI,List.length_map];exact Nat.le_trans (by assumption) (by decide),?_⟩
 rw[Vf]
 refine WS.big G.setP fun τ G2=>?_
 walk_at "w"
 exact⟨rfl,G2⟩
theorem NL(l:List Nat)(w:Nat):wsV l++[V.tup [.int (32768-(w:Int)),.int w]]=wsV (l++[w]):=by
 show _=List.map _ (l++[w])
 rw[List.map_append];rfl
theorem Big.c_watch(G:Big σ₀ σ k A B){w:Nat}(hz:B.d.ws.length≤1000):
  Zd 3 (.ref 144) [.ref A.b.D,.int (32768-(w:Int)),.int w] σ (fun x σ'=>x=.none∧Big σ₀ σ' k A {B with d:={B.d with ws:=B.d.ws++[w]}}) noX:=by
 refine Zc (d:=2) ["self","place","width"] UI (fun P=>by kernel_rfl) Zf (Jr fun x y z=>rfl) rfl rfl rfl fun N=>?_
 walk_at "w"
 refine ZC rfl rfl ?_
 walk_at "w"
 refine⟨_,_,_,Za G.dbg,Ue,rfl,rfl,?_⟩
 refine⟨_,_,Yb PySem.F.slot_list_append PySem.F.type_list_append G.dW,trivial,?_⟩
 walk_at "w"
 refine Zx ?_
 walk_at "w"
 refine⟨nB rfl,?_⟩
 walk_at "w"
 refine Yo G.dW (by rw[List.length_map];exact Nat.le_trans (by assumption) (by decide)) ?_
 rw[NL]
 refine WS.big G.setW fun τ G2=>?_
 walk_at "w"
 exact⟨rfl,G2⟩
inductive Zfo(σ₀:Hp)(k:BK)(A:BA)(B:BS)(x:V)(σ':Hp):Prop
 |mk (h1:x=.none) (W:_) (h2:Big σ₀ σ' k {A with b:={A.b with W:=W}} {B with d:={B.d with ws:=[]}}):Zfo σ₀ k A B x σ'
theorem Big.c_unwatch(G:Big σ₀ σ k A B):
  Zd 3 (.ref 151) [.ref A.b.D] σ (Zfo σ₀ k A B) noX:=by
 refine Zc (d:=2) ["self"] Ui (fun P=>by kernel_rfl) Zf (Yj fun x=>rfl) rfl rfl rfl fun N=>?_
 walk_at "w"
 refine YE ?_
 walk_at "w"
 refine⟨nB rfl,fun W hW=>?_⟩
 walk_at "w"
 refine⟨_,_,_,_,_,rfl,G.dbg,Ud,rfl,?_⟩
 refine WS.big (G.newW (l:=[]) hW) fun τ G2=>?_
 walk_at "w"
 exact⟨rfl,W,G2⟩
noncomputable def pkeep(pts:List (Int×Int))(place:Int)(q:Int×Int):Option (Int×Int):=if q.1=place then none else(aget pts q.1).map fun v=>(q.1,v)
noncomputable def pclear(pts:List (Int×Int))(place:Int):List (Int×Int):=Jp (pts.filterMap (pkeep pts place))
theorem O8(l:List (Int×Int))(x:Int×Int):Jp (l++[x])=aset (Jp l) x.1 x.2:=by
 unfold Jp;rw[List.foldl_append];rfl
theorem Bj:∀l:List (Int×Int),(Jp l).length≤l.length:=by
 intro l
 have:∀(l m:List (Int×Int)),(l.foldl (fun m p=>aset m p.1 p.2) m).length≤m.length+l.length:=by
  intro l
  induction l with
  |nil=>intro m;simp
  |cons x r ih=>
   intro m
   have h1:=ih (aset m x.1 x.2)
   have h2:=Q2 m x.1 x.2
   simp only[List.foldl_cons,List.length_cons]
   lia
 have h:=this l []
 rw[List.length_nil,Nat.zero_add]at h
 exact h
inductive Zfn(σ₀:Hp)(k:BK)(A:BA)(B:BS)(place:Int)(x:V)(σ':Hp):Prop
 |mk (h1:x=.bool (aget B.d.pts place).isSome) (P:_) (h2:Big σ₀ σ' k {A with b:={A.b with P:=P}} {B with d:={B.d with pts:=pclear B.d.pts place}}):Zfn σ₀ k A B place x σ'
theorem Big.c_clear(G:Big σ₀ σ k A B){place:Int}(hz:B.d.pts.length≤1000):
  Zd 3 (.ref 137) [.ref A.b.D,.int place] σ (Zfn σ₀ k A B place) noX:=by
 refine Zc (d:=2) ["self","place"] UJ (fun P=>by kernel_rfl) Zf (ZH fun x y=>rfl) rfl rfl rfl fun N=>?_
 walk_at "w"
 refine Hu (ne:=false) ?_ rfl
 walk_at "w"
 refine⟨_,_,_,Za G.dbg,Yv,rfl,rfl,?_⟩
 refine⟨_,_,rfl,G.dP,?_⟩
 walk_at "w"
 refine Vz fun K h1 h2=>?_
 have hKP:A.b.P≠K:=nne G.dP h1
 have hKH:A.a.H≠K:=nne G.mst.me.ds h1
 have hKW:A.w.P≠K:=nne G.wP h1
 obtain⟨σ₁,rfl⟩:∃x,x=σ:=⟨_,rfl⟩
 have gr:∀l,Big σ₀ ({σ₁ with ds:=up σ₁.ds K l}:Hp) k A B:=fun l=>G.grow ((Hp.Le.refl σ₁).nd h1 l)
 walk_at "w"
 refine Hs rfl (.inl rfl) (fun q_ q_=>rfl) ?_
 walk_at "w"
 refine⟨_,_,_,Za (gr _).dbg,Yv,rfl,rfl,?_⟩
 refine⟨A.b.P,_,rfl,(gr _).dP,fun i ρ' σ'=>Yt [("self",.ref A.b.D),("place",.int place),("is_known",.bool (aget (ZI B.d.pts) place).isSome),("kept",.ref K)] ρ'∧σ'=({σ₁ with ds:=up σ₁.ds K (some (ZI (Jp ((B.d.pts.take i).filterMap (pkeep B.d.pts place)))))}:Hp).dropD A.b.P,⟨⟨rfl,rfl,rfl,rfl,trivial⟩,rfl⟩,?_,?_⟩
 ·rintro i v ρ1 σ2 hv ⟨⟨s1,s2,s3,s4,_⟩,rfl⟩
  unfold ZI at hv
  rw[List.map_map,List.getElem?_map]at hv
  obtain⟨q,hq,rfl⟩:=Option.map_eq_some_iff.mp hv
  obtain⟨u,hu⟩:=G0 (List.mem_map.mpr ⟨_,List.mem_of_getElem? hq,rfl⟩)
  have htk:B.d.pts.take (i+1)=B.d.pts.take i++[q]:=by
   rw[List.take_succ,hq];rfl
  have hlen:(Jp ((B.d.pts.take i).filterMap (pkeep B.d.pts place))).length≤1000:=by
   have a1:=Bj ((B.d.pts.take i).filterMap (pkeep B.d.pts place))
   have a2:=List.length_filterMap_le (pkeep B.d.pts place) (B.d.pts.take i)
   have a3:=List.length_take_le i B.d.pts
   have a4:=List.length_take_le' i B.d.pts
   lia
  refine Zy (Zg rfl ?_)
  refine WS.view (ρ':=[("self",.ref A.b.D),("place",.int place),("is_known",.bool (aget (ZI B.d.pts) place).isSome),("kept",.ref K),("one",.int q.1)]) ⟨Z9 s1 (by decide),Z9 s2 (by decide),Z9 s3 (by decide),Z9 s4 (by decide),(ZT ..).trans (if_pos rfl),trivial⟩ ?_
  walk_at "w"
  refine Zq (Zl ?_ rfl) rfl
  walk_at "w"
  refine⟨_,_,_,rfl,rfl,rfl,_,rfl,?_⟩
  refine Z7 (fun q1=>?_) fun q1=>?_
  ·have q1:q.1≠place:=by simpa using q1
   walk_at "w"
   refine Qs ?_
   refine Kw ?_
   walk_at "w"
   refine⟨_,_,_,Za G.dbg,Yv,rfl,rfl,?_⟩
   walk_at "w"
   refine⟨A.b.P,ZI B.d.pts,_,_,rfl,.head _,rfl,by rw[VA,hu];rfl,?_⟩
   walk_at "w"
   refine⟨K,_,_,rfl,(Ze _ _ hKP.symm).trans (up_self ..),rfl,by rw[ZI,List.length_map];exact Nat.le_trans (by assumption) (by decide),?_⟩
   walk_at "w"
   refine⟨⟨rfl,rfl,rfl,rfl,trivial⟩,?_⟩
   rw[Vf,htk,List.filterMap_append,show [q].filterMap (pkeep B.d.pts place)=[(q.1,u)]from by simp[pkeep,q1,hu],O8]
   unfold Hp.dropD
   simp only
   congr 1
   funext x
   by_cases e1:x=K
   ·subst e1;rw[up_self,Ze _ _ hKP.symm,up_self]
   ·rw[Ze _ _ e1]
    by_cases e2:x=A.b.P
    ·subst e2;rw[up_self,up_self]
    ·rw[Ze _ _ e2,Ze _ _ e1,Ze _ _ e2,Ze _ _ e1]
  ·have q1:q.1=place:=by simpa using q1
   walk_at "w"
   refine⟨⟨rfl,rfl,rfl,rfl,trivial⟩,?_⟩
   rw[htk,List.filterMap_append,show [q].filterMap (pkeep B.d.pts place)=[]from by simp[pkeep,q1],List.append_nil]
 ·rintro ρ1 σ2 ⟨hs,rfl⟩
  refine WS.view hs ?_
  rw[show(ZI B.d.pts).length=B.d.pts.length from List.length_map ..,List.take_length]
  have e:({(({σ₁ with ds:=up σ₁.ds K (some (ZI (Jp (B.d.pts.filterMap (pkeep B.d.pts place)))))}:Hp).dropD A.b.P)with ds:=up (({σ₁ with ds:=up σ₁.ds K (some (ZI (Jp (B.d.pts.filterMap (pkeep B.d.pts place)))))}:Hp).dropD A.b.P).ds A.b.P (some (ZI B.d.pts))}:Hp)={σ₁ with ds:=up σ₁.ds K (some (ZI (pclear B.d.pts place)))}:=by
   unfold Hp.dropD
   simp only[ZQ]
   rw[YZ _ A.b.P _ ((Ze _ _ hKP).trans G.dP)]
   rfl
  rw[e]
  have G1:=gr (some (ZI (pclear B.d.pts place)))
  walk_at "w"
  refine⟨_,_,_,_,_,rfl,G1.dbg,U1,rfl,?_⟩
  refine WS.big (G1.newP (l:=pclear B.d.pts place) (P:=K) (up_self ..) hKH.symm hKW.symm (Zi G.le.ds h1)) fun τ G2=>?_
  walk_at "w"
  refine⟨?_,K,G2⟩
  rw[VA]
  simp
end
end
section
section
variable{σ₀ σ τ:Hp}{k:BK}{A:BA}{B:BS}{c:Ctx}{d:Nat}{ρ:Loc}{X:Addr→Loc→Hp→Prop}
inductive Zfm(Q:Bool→Hp→Prop)(a:V)(b:V)(σ2:Hp):Prop
 |mk (vs:_) (h1:ZV σ2 a=some vs) (h2:V.isD 20 (.lst vs)=true) (h3:b=.lst []) (h4:Q vs.isEmpty σ2):Zfm Q a b σ2
theorem Zgy{l r:Expr}{pos:Pos}{Q:Bool→Hp→Prop}(h:WE c d l ρ σ (fun a σ1=>WE c d r ρ σ1 (Zfm Q a) X) X)(hm:behindInMarks .Eq r=false):WT c d (.Compare l [.Eq] [r] pos) ρ σ Q X:=
 Zq (UX (ne:=false) (WE.mono h fun a σ1 h1=>WE.mono h1 fun b σ2 ⟨vs,e1,e2,e3,q⟩=>by
  subst e3
  have e4:deref σ2 (V.lst [])=.lst []:=rfl
  rw[UP e1,e4,Os]
  exact⟨e2,rfl,_,rfl,q⟩) hm) hm
theorem Ze6(l:List Nat)(n:Nat):V.isD (n+2) (.lst (wsV l))=true:=Um (fun q_=>rfl) l
noncomputable def WY(x y:MS)(w:Nat):Bool:=(List.range w).any fun i=>mget x.mem (32768-(w:Int)+i) !=mget y.mem (32768-(w:Int)+i)
noncomputable def changed(x y:MS)(ws:List Nat):Bool:=ws.any (WY x y)
theorem ZaR(P:Int→Bool)(a:Int)(l:List Nat):(l.map fun i:Nat=>V.int (a+i)).filterMap (fun v=>if P (iAt v)then some (.int (iAt v))else none)=(l.filter fun i:Nat=>P (a+i)).map fun i:Nat=>V.int (a+i):=by
 rw[List.filterMap_map,←List.filterMap_eq_map,List.filterMap_filter]
 rfl
theorem Zbc{x y:MS}{W:Addr}{ws:List Nat}(ox:MOK x)(oy:MOK y)(zx:x.mem.length≤1000)(zy:y.mem.length≤1000)(hW:σ.ls W=some (wsV ws))(hz:ws.length≤1000)(hw:∀w∈ws,w≤1000):
  Zd 6 (.ref 1162) [Yx x,Yx y,.ref W] σ (fun v σ'=>v=.bool (changed x y ws)∧σ'=σ) noX:=by
 refine Zd.weakQ ?_
 refine Yq (d:=5) (ns:=["one","other","watches"]) QS (fun P=>by kernel_rfl) rfl Zf (Jr fun x y z=>rfl) rfl fun n hn=>?_
 rw[show cellsσ (n+1) QS.scope.names σ={σ with cs:=up (up σ.cs (n+1) (some none)) (n+2) (some none)}from rfl]
 have hc1:=(hn (n+1) (Nat.le_succ n)).cs
 have hc2:=(hn (n+2) (Nat.le_add_right n 2)).cs
 have h12:n+1≠n+2:=Nat.ne_of_lt (Nat.lt_succ_self (n+1))
 refine Zg rfl (Zg rfl (Zg rfl ?_))
 refine WS.gen fun τ1 e1=>?_
 have f1:τ1.cs (n+1)=some none:=by rw[e1];exact(Ze _ _ h12).trans (up_self ..)
 have f2:τ1.cs (n+2)=some none:=by rw[e1];exact up_self ..
 have l1:σ.Le τ1:=by rw[e1];exact((Hp.Le.refl σ).nc hc1 _).nc hc2 _
 refine Zn (Ja (Zgy ?_ rfl))
 walk_at "w"
 refine ZN (ZW ⟨nB rfl,_,l1.ls _ _ hW,Ze6 _ 18,rfl,?_⟩)
 rcases hE:ws with _| ⟨w0,r0⟩
 ·refine Zs ?_
  walk_at "w"
  exact⟨σ,l1,rfl,rfl⟩
 rw[←hE]
 rw[show(wsV ws).isEmpty=false from by rw[hE];rfl]
 refine Zk ?_
 walk_at "w"
 refine Vx ?_ (fun q_ q_ q_ q_ q_ q_ q_ q_=>rfl)
 refine Zx ?_
 refine Zh ?_ rfl
 refine Z4 rfl rfl rfl rfl Ko Kr trivial ?_
 refine Zh (Z8 ?_) rfl
 walk_at "w"
 refine⟨_,_,3,_,rfl,rfl,Z3 (show 3<7 by decide) (show 7<2^63 by decide),rfl,?_⟩
 walk_at "w"
 refine Xj (W8 x) (Gh zx) fun D1 hD1=>?_
 refine Zh ?_ rfl
 refine Z4 rfl rfl rfl rfl Ko Kr trivial ?_
 refine Zh (Z8 ?_) rfl
 walk_at "w"
 refine⟨_,_,3,_,rfl,rfl,Z3 (show 3<7 by decide) (show 7<2^63 by decide),rfl,?_⟩
 walk_at "w"
 refine Xj (W8 y) (Gh zy) fun D2 hD2=>?_
 walk_at "w"
 refine⟨nB rfl,?_⟩
 refine Q6 rfl rfl rfl (fun q_=>rfl) ?_
 refine Zy (ZP rfl rfl f1 (Zy (ZP rfl rfl ((Ze _ _ h12.symm).trans f2) ?_)))
 refine WS.gen fun τ2 e2=>?_
 have hD12:D1≠D2:=by rintro rfl;simp at hD2
 have hD2':τ1.ds D2=none:=(Ze _ _ hD12.symm).symm.trans hD2
 have g1:τ2.cs (n+1)=some (some (.ref D1)):=by rw[e2];exact(Ze _ _ h12).trans (up_self ..)
 have g2:τ2.cs (n+2)=some (some (.ref D2)):=by rw[e2];exact up_self ..
 have g3:τ2.ds D1=some (dV x.mem):=by rw[e2];exact(Ze _ _ hD12).trans (up_self ..)
 have g4:τ2.ds D2=some (dV y.mem):=by rw[e2];exact up_self ..
 have l2:σ.Le τ2:=by rw[e2];exact(((l1.nd (Zi l1.ds hD1) _).nd (Zi l1.ds hD2') _).nc hc1 _).nc hc2 _
 walk_at "w"
 refine Q4 rfl (.inr rfl) (fun q_ q_=>rfl) (Ur ?_)
 walk_at "w"
 refine⟨_,l2.ls _ _ hW,fun i ρ' σ'=>Yt [("watches",.ref W)] ρ'∧σ'=τ2∧(ws.take i).any (WY x y)=false,⟨⟨rfl,trivial⟩,rfl,rfl⟩,fun q_ q_ q_ h=>by rw[h.2.1];exact l2.ls _ _ hW,?_,?_⟩
 ·rintro i v ρ1 σ2 hv ⟨⟨s1,_⟩,rfl,hnd⟩
  rw[List.getElem?_map]at hv
  obtain⟨wd,hwd,rfl⟩:=Option.map_eq_some_iff.mp hv
  have hle:=hw wd (List.mem_of_getElem? hwd)
  refine Q6 rfl rfl rfl (fun q_=>rfl) ?_
  refine Zy (Zg rfl (Zy (Zg rfl ?_)))
  refine WS.view (ρ':=[("watches",.ref W),("spot",.int (32768-(wd:Int))),("width",.int wd)]) ⟨Z9 (Z9 s1 (by decide)) (by decide),Z9 ((ZT ..).trans (if_pos rfl)) (by decide),(ZT ..).trans (if_pos rfl),trivial⟩ ?_
  refine Zn (Ja (Kd ?_ rfl))
  refine UY rfl (.inl rfl) (fun q_ q_=>rfl) rfl rfl (by decide) (by decide+kernel) (Zag (YH rfl JD JE rfl ⟨rfl,?_⟩) rfl)
  walk_at "w"
  walk_at "w"
  refine⟨_,_,_,rfl,rfl,rfl,?_⟩
  walk_at "w"
  refine⟨32768-(wd:Int),wd,rfl,by lia,by lia,by exact Nat.lt_of_le_of_lt (by assumption) (by decide),trivial,by rw[List.length_map,List.length_range];assumption,fun v=>if mget x.mem (iAt v) !=mget y.mem (iAt v)then some (.int (iAt v))else none,?_,?_⟩
  ·intro v hv
   obtain⟨j,hj,rfl⟩:=List.mem_map.mp hv
   refine Zy (Zg rfl ⟨rfl,?_⟩)
   refine Zq (Zl ?_ rfl) rfl
   refine ZC rfl rfl ?_
   refine Zo rfl rfl g1 rfl ?_
   refine⟨_,_,Ua PySem.F.slot_dict_get PySem.F.type_dict_get g3,trivial,?_⟩
   walk_at "w"
   refine Ki g3 ?_
   rw[DL ox.nd]
   refine ZC rfl rfl ?_
   refine Zo rfl rfl g2 rfl ?_
   refine⟨_,_,Ua PySem.F.slot_dict_get PySem.F.type_dict_get g4,trivial,?_⟩
   walk_at "w"
   refine Ki g4 ?_
   rw[DL oy.nd]
   refine⟨_,_,_,rfl,rfl,rfl,_,rfl,rfl,?_⟩
   refine Z7 (fun q=>?_) fun q=>?_
   ·walk_at "w"
    exact⟨rfl,if_pos q⟩
   ·exact if_neg fun z=>Bool.noConfusion (z.symm.trans q)
  ·rw[ZaR (fun j=>mget x.mem j !=mget y.mem j)]
   refine ZN (ZW ⟨nB rfl,_,rfl,Um (n:=19) (fun q_=>rfl) _,rfl,?_⟩)
   have hd:(!(((List.range wd).filter fun i:Nat=>mget x.mem (32768-(wd:Int)+i) !=mget y.mem (32768-(wd:Int)+i)).map fun i:Nat=>V.int (32768-(wd:Int)+i)).isEmpty)=WY x y wd:=by
    unfold WY
    rw[List.isEmpty_map,Bool.eq_iff_iff,List.any_eq_true,Bool.not_eq_true',List.isEmpty_eq_false_iff]
    rw[ne_eq,List.filter_eq_nil_iff]
    simp
   rw[hd]
   have htk:(ws.take (i+1)).any (WY x y)=WY x y wd:=by
    rw[List.take_add_one,hwd,List.any_append,hnd];simp
   refine Z7 (fun q=>?_) fun q=>?_
   ·walk_at "w"
    exact⟨σ,l2,congrArg V.bool (show true=changed x y ws from(List.any_eq_true.mpr ⟨wd,List.mem_of_getElem? hwd,q⟩).symm),rfl⟩
   ·walk_at "w"
    exact⟨⟨rfl,trivial⟩,rfl,by rw[htk];exact q⟩
 ·rintro ρ1 σ2 ⟨_,rfl,hnd⟩
  walk_at "w"
  rw[List.length_map,List.take_length]at hnd
  exact⟨σ,l2,congrArg V.bool (show false=changed x y ws from hnd.symm),rfl⟩
end
end
section
section
variable{σ₀ σ τ:Hp}{k:BK}{A:BA}{B:BS}{c:Ctx}{d:Nat}{ρ:Loc}{X:Addr→Loc→Hp→Prop}
inductive Zfl(c:Ctx)(d:Nat)(ρ:Loc)(X:Addr→Loc→Hp→Prop)(j:Expr)(Q:V→Hp→Prop)(v:V)(σ1:Hp):Prop
 |mk (m:MS) (h1:v=Yx m) (h2:WE c d j ρ σ1 (fun w σ2=>w=.int 4∧Q (.int m.rip) σ2) X):Zfl c d ρ X j Q v σ1
theorem Uz{e j:Expr}{p:Pos}{Q:V→Hp→Prop}(h:WE c d e ρ σ (Zfl c d ρ X j Q) X):WE c d (.Subscript e j p) ρ σ Q X:=
 Z8 (WE.mono h fun v σ1 ⟨m,e1,h1⟩=>WE.mono h1 fun w σ2 ⟨e2,q⟩=>⟨_,4,4,_,e1,e2,rfl,rfl,q⟩)
inductive Zfk(c:Ctx)(d:Nat)(ρ:Loc)(X:Addr→Loc→Hp→Prop)(j:Expr)(Q:V→Hp→Prop)(v:V)(σ1:Hp):Prop
 |mk (m:MS) (h1:v=Yx m) (h2:WE c d j ρ σ1 (fun w σ2=>w=.int 6∧Q (.bool m.halted) σ2) X):Zfk c d ρ X j Q v σ1
theorem HY{e j:Expr}{p:Pos}{Q:V→Hp→Prop}(h:WE c d e ρ σ (Zfk c d ρ X j Q) X):WE c d (.Subscript e j p) ρ σ Q X:=
 Z8 (WE.mono h fun v σ1 ⟨m,e1,h1⟩=>WE.mono h1 fun w σ2 ⟨e2,q⟩=>⟨_,6,6,_,e1,e2,rfl,rfl,q⟩)
inductive JFr(σ₁:Hp)(x:MS)(F:Addr)(n:Nat)(z:Nat)(ρ':Loc)(σ':Hp):Prop
 |mk (l:_) (b:_) (h1:Yt [("told",Yx x),("most",.int n),("found",.ref F),("base",.int b)] ρ') (h2:σ'={σ₁ with ls:=up σ₁.ls F (some (Yg l))}) (h3:0<l.length) (h4:z=n+1-l.length) (h5:l.length≤n+1) (h6:l++frs (fun p=>mload x.mem p 8) (n+1-l.length) b=x.rip::frs (fun p=>mload x.mem p 8) n (reg x 5)):JFr σ₁ x F n z ρ' σ'
theorem Zcm{x:MS}(ok:MOK x)(hz:x.mem.length≤1000){n:Nat}(hn:n≤100):Zd 6 (.ref 1176) [Yx x,.int n] σ (fun v σ'=>v=.lst (Yg (x.rip::frs (fun p=>mload x.mem p 8) n (reg x 5)))∧σ'=σ) noX:=by
 refine Zd.weakQ (Zd.fixL ?_)
 refine Zc (d:=5) ["told","most"] Wt (fun P=>by kernel_rfl) Zf (ZH fun x y=>rfl) rfl rfl rfl fun N=>?_
 walk_at "w"
 refine JR (names:=["found","base"]) ?_ rfl (fun q_ q_ q_ q_ q_ q_ q_ q_=>rfl)
 refine Zx ?_
 refine Zh (YE ?_) rfl
 refine Zh (Uz ?_) rfl
 walk_at "w"
 refine⟨x,rfl,?_⟩
 walk_at "w"
 refine⟨rfl,?_⟩
 walk_at "w"
 refine⟨nB rfl,fun F hF=>?_⟩
 refine Zh (QF (r:=5) (by decide) ?_) rfl
 walk_at "w"
 refine⟨x,rfl,ok,?_⟩
 walk_at "w"
 refine⟨rfl,?_⟩
 walk_at "w"
 refine⟨rfl,?_⟩
 walk_at "w"
 refine⟨nB rfl,_,rfl,rfl,?_⟩
 walk_at "w"
 obtain⟨σ₁,rfl⟩:∃x,x=σ:=⟨_,rfl⟩
 refine U8 (JFr σ₁ x F n) _ ⟨[x.rip],_,⟨rfl,rfl,rfl,rfl,trivial⟩,rfl,by simp,rfl,by simp,rfl⟩ ?_
 rintro z ρ' σ' ⟨l,b,hsub,rfl,hpos,rfl,hl,hfr⟩
 refine⟨_,hsub,?_⟩
 refine WT.mono (Q:=fun t σ'=>σ'=({σ₁ with ls:=up σ₁.ls F (some (Yg l))}:Hp)∧t=(b !=0&&decide (l.length≤n))) ?_ ?_
 ·refine ZY (ZE (Zq (Zl ?_ rfl) rfl))
  walk_at "w"
  refine⟨_,_,_,rfl,rfl,rfl,_,rfl,?_⟩
  refine Z7 (fun q=>ZE (Zq (Zl ?_ rfl) rfl)) fun q=>⟨rfl,by rw[q];rfl⟩
  walk_at "w"
  refine Z4 rfl rfl rfl rfl YT YU trivial ?_
  walk_at "w"
  refine YX (up_self ..) (by rw[List.length_map];lia) ?_
  walk_at "w"
  refine⟨_,_,_,rfl,rfl,rfl,_,rfl,?_⟩
  rw[List.length_map]
  have e:decide ((l.length:Int)≤n)=decide (l.length≤n):=by simp
  refine Z7 (fun q2=>Ym ⟨rfl,by rw[q,←e,q2];rfl⟩) fun q2=>⟨rfl,by rw[q,←e,q2];rfl⟩
 rintro t σ2 ⟨rfl,rfl⟩
 refine Z7 (fun q=>?_) fun q=>?_
 ·simp only[Bool.and_eq_true,bne_iff_ne,decide_eq_true_eq]at q
  obtain⟨q1,q2⟩:=q
  obtain⟨t,ht⟩:∃t,n+1-l.length=t+1:=⟨n-l.length,Nat.succ_sub q2⟩
  rw[ht]at hfr
  rw[Om q1]at hfr
  walk_at "w"
  refine ZC rfl rfl ?_
  walk_at "w"
  refine⟨_,_,Yb PySem.F.slot_list_append PySem.F.type_list_append (up_self ..),trivial,?_⟩
  walk_at "w"
  refine Zb rfl rfl rfl rfl QP ?_
  walk_at "w"
  walk_at "w"
  refine⟨_,_,_,rfl,rfl,rfl,?_⟩
  walk_at "w"
  refine(Hj ok hz).e (nB rfl) ?_
  walk_at "w"
  refine Yo (up_self ..) (by rw[List.length_map];exact Nat.le_trans (by assumption) (Nat.le_trans (by assumption) (by decide))) ?_
  simp only[ZQ]
  rw[Bq]
  walk_at "w"
  refine Zb rfl rfl rfl rfl QP ?_
  walk_at "w"
  refine(Hj ok hz).e (nB rfl) ?_
  walk_at "w"
  refine UQ (Zq (Zl ?_ rfl) rfl)
  walk_at "w"
  refine⟨_,_,_,rfl,rfl,rfl,_,rfl,?_⟩
  have key:∀b',b'=(if b<mload x.mem b 8 then mload x.mem b 8 else 0)→Zaq (JFr σ₁ x F n) (n+1-l.length) (aset (aset [("told",Yx x),("most",.int n),("found",.ref F),("base",.int b)] "older" (.int (mload x.mem b 8))) "base" (.int b')) ({σ₁ with ls:=up σ₁.ls F (some (Yg (l++[mload x.mem (b+8) 8])))}:Hp):=by
   rintro b' rfl
   refine⟨n+1-(l++[mload x.mem (b+8) 8]).length,?_,l++[mload x.mem (b+8) 8],_,⟨rfl,rfl,rfl,rfl,trivial⟩,rfl,by simp,rfl,?_,?_⟩
   ·rw[List.length_append,List.length_singleton];exact Nat.pred_lt (fun e=>absurd (ht.symm.trans e) (Nat.succ_ne_zero t))
   ·rw[List.length_append,List.length_singleton];exact Nat.succ_le_succ q2
   ·rw[List.length_append,List.length_singleton,show n+1-(l.length+1)=t from congrArg Nat.pred ht,←hfr,List.append_assoc]
    rfl
  refine VB (fun q3=>?_) fun q3=>?_
  ·walk_at "w"
   exact key _ (if_pos q3).symm
  ·walk_at "w"
   exact key _ (if_neg q3).symm
 ·have hfin:l=x.rip::frs (fun p=>mload x.mem p 8) n (reg x 5):=by
   rw[←hfr]
   by_cases q2:l.length≤n
   ·have q1:b=0:=by simpa [q2]using q
    obtain⟨t,ht⟩:∃t,n+1-l.length=t+1:=⟨n-l.length,Nat.succ_sub q2⟩
    rw[ht,frs,if_pos q1,List.append_nil]
   ·rw[show n+1-l.length=0 from Nat.sub_eq_zero_of_le (Nat.lt_of_not_le q2),frs,List.append_nil]
  walk_at "w"
  exact⟨F,_,rfl,up_self ..,σ₁,((Hp.Le.refl σ₁).nl hF _).nl hF none,by rw[hfin],rfl⟩
end
end
section
section
variable{σ₀ σ τ:Hp}{k:BK}{A:BA}{B:BS}{c:Ctx}{d:Nat}{ρ:Loc}{X:Addr→Loc→Hp→Prop}
noncomputable def wmet(pts:List (Int×Int))(rip:Int):Bool×List (Int×Int):=match aget pts rip with
 |none=>(false,pts)
 |some v=>if v=0 then(true,pts)else(false,aset pts rip (v-1))
noncomputable def wled(l:List (Str×MS))(ws:List Nat)(ov:Nat→Bool):Nat→Nat→List (Int×Int)→Str×Nat×List (Int×Int)
 |0,i,pts=>("most",i,pts)
 |n+1,i,pts=>match l[i]?,l[i+1]? with
  |some x,some y=>
   if changed x.2 y.2 ws=true then("watch",i+1,pts)
   else if y.2.halted=true then("halted",i+1,pts)
   else if ov (i+1)=true then("step",i+1,pts)
   else if(wmet pts y.2.rip).1=true then("break",i+1,pts)
   else wled l ws ov n (i+1) (wmet pts y.2.rip).2
  |_,_=>("fault",i,pts)
noncomputable def Zgz(σ₀:Hp)(k:BK)(A:BA)(f:FuncData)(ov:Nat→Bool):Prop:=∀σ B j,Big σ₀ σ k A B→j<k.l.length→Zd 4 (.lam f) [.int (j:Nat)] σ (fun x σ'=>x=.bool (ov j)∧σ'=σ) noX
structure KOK(k:BK):Prop where
 len:k.l.length≤100
 ok:∀x∈k.l,MOK x.2∧x.2.mem.length≤1000
inductive Zfj(σ₀:Hp)(k:BK)(A:BA)(B:BS)(ov:Nat→Bool)(most:Nat)(x:V)(σ':Hp):Prop
 |mk (r:_) (i':_) (pts':_) (h1:x=.str r) (h2:wled k.l B.ws ov most B.i B.pts=(r,i',pts')) (h3:Big σ₀ σ' k A {B with i:=i',pts:=pts'}):Zfj σ₀ k A B ov most x σ'
inductive JWl(σ₀:Hp)(k:BK)(A:BA)(B:BS)(ov:Nat→Bool)(f:FuncData)(most:Nat)(t:Nat)(ρ':Loc)(σ':Hp):Prop
 |mk (h1:Yt [("world",.ref A.w.Wd),("is_over",.lam f),("tellings",.lst (Y7 k.l))] ρ') (i1:_) (pts1:_) (h2:Big σ₀ σ' k A {B with i:=i1,pts:=pts1}) (h3:i1<k.l.length) (h4:pts1.length≤100) (h5:wled k.l B.ws ov (most-t) i1 pts1=wled k.l B.ws ov most B.i B.pts):JWl σ₀ k A B ov f most t ρ' σ'
theorem Big.c_wled(G:Big σ₀ σ k A B)(K:KOK k){f:FuncData}{ov:Nat→Bool}(HO:Zgz σ₀ k A f ov){most:Nat}(hm:most≤100)(hi:B.i<k.l.length)(hw:∀w∈B.ws,w≤1000)(hl:B.ws.length≤100)(hp:B.pts.length≤100):
  Zd 8 (.ref 1169) [.ref A.w.Wd,.int most,.lam f] σ (Zfj σ₀ k A B ov most) noX:=by
 have hK:k.l.length≤1000:=Nat.le_trans K.len (by decide)
 refine Zc (d:=7) ["world","most","is_over"] Ga (fun P=>by kernel_rfl) Zf (Jr fun x y z=>rfl) rfl rfl rfl fun N=>?_
 walk_at "w"
 refine ZR ?_
 walk_at "w"
 refine⟨_,_,_,G.wd,rfl,rfl,?_⟩
 walk_at "w"
 refine Q4 rfl (.inl rfl) (fun q_ q_=>rfl) (Y9 (YH rfl JD JE rfl ⟨rfl,?_⟩) rfl)
 walk_at "w"
 refine⟨most,rfl,by exact Nat.lt_of_le_of_lt (by assumption) (by decide),JWl σ₀ k A B ov f most,⟨⟨rfl,rfl,rfl,trivial⟩,B.i,B.pts,G,hi,hp,rfl⟩,fun q_ q_ q_ q_=>trivial,?_,?_⟩
 ·rintro t v ρ1 σ1 hv ⟨⟨s1,s2,s3,_⟩,i1,pts1,G1,hi1,hp1,hk⟩
  have ht0:t<most:=by
   have:=(List.getElem?_eq_some_iff.mp hv).1
   simpa using this
  obtain⟨n,hn⟩:∃n,most-t=n+1:=⟨_,(Nat.succ_pred (Nat.sub_ne_zero_of_lt ht0)).symm⟩
  rw[hn]at hk
  refine Zy (Zg rfl ?_)
  refine WS.view (ρ':=[("world",.ref A.w.Wd),("is_over",.lam f),("tellings",.lst (Y7 k.l))]) ⟨Z9 s1 (by decide),Z9 s2 (by decide),Z9 s3 (by decide),trivial⟩ ?_
  walk_at "w"
  refine ZR ?_
  walk_at "w"
  refine⟨_,_,_,G1.wd,rfl,rfl,?_⟩
  walk_at "w"
  refine Zq (Zl ?_ rfl) rfl
  walk_at "w"
  walk_at "w"
  refine⟨_,_,_,rfl,rfl,rfl,?_⟩
  refine Z4 rfl rfl rfl rfl YT YU trivial ?_
  walk_at "w"
  refine YX (vs:=Y7 k.l) rfl (by rw[List.length_map];exact Nat.le_trans (by assumption) (by decide)) ?_
  refine⟨_,_,_,rfl,rfl,rfl,_,rfl,?_⟩
  rw[List.length_map]
  obtain⟨x,hx⟩:∃x,k.l[i1]? =some x:=⟨_,List.getElem?_eq_getElem hi1⟩
  obtain⟨ox,zx⟩:=K.ok x (List.mem_of_getElem? hx)
  refine Z7 (fun q=>?_) fun q=>?_
  ·have q':i1+1=k.l.length:=by
    have:((i1:Int)+1)=(k.l.length:Int):=by simpa using q
    lia
   walk_at "w"
   refine⟨_,i1,pts1,rfl,?_,G1⟩
   rw[←hk,wled,hx,show k.l[i1+1]? =none from by rw[List.getElem?_eq_none_iff];exact Nat.le_of_eq (Eq.symm (by assumption))]
  have q':i1+1<k.l.length:=by
   have:((i1:Int)+1)≠(k.l.length:Int):=by simpa using q
   lia
  obtain⟨y,hy⟩:∃y,k.l[i1+1]? =some y:=⟨_,List.getElem?_eq_getElem q'⟩
  obtain⟨oy,zy⟩:=K.ok y (List.mem_of_getElem? hy)
  have hy':(Y7 k.l)[i1+1]? =some (Yx y.2):=Uk hy
  have py:place ((i1:Int)+1) (Y7 k.l).length=some (i1+1):=Jz hy hK
  rw[wled,hx,hy]at hk
  simp only at hk
  walk_at "w"
  refine HV ?_
  walk_at "w"
  walk_at "w"
  refine⟨_,_,_,rfl,rfl,rfl,?_⟩
  walk_at "w"
  refine⟨_,_,_,rfl,G1.wd,rfl,(by show 7≤_;decide),?_⟩
  have G2:=G1.setAt (i:=i1+1)
  refine WS.big (σ:={σ1 with ss:=up σ1.ss A.w.Wd (some (UU k A.w (i1+1)))}) G2 fun τ G2=>?_
  walk_at "w"
  refine Yl ?_ rfl
  refine Zb rfl rfl rfl rfl Hc ?_
  walk_at "w"
  refine Zp ?_
  walk_at "w"
  refine⟨_,_,_,_,rfl,rfl,Jz hx hK,Uk hx,?_⟩
  walk_at "w"
  refine Zp ?_
  walk_at "w"
  walk_at "w"
  refine⟨_,_,_,rfl,rfl,rfl,?_⟩
  refine⟨_,_,_,_,rfl,rfl,py,hy',?_⟩
  walk_at "w"
  refine ZR ?_
  walk_at "w"
  refine⟨_,_,_,G2.wd,rfl,rfl,?_⟩
  walk_at "w"
  refine(Zbc ox oy zx zy G2.wW (by show B.ws.length≤_;exact Nat.le_trans (by assumption) (by decide)) hw).e (nB rfl) ?_
  refine⟨_,rfl,?_⟩
  refine Z7 (fun q1=>?_) fun q1=>?_
  ·rw[if_pos q1]at hk
   walk_at "w"
   exact⟨_,i1+1,pts1,rfl,hk.symm,G2⟩
  rw[if_neg (by rw[q1];decide)]at hk
  walk_at "w"
  refine Yl ?_ rfl
  refine HY (Zp ?_)
  walk_at "w"
  walk_at "w"
  refine⟨_,_,_,rfl,rfl,rfl,?_⟩
  refine⟨_,_,_,_,rfl,rfl,py,hy',?_⟩
  refine⟨y.2,rfl,?_⟩
  walk_at "w"
  refine⟨rfl,_,rfl,?_⟩
  refine Z7 (fun q2=>?_) fun q2=>?_
  ·rw[if_pos q2]at hk
   walk_at "w"
   exact⟨_,i1+1,pts1,rfl,hk.symm,G2⟩
  rw[if_neg (by rw[q2];decide)]at hk
  walk_at "w"
  refine Yl (Qi rfl rfl ?_) rfl
  walk_at "w"
  refine⟨trivial,?_⟩
  walk_at "w"
  walk_at "w"
  refine⟨_,_,_,rfl,rfl,rfl,?_⟩
  walk_at "w"
  refine(HO _ _ (i1+1) G2 q').e (nB rfl) ?_
  refine⟨_,rfl,?_⟩
  refine Z7 (fun q3=>?_) fun q3=>?_
  ·rw[if_pos q3]at hk
   walk_at "w"
   exact⟨_,i1+1,pts1,rfl,hk.symm,G2⟩
  rw[if_neg (by rw[q3];decide)]at hk
  refine Ji ?_
  refine Zn (Y5 ?_ rfl)
  refine Uz (Zp ?_)
  walk_at "w"
  walk_at "w"
  refine⟨_,_,_,rfl,rfl,rfl,?_⟩
  refine⟨_,_,_,_,rfl,rfl,py,hy',?_⟩
  refine⟨y.2,rfl,?_⟩
  walk_at "w"
  refine⟨rfl,?_⟩
  walk_at "w"
  refine Zq (Hu (ne:=false) ?_ rfl) rfl
  walk_at "w"
  refine ZR ?_
  walk_at "w"
  refine⟨_,_,_,G2.wd,rfl,rfl,?_⟩
  refine⟨_,_,rfl,G2.wP,_,rfl,?_⟩
  rw[VA]
  unfold wmet at hk
  cases hpl:aget pts1 y.2.rip with
  |none=>
   rw[hpl]at hk
   simp only[Bool.false_eq_true,if_false]at hk
   refine Zk ?_
   walk_at "w"
   exact⟨⟨rfl,rfl,rfl,trivial⟩,i1+1,pts1,G2,q',hp1,by rw[show most-(t+1)=n from congrArg Nat.pred hn];exact hk⟩
  |some v=>
   rw[hpl]at hk
   simp only at hk
   refine Zs ?_
   walk_at "w"
   refine Zq (Zl ?_ rfl) rfl
   refine HZ ?_
   refine ZR ?_
   walk_at "w"
   refine⟨_,_,_,G2.wd,rfl,rfl,?_⟩
   walk_at "w"
   refine⟨_,_,_,G2.wP,rfl,by rw[VA,hpl];rfl,?_⟩
   walk_at "w"
   refine⟨_,_,_,rfl,rfl,rfl,_,rfl,?_⟩
   refine Z7 (fun q4=>?_) fun q4=>?_
   ·rw[if_pos (show v=0 from by simpa using q4)]at hk
    walk_at "w"
    exact⟨_,i1+1,pts1,rfl,hk.symm,G2⟩
   ·rw[if_neg (show ¬v=0 from by simpa using q4)]at hk
    simp only[Bool.false_eq_true,if_false]at hk
    walk_at "w"
    refine Qs ?_
    refine JL ?_
    refine HZ ?_
    refine ZR ?_
    walk_at "w"
    refine⟨_,_,_,G2.wd,rfl,rfl,?_⟩
    walk_at "w"
    refine⟨_,_,_,G2.wP,rfl,by rw[VA,hpl];rfl,?_⟩
    walk_at "w"
    refine⟨_,_,_,rfl,rfl,rfl,?_⟩
    refine ZR ?_
    walk_at "w"
    refine⟨_,_,_,G2.wd,rfl,rfl,?_⟩
    walk_at "w"
    refine⟨_,_,_,rfl,G2.wP,rfl,by rw[ZI,List.length_map];show pts1.length≤_;exact Nat.le_trans (by assumption) (by decide),?_⟩
    rw[Vf]
    refine WS.big G2.setWP fun τ G3=>?_
    walk_at "w"
    exact⟨⟨rfl,rfl,rfl,trivial⟩,i1+1,_,G3,q',by rw[Ge hpl];exact hp1,by rw[show most-(t+1)=n from congrArg Nat.pred hn];exact hk⟩
 ·rintro ρ1 σ1 ⟨_,i1,pts1,G1,hi1,hp1,hk⟩
  walk_at "w"
  rw[List.length_map,List.length_range,Nat.sub_self]at hk
  exact⟨"most",i1,pts1,rfl,hk.symm,G1⟩
end
end
section
section
variable{w:World}{os₀:OsState}{lv:Option Addr}{d d':Nat}{c:Ctx}{A:Around}{env:Env}{k k' g g':Frz}{ρ ρ':Loc}{σ σ':Hp}{s s':Shared}{X:Addr→Loc→Hp→Prop}{a:Addr}
theorem BI{D C:Addr}{m:Str→Option Value}{x:Str}{p:Pos}{v:V}{N:Loc→Hp→Prop}{Q':Value→Shared→Prop}{E':Value→Shared→Prop}(S:Sit w os₀ d c A env k g ρ σ s)(F:Apart [C] k g σ)(n:s.heap.Ns C m)(r:VR w g v (.ref D))(hn:WN c x v ρ σ N)
  (h:∀ρ' σ' s',Sit w os₀ d c A env k g ρ' σ' s'→N ρ' σ'→Q' .none s'):compPost (model PW w) A E' (some (assign (.Name x p) env)) Q' (.ref D) C (.ok .next) s:=by
 have S1:=S.Jd F
 refine wpAny_assign_Name (hn.run w os₀ A env _ g s (.ref D) _ E' S1.toZU r fun ρ' σ' s' S2 hN=>?_)
 obtain⟨o,es,ep,e1,e2,e3⟩:=n
 have hk:Internal.Jd k [C] s.heap C=some o:=(WQ (.head _)).trans e1
 have hb:env.locals≠C:=fun z=>by have:=S.kl;rw[z,(F C (.head _)).1]at this;cases this
 obtain⟨sl,q,_⟩:=S2.st.kp C o (fun z=>hb (Option.some.inj z)) hk
 have l:Le k (Internal.Jd k [C] s.heap):=Gq fun b m=>(F b m).1
 have S3:Sit w os₀ d c A env k g ρ' σ' s':=(S1.mk' S2).unhide l S.st.m2 S.kl S.frs (S.pins.mono (Le.refl k) (Le.refl g))
 have F3:Apart [C] k g σ':=fun b m=>by
  have hm:=m
  rw[List.mem_singleton]at m;subst m
  exact⟨(F _ hm).1,S2.st.kg _ _ hk,S2.st.freeOf hk⟩
 exact⟨m,⟨_,es,ep,q,e2,e3⟩,fun h' hs=>h _ _ _ (S3.mk' (S3.toZU.butL (Le.refl g) (S3.st.butL F3 (Uy hs) rfl rfl) F3 (Uy hs))) hN⟩
inductive ZcP(d:Nat)(c:Ctx)(ρ:Loc)(elt:Expr)(t:Expr)(ifs:List Expr)(scope:Scope)(x:Str)(cl:List (Str×Addr))(N:Loc→Hp→Prop)(items:List V)(Ok:Hp→Prop)(σ1:Hp):Prop
 |mk (h1:Ok σ1) (h2:items.length≤1000) (F:V→Option V) (h3:(∀v∈items,Hy (W0 c scope cl) d t elt ifs σ1 v (F v))) (h4:WN c x (.lst (items.filterMap F)) ρ σ1 N):ZcP d c ρ elt t ifs scope x cl N items Ok σ1
set_option tactic.hygienic true in
theorem Zcq{elt t it:Expr}{ifs:List Expr}{scope:Scope}{x:Str}{p pos pos':Pos}{cl:List (Str×Addr)}{N:Loc→Hp→Prop}{R:V→Hp→Prop}(hh:c.hd=none)(ht:VZ t)(hf:∀env x,foldedSetIterable it env x=pure x)
  (hcl:Uw scope.names c.cells []=some cl) (hkind:scope.kind=.function) (hcell:∀x∈scope.names,x.2≠.cell) (hnames:∀x∈scope.names,x.2=.local→scope.names.lookup x.1=some .local)
  (hsw:∀env:Env,env.scope=c.scope→swapsWith (.ListComp elt [⟨t,it,ifs,0⟩] scope pos') (some (.Name x p)) pos.line env=pure true)
  (h:WIt c d it ρ σ (ZcP d c ρ elt t ifs scope x cl N) X):WX c d (.Assign [.Name x p] (.ListComp elt [⟨t,it,ifs,0⟩] scope pos') pos) ρ σ N R X:=
 WX.mk fun w os₀ A env k g s Q' E' S hE hN hR=>by
  have hA:A.handled=none:=by rw[S.hd,hh];rfl
  rw[exec_Assign_Name_used _ _ _ _ (hsw env S.scope)]
  refine wpAny_bind (wpAny_standAt (wpAny_bind ?_))
  rw[arm_evalThenUse_ListComp]
  refine wpAny_bind (wpAny_mono (wpAny_comprehension_free (use:=some (assign (.Name x p) env)) (Q:=fun q_ s'=>Q' .next s') rfl (hf env) (Q8 (by rw[S.cells];exact hcl)) hkind hnames ?_)
   (fun q_ s' hq=>wpAny_pure (wpAny_pure hq)) fun q_ q_ e=>e)
  refine h.run w os₀ A env k g s _ _ S hE hA fun I fp At items Ok σ1 g1 s1 l1 S1 ST at0 F1 h1=>?_
  obtain⟨ok,hz,F,body,q⟩:=h1
  exact XY (cc:=W0 c scope cl) S1 hA rfl rfl rfl rfl rfl rfl JI.nil (fun p m=>by cases m) rfl hkind hcell ht ST at0 (Frz.le_none k) ok F1 hz body fun D C s' g' m l r S' q_ FC n=>
   BI S' FC n r q fun ρ2 σ2 s2 S2 h2=>hN _ _ g' _ (l1.trans l) S2 h2
end
end
section
section
variable{σ₀ σ τ:Hp}{k:BK}{A:BA}{B:BS}{c:Ctx}{d:Nat}{ρ:Loc}{X:Addr→Loc→Hp→Prop}
inductive Zfi(Q:Bool→Hp→Prop)(a:V)(b:V)(σ2:Hp):Prop
 |mk (v:_) (h1:deref σ2 a=v) (h2:deref σ2 b=v) (h3:V.isD 20 v=true) (h4:Q false σ2):Zfi Q a b σ2
theorem Ku{l r:Expr}{pos:Pos}{Q:Bool→Hp→Prop}(h:WE c d l ρ σ (fun a σ1=>WE c d r ρ σ1 (Zfi Q a) X) X)(hm:behindInMarks .NotEq r=false):WT c d (.Compare l [.NotEq] [r] pos) ρ σ Q X:=
 Zq (UX (ne:=true) (WE.mono h fun a σ1 h1=>WE.mono h1 fun b σ2 ⟨v,e1,e2,e3,q⟩=>by
  rw[e1,e2,DI]
  exact⟨e3,e3,_,rfl,q⟩) hm) hm
inductive Zfh(Q:V→Hp→Prop)(a:V)(b:V)(σ2:Hp):Prop
 |mk (v:_) (h1:deref σ2 a=v) (h2:deref σ2 b=v) (h3:V.isD 20 v=true) (h4:Q (.bool true) σ2):Zfh Q a b σ2
theorem Ba{l r:Expr}{pos:Pos}{Q:V→Hp→Prop}(h:WE c d l ρ σ (fun a σ1=>WE c d r ρ σ1 (Zfh Q a) X) X)(hm:behindInMarks .Eq r=false):WE c d (.Compare l [.Eq] [r] pos) ρ σ Q X:=
 UX (ne:=false) (WE.mono h fun a σ1 h1=>WE.mono h1 fun b σ2 ⟨v,e1,e2,e3,q⟩=>by
  rw[e1,e2,DI]
  exact⟨e3,e3,q⟩) hm
theorem ZbN(m:MS):V.isD 20 (Yx m)=true:=by
 rw[show Yx m=.tup [.tup (Jy m.regs),.tup (List.replicate 16 (.int 0)),.tup (List.replicate 7 (.int 0)),.tup (Zr (srt (nzs m.mem))),.int m.rip,.tup [.int 0,.int 0],.bool m.halted]from rfl]
 have h1:(Jy m.regs).all (V.isD 18)=true:=Um (n:=18) (fun q_=>rfl) m.regs
 have h2:(Zr (srt (nzs m.mem))).all (V.isD 18)=true:=Um (n:=18) (fun q_=>rfl) _
 show(((Jy m.regs).all (V.isD 18))&&(true&&(true&&((Zr (srt (nzs m.mem))).all (V.isD 18)&&true))))=true
 rw[h1,h2];rfl
theorem Gz{l:List (Str×MS)}{i:Nat}{x:Str×MS}(h:l[i]? =some x):(Jg l l.length)[i]? =some (cbV (cbN l i)):=by
 rw[List.getElem?_map,List.getElem?_range (List.getElem?_eq_some_iff.mp h).1];rfl
theorem VP{l:List (Str×MS)}{i:Nat}{x:Str×MS}(h:l[i]? =some x)(hl:l.length≤1000):place (i:Int) (Jg l l.length).length=some i:=Z3 (by rw[List.length_map,List.length_range];exact(List.getElem?_eq_some_iff.mp h).1) (by rw[List.length_map,List.length_range];exact Nat.lt_of_le_of_lt (by assumption) (by decide))
structure Same(k:BK)(B:BS):Prop where
 at_:∃nm x,k.l[B.i]? =some ((nm,x):Str×MS)∧Yx B.m=Yx x∧B.d.latest=nm∧reg B.m 4=reg x 4∧B.m.rip=x.rip∧
  frs (fun p=>mread B.m.mem p 8) 3 (reg B.m 5)=frs (fun p=>mload x.mem p 8) 3 (reg x 5)∧
  (∀i:Nat,i<2→mread B.m.mem (reg B.m 4+8*i) 8=mload x.mem (reg x 4+8*i) 8)
 cnt:B.d.count=B.i
 cs:B.d.cs=(cbN k.l B.i).cs
 bs:B.d.bs=(cbN k.l B.i).bs
theorem Big.c_stands(SO:U9)(G:Big σ₀ σ k A B)(K:KOK k)(S:Same k B)(hz:B.m.mem.length≤1000)(hcs:B.d.cs.length≤1000):
  Zd 8 (.ref 1181) [.ref A.b.D,.ref A.w.Wd] σ (fun v σ'=>v=.bool true∧Big σ₀ σ' k A B) noX:=by
 have hK:k.l.length≤1000:=by have:=K.len;exact Nat.le_trans (by assumption) (by decide)
 obtain⟨⟨nm,x,hx,e1,e2,e3,e4,e5,e6⟩,e7,e8,e9⟩:=S
 obtain⟨ox,zx⟩:=K.ok _ (List.mem_of_getElem? hx)
 refine Yq (d:=7) (ns:=["debugger","world"]) Uo (fun P=>by kernel_rfl) rfl Zf (ZH fun x y=>rfl) rfl fun n hn=>?_
 rw[show cellsσ (n+1) Uo.scope.names σ={σ with cs:=up (up σ.cs (n+1) (some none)) (n+2) (some none)}from rfl]
 have hc1:=(hn (n+1) (Nat.le_succ n)).cs
 have hc2:=(hn (n+2) (Nat.le_add_right n 2)).cs
 have h12:n+1≠n+2:=Nat.ne_of_lt (Nat.lt_succ_self (n+1))
 refine Zg rfl (Zg rfl ?_)
 refine WS.gen fun τ1 d1=>?_
 have f1:τ1.cs (n+1)=some none:=by rw[d1];exact(Ze _ _ h12).trans (up_self ..)
 have f2:τ1.cs (n+2)=some none:=by rw[d1];exact up_self ..
 have l1:σ.Le τ1:=by rw[d1];exact((Hp.Le.refl σ).nc hc1 _).nc hc2 _
 have G1:=G.grow l1
 walk_at "w"
 refine ZR ?_
 walk_at "w"
 refine⟨_,_,_,G1.wd,rfl,rfl,?_⟩
 walk_at "w"
 refine Vx ?_ (fun q_ q_ q_ q_ q_ q_ q_ q_=>rfl)
 refine Zx ?_
 refine Zh (Zp (ZR ?_)) rfl
 walk_at "w"
 refine⟨_,_,_,G1.wd,rfl,rfl,?_⟩
 walk_at "w"
 refine⟨_,_,_,_,rfl,rfl,Jz hx hK,Uk hx,?_⟩
 refine Zh (Zp (ZR ?_)) rfl
 walk_at "w"
 refine⟨_,_,_,G1.wd,rfl,rfl,?_⟩
 walk_at "w"
 refine⟨_,_,_,_,rfl,rfl,VP hx hK,Gz hx,?_⟩
 walk_at "w"
 refine⟨nB rfl,?_⟩
 refine Q6 rfl rfl rfl (fun q_=>rfl) ?_
 refine Zy (ZP rfl rfl f1 (Zy (Zg rfl ?_)))
 refine WS.gen fun τ2 d2=>?_
 have g1:τ2.cs (n+1)=some (some (Yx x)):=by rw[d2];exact up_self ..
 have g2:τ2.cs (n+2)=some none:=by rw[d2];exact(Ze _ _ h12.symm).trans f2
 have l2:σ.Le τ2:=by rw[d2];exact l1.nc hc1 _
 have G2:=G.grow l2
 refine Zn (Ja (ZY (ZZ (Zq (Zl ?_ rfl) rfl))))
 walk_at "w"
 refine⟨_,_,_,Za G2.dbg,UE,rfl,rfl,?_⟩
 walk_at "w"
 refine⟨_,_,_,rfl,rfl,rfl,_,rfl,?_⟩
 rw[show((B.d.count:Int) !=(B.i:Int))=false from by rw[e7];simp]
 refine Zk (ZZ (Ku ?_ rfl))
 refine Zj rfl rfl ?_
 walk_at "w"
 refine⟨_,_,_,Za G2.dbg,Zm,rfl,rfl,?_⟩
 refine⟨_,_,_,Za G2.mst.st,UB,rfl,?_⟩
 walk_at "w"
 refine(Vv SO G2.mst hz).e (nB rfl) ?_
 refine Zo rfl rfl g1 rfl ?_
 refine⟨Yx x,e1,rfl,ZbN x,?_⟩
 refine Zk (ZZ (JF ?_ rfl))
 walk_at "w"
 refine⟨_,_,_,Za G2.dbg,Jf,rfl,rfl,?_⟩
 refine Zp (ZR ?_)
 walk_at "w"
 refine⟨_,_,_,G2.wd,rfl,rfl,?_⟩
 walk_at "w"
 refine⟨_,_,_,_,rfl,rfl,Ql hx hK,UW hx,?_⟩
 refine⟨_,_,rfl,rfl,?_⟩
 rw[show(B.d.latest !=nm)=false from by rw[e2];simp]
 refine Zk (Ym (Zk ?_))
 refine Ji ?_
 refine Zn (Ja (ZY (ZZ (Ku ?_ rfl))))
 walk_at "w"
 refine⟨_,_,_,Za G2.dbg,ZB,rfl,rfl,?_⟩
 refine Z8 ?_
 walk_at "w"
 refine⟨_,0,0,_,rfl,rfl,rfl,rfl,?_⟩
 refine⟨.lst (Zr B.d.cs),UP G2.dC,by rw[e8];rfl,QJ _ 18,?_⟩
 refine Zk (ZZ (Ku ?_ rfl))
 walk_at "w"
 refine⟨_,_,_,Za G2.dbg,U3,rfl,rfl,?_⟩
 refine Z8 ?_
 walk_at "w"
 refine⟨_,1,1,_,rfl,rfl,rfl,rfl,?_⟩
 refine⟨.lst (Zr B.d.bs),UP G2.dB,by rw[e9];rfl,QJ _ 18,?_⟩
 refine Zk (ZZ (Ku ?_ rfl))
 refine Zj rfl rfl ?_
 walk_at "w"
 refine⟨_,_,_,Za G2.dbg,K4,rfl,?_⟩
 walk_at "w"
 refine(G2.c_where hcs).e (nB rfl) ?_
 refine Qt ?_
 refine ZN ?_
 refine Zh (Uz (Zo rfl rfl g1 rfl ?_)) rfl
 refine⟨x,rfl,?_⟩
 walk_at "w"
 refine⟨rfl,?_⟩
 walk_at "w"
 refine⟨nB rfl,?_⟩
 refine UY rfl (.inl rfl) (fun q_ q_=>rfl) rfl rfl (by decide) (by decide+kernel) (Ur (Oy ?_))
 refine Z8 ?_
 walk_at "w"
 refine⟨_,0,0,_,rfl,rfl,rfl,rfl,?_⟩
 refine Jw ?_
 walk_at "w"
 refine⟨_,rfl,?_⟩
 refine⟨_,rfl,by rw[List.length_map,←e8];exact Nat.le_trans (by assumption) (by decide),rfl,?_⟩
 refine⟨_,rfl,rfl,by rw[List.length_reverse,List.length_map,←e8];assumption,tAt 0,?_,?_⟩
 ·intro v hv
  obtain⟨w,hw1,rfl⟩:=List.mem_map.mp (List.mem_reverse.mp hv)
  refine Zy (Zg rfl ⟨rfl,rfl,Zs ?_⟩)
  refine Z8 ?_
  walk_at "w"
  exact⟨_,0,0,_,rfl,rfl,rfl,rfl,rfl,rfl⟩
 have ew:((Zr (cbN k.l B.i).cs).reverse.filterMap (tAt 0))=B.d.cs.reverse.map fun p=>V.int p.1:=by
  rw[←List.map_reverse,List.filterMap_map,e8]
  exact List.filterMap_eq_map' (f:=fun p:Int×Int=>V.int p.1)▸rfl
 rw[ew]
 refine⟨_,_,rfl,rfl,by rw[List.length_map,List.length_reverse];exact Nat.le_trans (Nat.add_le_add_left hcs 1) (by decide),?_⟩
 refine⟨.lst (.int B.m.rip::B.d.cs.reverse.map fun p:Int×Int=>.int p.1),rfl,by rw[e4];rfl,Um (n:=19) (f:=fun p:Int×Int=>V.int p.1) (fun q_=>rfl) ((B.m.rip,0)::B.d.cs.reverse),?_⟩
 refine Zk (Ym (Zk ?_))
 refine Ji ?_
 refine Zn (Y5 ?_ rfl)
 refine QF (r:=4) (by decide) (Zo rfl rfl g1 rfl ?_)
 refine⟨x,rfl,ox,?_⟩
 walk_at "w"
 refine⟨rfl,?_⟩
 walk_at "w"
 refine⟨rfl,?_⟩
 refine ZP rfl rfl g2 ?_
 refine WS.gen fun τ3 d3=>?_
 have j1:τ3.cs (n+1)=some (some (Yx x)):=by rw[d3];exact(Ze _ _ h12).trans g1
 have j2:τ3.cs (n+2)=some (some (.int (reg x 4))):=by rw[d3];exact up_self ..
 have l3:σ.Le τ3:=by rw[d3];exact l2.nc hc2 _
 have G3:=G.grow l3
 refine Zn (Zcq rfl (.inl rfl) (fun q_ q_=>rfl) rfl rfl (by decide) (by decide+kernel) (fun env h=>by cases env;cases h;rfl) ?_)
 refine Y9 (YH rfl JD JE rfl ⟨rfl,?_⟩) rfl
 walk_at "w"
 refine⟨2,rfl,by decide,trivial,by decide,fun v=>some (.tup [.int (reg x 4+8*iAt v),.int (mload x.mem (reg x 4+8*iAt v) 8)]),?_,?_⟩
 ·intro v hv
  obtain⟨i,hi,rfl⟩:=List.mem_map.mp hv
  have hi:=List.mem_range.mp hi
  refine Zy (Zg rfl ⟨rfl,rfl,Zs ?_⟩)
  refine Zx ?_
  walk_at "w"
  refine Zo rfl rfl j2 rfl ?_
  walk_at "w"
  refine⟨_,_,_,rfl,rfl,Y3 (by decide) (by exact Nat.le_trans (by assumption) (by decide)),?_⟩
  walk_at "w"
  refine⟨_,_,_,rfl,rfl,rfl,?_⟩
  refine Zh ?_ rfl
  refine Zb rfl rfl rfl rfl QP ?_
  refine Zh (Zo rfl rfl j1 rfl ?_) rfl
  refine Zh (JL (Zo rfl rfl j2 rfl ?_)) rfl
  walk_at "w"
  refine⟨_,_,_,rfl,rfl,Y3 (by decide) (by exact Nat.le_trans (by assumption) (by decide)),?_⟩
  walk_at "w"
  refine⟨_,_,_,rfl,rfl,rfl,?_⟩
  walk_at "w"
  refine(Hj ox zx).e (nB rfl) ?_
  walk_at "w"
  exact⟨nB rfl,rfl,rfl⟩
 ·walk_at "w"
  refine Na (Ba ?_ rfl)
  refine Zj rfl rfl ?_
  walk_at "w"
  refine⟨_,_,_,Za G3.dbg,Wk,rfl,?_⟩
  walk_at "w"
  refine(G3.c_backtrace (n:=3) (by decide)).e (nB rfl) ?_
  refine Zb rfl rfl rfl rfl HN ?_
  refine Zh (Zo rfl rfl j1 rfl ?_) rfl
  walk_at "w"
  refine(Zcm (n:=3) ox zx (by decide)).e (nB rfl) ?_
  refine⟨_,rfl,by rw[e4,e5],Gp _ 19,true,rfl,Zs ?_⟩
  refine Ba ?_ rfl
  refine Zj rfl rfl ?_
  walk_at "w"
  refine⟨_,_,_,Za G3.dbg,VU,rfl,?_⟩
  walk_at "w"
  refine(G3.c_stack_rows (N:=2) (by decide)).e (nB rfl) ?_
  walk_at "w"
  refine⟨_,rfl,?_,?_,rfl,G3⟩
  ·have a0:=e6 0 (by decide)
   have a1:=e6 1 (by decide)
   rw[e3]at a0 a1⊢
   show V.lst [.tup [.int (reg x 4+8*((0:Nat):Int)),.int (mload x.mem (reg x 4+8*((0:Nat):Int)) 8)],.tup [.int (reg x 4+8*((1:Nat):Int)),.int (mload x.mem (reg x 4+8*((1:Nat):Int)) 8)]]=
    V.lst [.tup [.int (reg x 4+8*((0:Nat):Int)),.int (mread B.m.mem (reg x 4+8*((0:Nat):Int)) 8)],.tup [.int (reg x 4+8*((1:Nat):Int)),.int (mread B.m.mem (reg x 4+8*((1:Nat):Int)) 8)]]
   rw[a0,a1]
  ·rfl
end
end
section
noncomputable def Mids(m:List (Int×Int)):Prop:=(∀x∈m.map (·.1),(5000:Int)≤x∧x<2^62)∧∀p∈m,0≤p.2∧p.2<256
theorem Jl{m:List (Int×Int)}(h:Mids m){p:Int}(h0:0≤p)(h1:p<2^64+100):∀n:Nat,n≤1001→mread m p n=mload m p n
 |0,_=>rfl
 |n+1,hn=>by
  unfold mread mload
  rw[Jl h h0 h1 n (by exact Nat.le_of_lt (by assumption))]
  by_cases q:p+n<2^64
  ·rw[Int.emod_eq_of_lt (by exact Int.add_nonneg (by assumption) (Int.natCast_nonneg _)) q]
  ·have e:(p+n) % 2^64=p+n-2^64:=by
    rw[←Int.sub_emod_right,Int.emod_eq_of_lt (by lia) (by lia)]
   rw[e,UL (fun hx=>by have:=(h.1 _ hx).1;lia),UL (k:=p+n) (fun hx=>by have:=(h.1 _ hx).2;lia)]
theorem Uu{m:List (Int×Int)}(h:∀p∈m,0≤p.2∧p.2<256)(p:Int):∀n:Nat,0≤mload m p n∧mload m p n<2^(8*n)
 |0=>⟨Int.le_refl 0,show(0:Int)<2^(8*0)from by decide⟩
 |n+1=>by
  obtain⟨a,b⟩:=Uu h p n
  obtain⟨g0,g1⟩:=UM h (p+n)
  unfold mload
  have hp:(0:Int)<2^(8*n):=Int.pow_pos (by decide)
  have e:(2:Int)^(8*(n+1))=256*2^(8*n):=by
   rw[Nat.mul_add,Int.pow_add,Int.mul_comm];rfl
  rw[e]
  generalize (2:Int)^(8*n)=z at*
  generalize mget m (p+n)=g at*
  have h2:g*z≤255*z:=Int.mul_le_mul_of_nonneg_right (by lia) (by exact Int.le_of_lt (by assumption))
  have h3:0≤g*z:=Int.mul_nonneg g0 (by exact Int.le_of_lt (by assumption))
  lia
theorem GU{a b:List (Int×Int)}(ha:∀p∈a,0≤p.2∧p.2<256)(hb:∀p∈b,0≤p.2∧p.2<256)(p:Int):∀n:Nat,mload a p n=mload b p n↔∀i:Nat,i<n→mget a (p+i)=mget b (p+i)
 |0=>⟨fun q_ i h=>absurd h (Nat.not_lt_zero i),fun q_=>rfl⟩
 |n+1=>by
  have ih:=GU ha hb p n
  obtain⟨a0,a1⟩:=Uu ha p n
  obtain⟨b0,b1⟩:=Uu hb p n
  unfold mload
  have hp:(0:Int)<2^(8*n):=Int.pow_pos (by decide)
  constructor
  ·intro e
   have key:mget a (p+n)=mget b (p+n)∧mload a p n=mload b p n:=by
    generalize (2:Int)^(8*n)=z at*
    have d1:=congrArg (· /z) e
    have d2:=congrArg (· % z) e
    simp only[Int.add_mul_ediv_right _ _ (Int.ne_of_gt hp),Int.add_mul_emod_self_right]at d1 d2
    rw[Int.emod_eq_of_lt a0 a1,Int.emod_eq_of_lt b0 b1]at d2
    rw[Int.ediv_eq_zero_of_lt a0 a1,Int.ediv_eq_zero_of_lt b0 b1]at d1
    exact⟨by lia,d2⟩
   intro i hi
   by_cases q:i=n
   ·rw[q];exact key.1
   ·exact ih.mp key.2 i (by lia)
  ·intro h
   rw[ih.mpr fun i hi=>h i (by exact Nat.le_succ_of_le (by assumption)),h n (by exact Nat.lt_succ_self _)]
theorem Inv.mids{m:MS}{k:Nat}(I:Inv m k)(hk:k≤1000):Mids m.mem:=
 ⟨fun x hx=>have b:=rgB hk ⟨(I.ks x hx).1,Int.le_of_lt (I.ks x hx).2⟩;⟨Int.le_trans (by decide) b.1,Int.lt_of_le_of_lt b.2 (by decide)⟩,I.ok.oct⟩
theorem Zaw{a b:MS}(ha:Mids a.mem)(hb:Mids b.mem){ws:List Nat}(hw:∀w∈ws,w≤1000):Y8 b ws=Y8 a ws↔changed a b ws=false:=by
 unfold Y8 changed
 rw[List.any_eq_false,List.map_inj_left]
 refine forall_congr' fun w=>forall_congr' fun hm=>?_
 have:=hw w hm
 rw[Jl hb (by lia) (by lia) w (by exact Nat.le_trans (by assumption) (by decide)),Jl ha (by lia) (by lia) w (by exact Nat.le_trans (by assumption) (by decide)),GU hb.2 ha.2]
 unfold WY
 rw[Bool.not_eq_true,List.any_eq_false]
 constructor
 ·intro h i hi
  have:=h i (List.mem_range.mp hi)
  simp[this]
 ·intro h i hi
  have:=h i (List.mem_range.mpr hi)
  simp at this
  exact this.symm
theorem DE{m:List (Int×Int)}(h:Mids m):∀(n:Nat) (b:Int),0≤b→b<2^64→frs (fun p=>mread m p 8) n b=frs (fun p=>mload m p 8) n b
 |0,_,_,_=>rfl
 |n+1,b,h0,h1=>by
  unfold frs
  rw[Jl h (p:=b+8) (by exact Int.add_nonneg (by assumption) (Int.natCast_nonneg _)) (by lia) 8 (by decide),Jl h (p:=b) h0 (by exact Int.lt_of_lt_of_le (by assumption) (by decide)) 8 (by decide)]
  have:=Uu h.2 b 8
  rw[show(2:Int)^(8*8)=2^64 from rfl]at this
  rw[DE h n _ (by split<;>lia) (by split<;>lia)]
theorem Zch{m m':MS}{k:Nat}(I:Inv m' k)(hk:k≤100)(nm:Str)(cs bs:List (Int×Int)):dcb m m' nm cs bs=U6 m m' nm ⟨cs,bs⟩:=by
 unfold dcb U6
 have:=I.r0
 rw[Jl (I.mids (Nat.le_trans (by assumption) (by decide))) (Int.le_trans (by decide) (rgB (Nat.le_trans (by assumption) (by decide)) I.r0).1) (Int.lt_of_le_of_lt (rgB (Nat.le_trans (by assumption) (by decide)) I.r0).2 (by decide)) 8 (by decide)]
theorem Zbv{pts:List (Int×Int)}(h:∀q∈pts,0≤q.2)(rip:Int):wmet pts rip=met pts rip∧∀q∈(met pts rip).2,0≤q.2:=by
 unfold wmet met
 cases e:aget pts rip with
 |none=>exact⟨rfl,h⟩
 |some v=>
  have h0:=Xe (P:=fun v=>0≤v) h e
  simp only
  by_cases q:v=0
  ·subst q
   exact⟨rfl,h⟩
  ·rw[if_neg q,if_pos (show 0<v from by lia)]
   exact⟨rfl,Vw (P:=fun v=>0≤v) (by lia) h⟩
structure Mid(k:BK)(t:Nat)(B:BS):Prop where
 pos:∃nm x b,k.l[B.i]? =some ((nm,x):Str×MS)∧B.m={x with begin:=b}∧B.d.latest=nm
 cnt:B.d.count=B.i
 cs:B.d.cs=(cbN k.l B.i).cs
 bs:B.d.bs=(cbN k.l B.i).bs
 pts:B.d.pts=B.pts
 ws:B.d.ws=B.ws
 nn:∀q∈B.pts,0≤q.2
 pl:B.pts.length≤t
 wl:B.ws.length≤t
 wb:∀w∈B.ws,w≤24
section
variable{k:BK}{t:Nat}{p:Prog}{m0:MS}
theorem Mid.inv{B:BS}(M:Mid k t B)(C:Chain p k.l):Inv B.m B.i:=by
 obtain⟨nm,x,b,h1,h2,h3⟩:=M.pos
 rw[h2]
 exact(C.inv _ _ h1).rip _ _ _
theorem Mid.lt{B:BS}(M:Mid k t B):B.i<k.l.length:=by
 obtain⟨nm,x,b,h1,h2,h3⟩:=M.pos
 exact(List.getElem?_eq_some_iff.mp h1).1
theorem Mid.bd{B:BS}(M:Mid k t B)(C:Chain p k.l)(ht:t≤100):Bd B:=
 ⟨by rw[M.cnt];exact M.inv C,by rw[M.cs,M.cnt];exact(Uq ..).1,by rw[M.bs,M.cnt];exact(Uq ..).2,by rw[M.pts];have:=M.pl;exact Nat.le_trans (by assumption) (Nat.le_trans (by assumption) (by decide)),by rw[M.ws];intro w hw;have:=M.wb w hw;exact Nat.le_trans (by assumption) (by decide),by rw[M.ws];have:=M.wl;exact Nat.le_trans (by assumption) (Nat.le_trans (by assumption) (by decide))⟩
theorem Mid.same{B:BS}(M:Mid k t B)(C:Chain p k.l)(hl:k.l.length≤100):Same k B:=by
 have I:=M.inv C
 have hi:=M.lt
 obtain⟨nm,x,b,h1,h2,h3⟩:=M.pos
 have hB:B.i≤1000:=Nat.le_trans (Nat.le_of_lt hi) (Nat.le_trans hl (by decide))
 have hm:=I.mids hB
 have hr:=rgB hB I.r0
 have h5:=XD I.ok (r:=5) (by decide)
 refine⟨⟨nm,x,h1,?_,h3,?_,?_,?_,?_⟩,M.cnt,M.cs,M.bs⟩
 ·rw[h2]
 ·rw[h2];rfl
 ·rw[h2]
 ·rw[DE hm 3 _ h5.1 h5.2,h2];rfl
 ·intro i hi
  rw[Jl hm (Int.add_nonneg (Int.le_trans (by decide) hr.1) (Int.mul_nonneg (by decide) (Int.natCast_nonneg i))) (Int.lt_of_le_of_lt (Int.add_le_add hr.2 (Int.mul_le_mul_of_nonneg_left (Int.ofNat_le.mpr (Nat.le_of_lt hi)) (by decide))) (by decide)) 8 (by decide),h2];rfl
inductive Zfg(k:BK)(t:Nat)(C:BS)(i:Nat)(pts:List (Int×Int))(y:Str×MS)(j:Ins)(m':MS):Prop
 |mk (x:_) (h1:k.l[i]? =some x) (h2:m'=y.2) (h3:y.1=j.name) (h4:(changed x.2 y.2 C.ws=false↔Y8 m' C.d.ws=Y8 C.m C.d.ws)) (h5:Mid k t {dnext C j m' with i:=i+1,pts:=pts}):Zfg k t C i pts y j m'
theorem Mid.step(R:Recd p m0 k.l k.o)(hl:k.l.length≤100){C:BS}{i:Nat}{pts:List (Int×Int)}(M:Mid k t {C with i:=i,pts:=pts}){y:Str×MS}(hy:k.l[i+1]? =some y){j:Ins}{m':MS}(hm:mstep p C.m=some (j,m')):Zfg k t C i pts y j m':=by
 have I:Inv C.m i:=M.inv R.ch
 obtain⟨nm,x,b,h1,h2,h3⟩:=M.pos
 simp only at h1 h2 h3
 obtain⟨j',e1,e2⟩:=R.ch.st i _ y h1 hy
 rw[h2,Nz,e1]at hm
 cases hm
 have hi:=(List.getElem?_eq_some_iff.mp hy).1
 have Iy:=R.ch.inv _ _ hy
 have hw:C.d.ws=C.ws:=M.ws
 refine⟨(nm,x),h1,rfl,e2,?_,?_⟩
 ·rw[hw,Zaw (I.mids (by lia)) (Iy.mids (by lia)) (fun w hm=>by have:=M.wb w hm;exact Nat.le_trans (by assumption) (by decide))]
  have:C.m={x with begin:=b}:=h2
  rw[this];rfl
 ·have hcb:cbN k.l (i+1)=dcb C.m y.2 j.name C.d.cs C.d.bs:=by
   rw[Zch Iy (by lia),cbN,h1,hy]
   have c1:C.d.cs=(cbN k.l i).cs:=M.cs
   have c2:C.d.bs=(cbN k.l i).bs:=M.bs
   rw[c1,c2,←e2,h2]
   rfl
  exact⟨⟨y.1,y.2,y.2.begin,hy,rfl,e2.symm⟩,congrArg (· +1) M.cnt,congrArg CB.cs hcb.symm,congrArg CB.bs hcb.symm,M.pts,M.ws,M.nn,M.pl,M.wl,M.wb⟩
set_option tactic.hygienic true in
theorem Dv(R:Recd p m0 k.l k.o)(hl:k.l.length≤100){ov:BS→Bool}{ovw:Nat→Bool}(hov:∀C i pts,Mid k t {C with i:=i,pts:=pts}→ov C=ovw i):
  ∀(n:Nat) (C:BS) (i:Nat) (pts:List (Int×Int)) (r:Str) (C':BS),Mid k t {C with i:=i,pts:=pts}→(k.o=true∨i+n<k.l.length)→Led p ov n C r C'→
   ∃i' pts',wled k.l C.ws ovw n i pts=(r,i',pts')∧Mid k t {C' with i:=i',pts:=pts'}∧C'.i=C.i∧C'.pts=C.pts∧C'.ws=C.ws∧C'.s=C.s
 |0,C,i,pts,r,C',M,hc,⟨e1,e2⟩=>by
  subst e1 e2
  exact⟨i,pts,rfl,M,rfl,rfl,rfl,rfl⟩
 |n+1,C,i,pts,r,C',M,hc,h=>by
  obtain⟨nm,x,b,h1,h2,h3⟩:=M.pos
  simp only at h1 h2 h3
  have hms:mstep p C.m=mstep p x:=by rw[h2];rfl
  rcases hy:k.l[i+1]? with _|y
  ·have hlast:i+1=k.l.length:=by
    have:=(List.getElem?_eq_some_iff.mp h1).1
    have:=List.getElem?_eq_none_iff.mp hy
    exact Nat.le_antisymm (by assumption) (by assumption)
   have ho:k.o=true:=by
    rcases hc with h|h
    ·exact h
    ·lia
   have hn:mstep p x=none:=R.ov ho (nm,x) (by rw[List.getLast?_eq_getElem?,←hlast];exact h1)
   rcases h with ⟨_,rfl,b',z,rfl⟩| ⟨j,m',hm,_⟩
   ·refine⟨i,pts,?_,⟨⟨nm,x,b',h1,?_,h3⟩,M.cnt,M.cs,M.bs,M.pts,M.ws,M.nn,M.pl,M.wl,M.wb⟩,rfl,rfl,rfl,rfl⟩
    ·rw[wled,h1,hy]
    ·show({C.m with begin:=b'}:MS)=_
     rw[h2]
   ·rw[hms,hn]at hm;cases hm
  ·rcases h with ⟨hm,_⟩| ⟨j,m',hm,h⟩
   ·obtain⟨j',e1,_⟩:=R.ch.st i _ y h1 hy
    rw[hms,e1]at hm;cases hm
   obtain⟨x',hx',rfl,hnm,hch,M2⟩:=M.step R hl hy hm
   rw[h1]at hx'
   cases hx'
   rw[wled,h1,hy]
   simp only
   have hc2:k.o=true∨i+1+n<k.l.length:=by
    rcases hc with h|h
    ·exact .inl h
    ·exact .inr (by lia)
   have hsim:=hov _ _ _ M2
   have hpts:C.d.pts=pts:=M.pts
   by_cases q1:Y8 y.2 C.d.ws=Y8 C.m C.d.ws
   ·rw[if_neg (by rw[hch.mpr q1];decide)]
    by_cases q2:y.2.halted=true
    ·have hr:reason C.d.ws C.m y.2="halted" :=by unfold reason;rw[if_pos q1,if_pos q2]
     rw[hr,if_pos (by decide)]at h
     obtain⟨rfl,rfl⟩:=h
     rw[if_pos q2]
     exact⟨_,_,rfl,M2,rfl,rfl,rfl,rfl⟩
    ·have hr:reason C.d.ws C.m y.2="step" :=by unfold reason;rw[if_pos q1,if_neg q2]
     rw[hr,if_neg (by decide)]at h
     rw[if_neg q2]
     by_cases q3:ov (dnext C j y.2)=true
     ·rw[if_pos q3]at h
      obtain⟨rfl,rfl⟩:=h
      rw[if_pos (by rw[←hsim];exact q3)]
      exact⟨_,_,rfl,M2,rfl,rfl,rfl,rfl⟩
     ·rw[if_neg q3]at h
      rw[if_neg (by rw[←hsim];exact q3)]
      have hw:=Zbv M2.nn y.2.rip
      have e4:(dnext C j y.2).d.pts=pts:=hpts
      have e5:(dnext C j y.2).m.rip=y.2.rip:=rfl
      have e6:wmet pts y.2.rip=met pts y.2.rip:=hw.1
      rw[e6]
      have M3:Mid k t {OE (dnext C j y.2)with i:=i+1,pts:=(met pts y.2.rip).2}:=
       {M2 with
        pts:=by show(met (dnext C j y.2).d.pts (dnext C j y.2).m.rip).2=_;rw[e4,e5]
        nn:=hw.2
        pl:=by show(met pts y.2.rip).2.length≤t;rw[Ob];exact M2.pl}
      rw[e4,e5]at h
      by_cases q4:(met pts y.2.rip).1=true
      ·rw[if_pos q4]at h
       obtain⟨rfl,rfl⟩:=h
       rw[if_pos q4]
       have e7:(met pts y.2.rip).2=pts:=by
        unfold met at q4⊢
        split
        ·rfl
        ·rename_i v hv
         rw[hv]at q4
         simp only at q4
         split
         ·rename_i q5;rw[if_pos q5]at q4;cases q4
         ·rfl
       rw[e7]at M3
       exact⟨_,_,rfl,M3,rfl,rfl,rfl,rfl⟩
      ·rw[if_neg q4]at h
       rw[if_neg q4]
       exact Dv R hl hov n (OE (dnext C j y.2)) _ _ r C' M3 hc2 h
   ·have hr:reason C.d.ws C.m y.2="watch" :=by unfold reason;rw[if_neg q1]
    rw[hr,if_pos (by decide)]at h
    obtain⟨rfl,rfl⟩:=h
    have q2:changed x y.2 C.ws=true:=by
     cases e:changed x y.2 C.ws
     ·exact absurd (hch.mp e) q1
     ·rfl
    rw[if_pos q2]
    exact⟨_,_,rfl,M2,rfl,rfl,rfl,rfl⟩
end
end
section
section
variable{σ₀ σ τ:Hp}{k:BK}{A:BA}{B:BS}{c:Ctx}{d:Nat}{ρ:Loc}{X:Addr→Loc→Hp→Prop}
inductive Kf(B:BS):BS→Prop
 |brk (place:Int) (p:Nat):Kf B {B with d:={B.d with pts:=aset B.d.pts place p},pts:=aset B.pts place p}
 |wat (w:Nat) (h:w≤24):Kf B {B with d:={B.d with ws:=B.d.ws++[w]},ws:=B.ws++[w]}
 |clr (place:Int):Kf B {B with d:={B.d with pts:=pclear B.d.pts place},pts:=pclear B.pts place}
 |clu (place:Int):Kf B {B with d:={B.d with pts:=pclear B.d.pts place,ws:=[]},pts:=pclear B.pts place,ws:=[]}
structure Kin(A A':BA):Prop where
 D:A'.b.D=A.b.D
 Wd:A'.w.Wd=A.w.Wd
 p:A'.p=A.p
theorem Kin.refl(A:BA):Kin A A:=⟨rfl,rfl,rfl⟩
theorem Big.fixc(G:Big σ₀ σ k A B):Big {σ₀ with cs:=σ.cs} σ k A B:=G.cells (f:=σ.cs) (g:=σ.cs) fun q_ q_ e=>e
theorem Big.lec(G:Big σ₀ σ k A B):σ₀.Le {σ₀ with cs:=σ.cs}:=⟨fun q_ q_ e=>e,fun q_ q_ e=>e,fun q_ q_ e=>e,fun q_ q_ e=>e,G.le.cs,fun q_ q_ e=>e⟩
theorem Big.cell(G:Big σ₀ σ k A B){n:Addr}{v:Option (Option V)}(h:σ₀.cs n=none):Big σ₀ {σ with cs:=up σ.cs n v} k A B:=
 G.cells (f:=up σ.cs n v) (g:=σ₀.cs) fun a x e=>(Ze _ _ (fun q=>by rw[q,h]at e;cases e)).trans (G.le.cs a x e)
inductive Zff(σ₀:Hp)(k:BK)(A:BA)(B:BS)(v:V)(σ':Hp):Prop
 |mk (h1:v=.bool true) (A':_) (B':_) (h2:Big σ₀ σ' k A' {B' with s:=B.s+2}) (h3:Kin A A') (h4:Kf B B'):Zff σ₀ k A B v σ'
inductive JSt(σ₀:Hp)(k:BK)(A:BA)(B:BS)(n:Nat)(place:Int)(ρ':Loc)(σ':Hp):Prop
 |mk (h1:Yt [("debugger",.ref A.b.D),("is_known",.bool (aget B.pts place).isSome)] ρ') (h2:σ'.cs (n+1)=some (some (.int place))) (A':BA) (B':BS) (h3:Big σ₀ σ' k A' {B' with s:=B.s+2}) (h4:Kin A A') (h5:B'.d.pts=B.d.pts) (h6:Kf B {B' with d:={B'.d with pts:=pclear B'.d.pts place}}):JSt σ₀ k A B n place ρ' σ'
theorem Big.c_set(G:Big σ₀ σ k A B)(ok:Xg A.p)(hs:B.s≤90000)(hp:B.d.pts=B.pts)(hpl:B.pts.length≤100)(hwl:B.ws.length≤100)(hdl:B.d.ws.length≤100){place:Int}:
  Zd 7 (.ref 1186) [.ref A.p.P,.ref A.b.D,.ref A.w.Wd,.int place] σ (Zff σ₀ k A B) noX:=by
 refine Yq (d:=6) (ns:=["pen","debugger","world","place"]) Wa (fun P=>by kernel_rfl) rfl Zf (Hm fun x y z w=>rfl) rfl fun n hn=>?_
 rw[show cellsσ (n+1) Wa.scope.names σ={σ with cs:=up (up σ.cs (n+1) (some none)) (n+2) (some none)}from rfl]
 have hc1:=(hn (n+1) (Nat.le_succ n)).cs
 have hc2:=(hn (n+2) (Nat.le_add_right n 2)).cs
 have h12:n+1≠n+2:=Nat.ne_of_lt (Nat.lt_succ_self (n+1))
 refine Zg rfl (Zg rfl (Zg rfl ?_))
 refine ZP rfl rfl ((Ze _ _ h12).trans (up_self ..)) ?_
 refine WS.gen fun τ1 d1=>?_
 have f1:τ1.cs (n+1)=some (some (.int place)):=by rw[d1];exact up_self ..
 have f2:τ1.cs (n+2)=some none:=by rw[d1];exact(Ze _ _ h12.symm).trans (up_self ..)
 have l1:σ.Le τ1:=by rw[d1];exact(((Hp.Le.refl σ).nc hc1 _).nc hc2 _).nc hc1 _
 have G1:=G.grow l1
 walk_at "w"
 refine JR (names:=["way","passes"]) ?_ rfl (fun q_ q_ q_ q_ q_ q_ q_ q_=>rfl)
 refine Zx ?_
 walk_at "w"
 refine Zb rfl rfl rfl rfl Y0 ?_
 walk_at "w"
 refine(QZ (n:=3) ok (by exact Nat.le_trans (by assumption) (by decide)) (by decide) G1.pn).x (nB rfl) fun i τ2 hi e2=>?_
 have G2:Big σ₀ τ2 k A {B with s:=B.s+1}:=by rw[e2];exact G1.pen _
 walk_at "w"
 refine Zb rfl rfl rfl rfl Y0 ?_
 walk_at "w"
 refine(QZ (n:=3) ok (by show B.s+1≤_;exact Nat.lt_of_le_of_lt (by assumption) (by decide)) (by decide) G2.pn).x (nB rfl) fun p τ3 hp3 e3=>?_
 have G3:Big σ₀ τ3 k A {B with s:=B.s+2}:=by rw[e3];exact G2.pen _
 have g1:τ3.cs (n+1)=some (some (.int place)):=by rw[e3,e2];exact f1
 have g2:τ3.cs (n+2)=some none:=by rw[e3,e2];exact f2
 have GC:=G3.fixc
 walk_at "w"
 refine⟨nB rfl,_,rfl,rfl,?_⟩
 walk_at "w"
 refine Zq (Zl ?_ rfl) rfl
 walk_at "w"
 refine⟨_,_,_,rfl,rfl,rfl,_,rfl,?_⟩
 refine Z7 (fun q_=>?_) fun q_=>?_
 ·walk_at "w"
  refine Zj rfl rfl ?_
  walk_at "w"
  refine⟨_,_,_,Za G3.dbg,WJ,rfl,?_⟩
  refine Zh (Zo rfl rfl g1 rfl ?_) rfl
  walk_at "w"
  refine(GC.c_break_at (place:=place) (passes:=p) (by show B.d.pts.length≤_;rw[hp];exact Nat.le_trans (by assumption) (by decide))).v (nB rfl) fun τ4 G4=>?_
  have g4:τ4.cs (n+1)=some (some (.int place)):=G4.le.cs _ _ g1
  walk_at "w"
  refine Qs ?_
  walk_at "w"
  refine ZR ?_
  walk_at "w"
  refine⟨_,_,_,G4.wd,rfl,rfl,?_⟩
  refine Zo rfl rfl g4 rfl ?_
  refine⟨_,_,_,rfl,G4.wP,rfl,by rw[ZI,List.length_map];show B.pts.length≤_;exact Nat.le_trans (by assumption) (by decide),?_⟩
  rw[Vf]
  refine WS.big G4.setWP fun τ5 G5=>?_
  walk_at "w"
  exact⟨rfl,A,{B with d:={B.d with pts:=aset B.d.pts place p},pts:=aset B.pts place p},G5.down G3.lec,Kin.refl A,.brk place p⟩
 walk_at "w"
 refine Zq (Zl ?_ rfl) rfl
 walk_at "w"
 refine⟨_,_,_,rfl,rfl,rfl,_,rfl,?_⟩
 refine Z7 (fun q_=>?_) fun q_=>?_
 ·walk_at "w"
  refine Zp ?_
  refine ZN ?_
  walk_at "w"
  refine⟨nB rfl,?_⟩
  walk_at "w"
  obtain⟨u,hu,hu2⟩:∃u:Nat,([V.int 1,V.int 8,V.int 24]:List V)[p]? =some (.int u)∧u≤24:=by
   match p,hp3 with
   |0,_=>exact⟨1,rfl,by decide⟩
   |1,_=>exact⟨8,rfl,by decide⟩
   |2,_=>exact⟨24,rfl,by decide⟩
  refine⟨_,_,p,_,rfl,rfl,Z3 hp3 (by show 3<2^63;decide),hu,?_⟩
  walk_at "w"
  refine Zj rfl rfl ?_
  walk_at "w"
  refine⟨_,_,_,Za G3.dbg,K5,rfl,?_⟩
  walk_at "w"
  refine⟨_,_,_,rfl,rfl,rfl,?_⟩
  walk_at "w"
  refine(GC.c_watch (w:=u) (by show B.d.ws.length≤_;exact Nat.le_trans (by assumption) (by decide))).v (nB rfl) fun τ4 G4=>?_
  walk_at "w"
  refine ZC rfl rfl ?_
  refine ZR ?_
  walk_at "w"
  refine⟨_,_,_,G4.wd,rfl,rfl,?_⟩
  refine⟨_,_,Yb PySem.F.slot_list_append PySem.F.type_list_append G4.wW,trivial,?_⟩
  walk_at "w"
  refine Zx ?_
  walk_at "w"
  refine⟨_,_,_,rfl,rfl,rfl,?_⟩
  walk_at "w"
  refine⟨nB rfl,?_⟩
  walk_at "w"
  refine Yo G4.wW (by rw[List.length_map];show B.ws.length≤_;exact Nat.le_trans (by assumption) (by decide)) ?_
  rw[NL]
  refine WS.big G4.setWW fun τ5 G5=>?_
  walk_at "w"
  exact⟨rfl,A,{B with d:={B.d with ws:=B.d.ws++[u]},ws:=B.ws++[u]},G5.down G3.lec,Kin.refl A,.wat u hu2⟩
 refine Ji ?_
 refine Zn (Y5 ?_ rfl)
 refine Hu (ne:=false) (Zo rfl rfl g1 rfl ?_) rfl
 refine ZR ?_
 walk_at "w"
 refine⟨_,_,_,G3.wd,rfl,rfl,?_⟩
 refine⟨_,_,rfl,G3.wP,?_⟩
 rw[VA]
 simp only[Bool.false_eq_true,if_false,Option.isSome_map]
 walk_at "w"
 refine ZR ?_
 walk_at "w"
 refine⟨_,_,_,G3.wd,rfl,rfl,?_⟩
 refine ZP rfl rfl g2 ?_
 have G4:=G3.cell (n:=n+2) (v:=some (some (.ref A.w.P))) (Zi G.le.cs hc2)
 have g4:(up τ3.cs (n+2) (some (some (V.ref A.w.P)))) (n+1)=some (some (.int place)):=(Ze _ _ h12).trans g1
 have g5:(up τ3.cs (n+2) (some (some (V.ref A.w.P)))) (n+2)=some (some (.ref A.w.P)):=up_self ..
 walk_at "w"
 refine HV ?_
 refine Z4 rfl rfl rfl rfl Ko Kr trivial ?_
 refine Zh ?_ rfl
 refine Hv rfl (.inl rfl) (fun q_ q_=>rfl) rfl rfl (by decide) (by decide+kernel) ?_
 refine Zo rfl rfl g5 rfl ?_
 refine⟨A.w.P,ZI B.pts,rfl,G4.wP,by rw[ZI,List.length_map];exact Nat.le_trans (by assumption) (by decide),fun i=>if i=place then none else(aget B.pts i).map fun v=>.tup [.int i,.int v],?_,?_⟩
 ·intro q hq
  obtain⟨q',hq',rfl⟩:=List.mem_map.mp hq
  obtain⟨u,hu⟩:=G0 (List.mem_map.mpr ⟨_,hq',rfl⟩)
  refine Zy (Zg rfl ⟨rfl,?_⟩)
  refine Zq (Zl ?_ rfl) rfl
  walk_at "w"
  refine Zo rfl rfl g4 rfl ?_
  refine⟨_,_,_,rfl,rfl,rfl,_,rfl,rfl,?_⟩
  refine Z7 (fun q1=>?_) fun q1=>?_
  ·have q1:q'.1≠place:=by simpa using q1
   refine Zx ?_
   walk_at "w"
   refine Kw ?_
   refine Zo rfl rfl g5 rfl ?_
   walk_at "w"
   refine⟨A.w.P,ZI B.pts,_,_,rfl,.head _,rfl,by rw[VA,hu];rfl,?_⟩
   walk_at "w"
   exact⟨nB rfl,rfl,(if_neg q1).trans (by show Option.map _ (aget B.pts q'.1)=_;rw[hu];rfl)⟩
  ·exact if_pos (by simpa using q1)
 have e:(ZI B.pts).filterMap (fun q=>if q.1=place then none else(aget B.pts q.1).map fun v=>V.tup [.int q.1,.int v])=(ZI (B.pts.filterMap (pkeep B.pts place))).map fun q=>.tup [.int q.1,q.2]:=by
  unfold ZI
  rw[List.filterMap_map,List.map_map,List.map_filterMap]
  congr 1
  funext q
  simp only[Function.comp,pkeep]
  split
  ·rfl
  ·rw[Option.map_map];rfl
 rw[e]
 walk_at "w"
 have hlen:=List.length_filterMap_le (pkeep B.pts place) B.pts
 refine Xj rfl (by rw[ZI,List.length_map];exact Nat.le_trans (by assumption) (Nat.le_trans (by assumption) (by decide))) fun D hD=>?_
 rw[GO]
 walk_at "w"
 refine⟨_,_,_,rfl,G4.wd,rfl,(by show 7≤_;decide),?_⟩
 have G5:=G4.fixc.newWP (l:=pclear B.pts place) hD
 refine WS.big (σ:=_) G5 fun τ5 G5=>?_
 have k1:τ5.cs (n+1)=some (some (.int place)):=G5.le.cs _ _ g4
 refine Zn (Kt (JSt σ₀ k A B n place) ?_ ?_)
 ·refine Zq (Zl ?_ rfl) rfl
  walk_at "w"
  refine⟨_,_,_,rfl,rfl,rfl,_,rfl,?_⟩
  refine Z7 (fun q_=>?_) fun q_=>?_
  ·walk_at "w"
   refine Zj rfl rfl ?_
   walk_at "w"
   refine⟨_,_,_,Za G5.dbg,X3,rfl,?_⟩
   walk_at "w"
   refine(G5.fixc.c_unwatch).u (nB rfl) ?_
   rintro _ τ6 ⟨rfl,W,G6⟩
   walk_at "w"
   refine HV ?_
   refine YE ?_
   walk_at "w"
   refine⟨nB rfl,fun W2 hW2=>?_⟩
   walk_at "w"
   refine⟨_,_,_,rfl,G6.wd,rfl,(by show 7≤_;decide),?_⟩
   have G7:=G6.newWW (l:=[]) hW2
   refine WS.big (σ:=_) G7 fun τ7 G7=>?_
   have G8:=(G7.down G5.lec).down G4.lec
   walk_at "w"
   exact⟨⟨rfl,rfl,trivial⟩,G7.le.cs _ _ k1,_,{B with d:={B.d with ws:=[]},pts:=pclear B.pts place,ws:=[]},G8,⟨rfl,rfl,rfl⟩,rfl,by have:=Kf.clu (B:=B) place;exact this⟩
  ·walk_at "w"
   exact⟨⟨rfl,rfl,trivial⟩,k1,_,{B with pts:=pclear B.pts place},G5.down G4.lec,⟨rfl,rfl,rfl⟩,rfl,.clr place⟩
 rintro ρ' τ6 ⟨hsub,k2,A',B',G6,K6,hpp,R6⟩
 refine WS.view hsub ?_
 refine Zn (Q3 ?_)
 have gd:=G6.dbg
 have cc:=G6.c_clear (place:=place) (by show B'.d.pts.length≤_;rw[hpp,hp];exact Nat.le_trans (by assumption) (by decide))
 rw[K6.D]at gd cc
 refine Ba ?_ rfl
 refine Zj rfl rfl ?_
 walk_at "w"
 refine⟨_,_,_,Za gd,K7,rfl,?_⟩
 refine Zh (Zo rfl rfl k2 rfl ?_) rfl
 walk_at "w"
 refine(cc).u (nB rfl) ?_
 rintro _ τ7 ⟨rfl,P7,G7⟩
 walk_at "w"
 refine⟨.bool (aget B.pts place).isSome,by show V.bool (aget B'.d.pts place).isSome=_;rw[hpp,hp],rfl,rfl,rfl,_,{B' with d:={B'.d with pts:=pclear B'.d.pts place}},G7,⟨K6.D,K6.Wd,K6.p⟩,R6⟩
end
end
section
theorem Bk{l:List (Int×Int)}{p:Int}(h:∀q∈l,0≤q.2):∀q∈pclear l p,0≤q.2:=by
 have h1:∀q∈l.filterMap (pkeep l p),0≤q.2:=by
  intro q hq
  obtain⟨q',hq',e⟩:=List.mem_filterMap.mp hq
  unfold pkeep at e
  split at e
  ·cases e
  ·obtain⟨v,hv,rfl⟩:=Option.map_eq_some_iff.mp e
   exact Xe (P:=fun v=>0≤v) h hv
 have key:∀(a m:List (Int×Int)),(∀q∈a,0≤q.2)→(∀q∈m,0≤q.2)→∀q∈a.foldl (fun m p=>aset m p.1 p.2) m,0≤q.2:=by
  intro a
  induction a with
  |nil=>intro m _ h;exact h
  |cons x r ih=>intro m h1 h2;exact ih _ (fun q hm=>h1 q (.tail _ hm)) (Vw (P:=fun v=>0≤v) (h1 x (.head _)) h2)
 exact key _ [] h1 (fun q hq=>by cases hq)
theorem GN(l:List (Int×Int))(p:Int):(pclear l p).length≤l.length:=Nat.le_trans (Bj _) (List.length_filterMap_le _ _)
theorem Mid.set{k:BK}{t:Nat}{B B':BS}(M:Mid k t B)(h:Kf B B')(s:Nat):Mid k (t+1) {B' with s:=s}:=by
 have hp:=M.pts
 have hw:=M.ws
 cases h with
 |brk place p=>
  exact {pos:=M.pos,cnt:=M.cnt,cs:=M.cs,bs:=M.bs,pts:=by show aset _ _ _=_;rw[hp],ws:=M.ws,nn:=Vw (P:=fun v=>0≤v) (Int.natCast_nonneg p) M.nn,pl:=Nat.le_trans (Q2 ..) (Nat.succ_le_succ M.pl),wl:=Nat.le_succ_of_le M.wl,wb:=M.wb}
 |wat w hw'=>
  have hwb:∀x∈B.ws++[w],x≤24:=fun x hx=>by
   rcases List.mem_append.mp hx with hx|hx
   ·exact M.wb x hx
   ·rw[List.mem_singleton.mp hx];exact hw'
  exact {pos:=M.pos,cnt:=M.cnt,cs:=M.cs,bs:=M.bs,pts:=M.pts,ws:=by show _++_=_;rw[hw],nn:=M.nn,pl:=Nat.le_succ_of_le M.pl,wl:=by show(B.ws++[w]).length≤_;rw[List.length_append];exact Nat.succ_le_succ M.wl,wb:=hwb}
 |clr place=>
  exact {pos:=M.pos,cnt:=M.cnt,cs:=M.cs,bs:=M.bs,pts:=by show pclear _ _=_;rw[hp],ws:=M.ws,nn:=Bk M.nn,pl:=Nat.le_succ_of_le (Nat.le_trans (GN ..) M.pl),wl:=Nat.le_succ_of_le M.wl,wb:=M.wb}
 |clu place=>
  exact {pos:=M.pos,cnt:=M.cnt,cs:=M.cs,bs:=M.bs,pts:=by show pclear _ _=_;rw[hp],ws:=rfl,nn:=Bk M.nn,pl:=Nat.le_succ_of_le (Nat.le_trans (GN ..) M.pl),wl:=Nat.zero_le _,wb:=fun x hx=>by cases hx}
end
section
section
variable{σ₀ σ τ:Hp}{k:BK}{A:BA}{B:BS}{c:Ctx}{d:Nat}{ρ:Loc}{X:Addr→Loc→Hp→Prop}{t:Nat}{p:Prog}{m0:MS}
theorem Mid.s(M:Mid k t B)(s:Nat):Mid k t {B with s:=s}:=⟨M.pos,M.cnt,M.cs,M.bs,M.pts,M.ws,M.nn,M.pl,M.wl,M.wb⟩
theorem Mid.up(M:Mid k t B):Mid k (t+1) B:={M with pl:=Nat.le_succ_of_le M.pl,wl:=Nat.le_succ_of_le M.wl}
theorem Bd.at(b:Bd B)(i:Nat)(pts:List (Int×Int))(s:Nat):Bd {B with i:=i,pts:=pts,s:=s}:=⟨b.inv,b.cs,b.bs,b.pts,b.ws,b.wl⟩
theorem Vu(R:Recd p m0 k.l k.o){ov:BS→Bool}{ovw:Nat→Bool}(hov:∀C i pts,Mid k t {C with i:=i,pts:=pts}→ov C=ovw i)(M:Mid k t B){n:Nat}(hc:k.o=true∨B.i+n<k.l.length)
  {r1 r2:Str} {i1 s:Nat} {p1:List (Int×Int)} {C':BS} (h1:wled k.l B.ws ovw n B.i B.pts=(r1,i1,p1)) (h2:Led p ov n {B with i:=i1,pts:=p1,s:=s} r2 C'):r2=r1∧Mid k t C'∧C'.s=s:=by
 have hl:k.l.length≤100:=by have:=R.le;exact Nat.le_trans (by assumption) (by decide)
 obtain⟨i',pts',e,M2,ei,ep,ew,es⟩:=Dv R hl hov n {B with i:=i1,pts:=p1,s:=s} B.i B.pts r2 C' (M.s s) hc h2
 have e':=h1.symm.trans e
 cases e'
 have:({C' with i:=i1,pts:=p1}:BS)=C':=by
  cases C'
  cases ei
  cases ep
  rfl
 rw[this]at M2
 exact⟨rfl,M2,es⟩
noncomputable abbrev ZeR(x:Str)(pos:Pos):Arguments:=⟨[],[⟨x,none,pos⟩],none,[],[],none,[]⟩
theorem UR.b1{fd:FuncData}{body:Expr}{scope:Scope}{cl:List (Str×Addr)}{q:Str}{pos:Pos}(L:UR fd (ZeR "at" pos) body scope cl q)(v:Value):bindArgs fd ⟨[v],[]⟩=pure [(("at" :Str),v)]:=by
 obtain⟨l1,l2,l3,l4,l5,l6,l7,l8,l9⟩:=L
 cases fd
 cases l1
 cases l8
 cases l9
 rfl
inductive Zfe(σ₀:Hp)(σ:Hp)(k:BK)(A:BA)(B:BS)(p:Prog)(x:V):Prop
 |mk (r:_) (C':_) (h1:x=.str r) (h2:Led p (fun q_=>true) 1 B r C') (h3:Big σ₀ σ k A C'):Zfe σ₀ σ k A B p x
theorem Zb2{x:V}(h:(mstep p B.m=none∧x=.str "fault" ∧∃b y,Big σ₀ σ k A {B with m:={B.m with begin:=b},d:={B.d with what:=y}})∨
   (∃i m',mstep p B.m=some (i,m')∧x=.str (reason B.d.ws B.m m')∧Big σ₀ σ k A (dnext B i m'))):Zfe σ₀ σ k A B p x:=by
 rcases h with ⟨h1,rfl,b,y,G⟩| ⟨i,m',h1,rfl,G⟩
 ·exact⟨_,_,rfl,.inl ⟨h1,rfl,b,y,rfl⟩,G⟩
 ·refine⟨_,_,rfl,.inr ⟨i,m',h1,?_⟩,G⟩
  by_cases q:reason B.d.ws B.m m'="step"
  ·rw[if_neg (fun h=>h q),if_pos rfl];exact⟨q,rfl⟩
  ·rw[if_pos q];exact⟨rfl,rfl⟩
inductive Zfd(σ₀:Hp)(k:BK)(A:BA)(B:BS)(t:Nat)(v:V)(σ':Hp):Prop
 |mk (h1:v=.bool true) (A':_) (B':_) (h2:Big σ₀ σ' k A' B') (h3:Kin A A') (h4:Mid k (t+1) B') (h5:B'.s≤B.s+5):Zfd σ₀ k A B t v σ'
inductive JDe(τ5:Hp)(k:BK)(A:BA)(B:BS)(way:Nat)(ρ':Loc)(σ':Hp):Prop
 |mk (h1:σ'=τ5) (mo:Nat) (h2:Yt [("pen",.ref A.p.P),("debugger",.ref A.b.D),("way",.int way),("most",.int mo),("start",.int B.i)] ρ') (h3:mo≤12) (h4:(k.o=true∨B.i+mo<k.l.length)):JDe τ5 k A B way ρ' σ'
theorem Big.c_deed(G:Big σ₀ σ k A B)(R:Recd p m0 k.l k.o)(K:KOK k)(hp:∀q∈p,q.2.good)(HA:Uc σ₀ k p)(T:Tabs σ₀)(M:Mid k t B)(ht:t≤90)(ok:Xg A.p)(hs:B.s≤80000){rs:List Row}(hrs:rs.length≤1000)(hr0:0<rs.length):
  Zd 22 (.ref 1193) [.ref A.p.P,.ref A.b.D,.ref A.w.Wd,.lst (Yd rs)] σ (Zfd σ₀ k A B t) noX:=by
 have hK:k.l.length≤1000:=Nat.le_trans K.len (by decide)
 refine Yq (d:=21) (ns:=["pen","debugger","world","rows"]) Vn (fun P=>by kernel_rfl) rfl Zf (Hm fun x y z w=>rfl) rfl fun n hn=>?_
 rw[show cellsσ (n+1) Vn.scope.names σ={σ with cs:=up (up (up (up (up (up σ.cs (n+1) (some none)) (n+2) (some none)) (n+3) (some none)) (n+4) (some none)) (n+5) (some none)) (n+6) (some none)}from rfl]
 have z:∀i,σ₀.cs (n+i)=none:=fun i=>Zi G.le.cs (hn (n+i) (Nat.le_add_right n i)).cs
 refine Zg rfl (Zg rfl ?_)
 refine ZP (v₀:=none) rfl rfl (by simp[up]) (Zg rfl ?_)
 refine WS.gen fun τ1 d1=>?_
 have G1:Big σ₀ τ1 k A B:=by rw[d1];exact((((((G.cell (z 1)).cell (z 2)).cell (z 3)).cell (z 4)).cell (z 5)).cell (z 6)).cell (z 1)
 have f1:τ1.cs (n+1)=some (some (.ref A.w.Wd)):=by rw[d1];simp[up]
 have f2:τ1.cs (n+2)=some none:=by rw[d1];simp[up]
 have f3:τ1.cs (n+3)=some none:=by rw[d1];simp[up]
 have f4:τ1.cs (n+4)=some none:=by rw[d1];simp[up]
 have f5:τ1.cs (n+5)=some none:=by rw[d1];simp[up]
 have f6:τ1.cs (n+6)=some none:=by rw[d1];simp[up]
 walk_at "w"
 refine JR (names:=["way","most","raw"]) ?_ rfl (fun q_ q_ q_ q_ q_ q_ q_ q_=>rfl)
 refine Zx ?_
 walk_at "w"
 refine Zb rfl rfl rfl rfl Y0 ?_
 walk_at "w"
 refine(QZ (n:=6) ok (by exact Nat.le_trans (by assumption) (by decide)) (by decide) G1.pn).x (nB rfl) fun way τ2 hway e2=>?_
 have G2:Big σ₀ τ2 k A {B with s:=B.s+1}:=by rw[e2];exact G1.pen _
 walk_at "w"
 refine Zb rfl rfl rfl rfl Y0 ?_
 walk_at "w"
 refine(QZ (n:=12) ok (by show B.s+1≤_;exact Nat.lt_of_le_of_lt (by assumption) (by decide)) (by decide) G2.pn).x (nB rfl) fun md τ3 hmd e3=>?_
 have G3:Big σ₀ τ3 k A {B with s:=B.s+2}:=by rw[e3];exact G2.pen _
 refine⟨_,_,_,rfl,rfl,rfl,?_⟩
 walk_at "w"
 refine Zb rfl rfl rfl rfl Uv ?_
 walk_at "w"
 refine(BU ok (by show B.s+2≤_;exact Nat.le_trans (Nat.add_le_add_right (by assumption) _) (by decide)) G3.pn).y (nB rfl) fun raw τ4 e4=>?_
 have G4:Big σ₀ τ4 k A {B with s:=B.s+3}:=by rw[e4];exact G3.pen _
 have ec:τ4.cs=τ1.cs:=by rw[e4,e3,e2];rfl
 have a1:τ4.cs (n+1)=some (some (.ref A.w.Wd)):=by rw[ec];exact f1
 have a2:τ4.cs (n+2)=some none:=by rw[ec];exact f2
 have a3:τ4.cs (n+3)=some none:=by rw[ec];exact f3
 have a4:τ4.cs (n+4)=some none:=by rw[ec];exact f4
 have a5:τ4.cs (n+5)=some none:=by rw[ec];exact f5
 have a6:τ4.cs (n+6)=some none:=by rw[ec];exact f6
 walk_at "w"
 refine⟨nB rfl,_,rfl,rfl,?_⟩
 walk_at "w"
 refine Vx ?_ (fun q_ q_ q_ q_ q_ q_ q_ q_=>rfl)
 refine Zx ?_
 walk_at "w"
 refine Z4 rfl rfl rfl rfl YT YU trivial ?_
 walk_at "w"
 refine YX (vs:=Yd rs) rfl (by rw[List.length_map];exact Nat.le_trans (by assumption) (by decide)) ?_
 rw[List.length_map]
 have q0:=Int.emod_nonneg raw (b:=(rs.length:Int)) (Int.ne_of_gt (Int.ofNat_lt.mpr hr0))
 have q1:=Int.emod_lt_of_pos raw (b:=(rs.length:Int)) (by exact Int.ofNat_lt.mpr (by assumption))
 refine⟨_,_,_,rfl,rfl,Un (by exact Int.ofNat_lt.mpr (by assumption)),?_⟩
 refine⟨_,_,_,rfl,rfl,Y3 (by decide) (Hr q0 q1 (Nat.le_trans hrs (by decide))),?_⟩
 refine⟨_,_,_,rfl,rfl,rfl,?_⟩
 generalize 4096+2*(raw % (rs.length:Int))=place
 refine Zh (ZR (Zo rfl rfl a1 rfl ?_)) rfl
 walk_at "w"
 refine⟨_,_,_,G4.wd,rfl,rfl,?_⟩
 refine Zh (ZR (Zo rfl rfl a1 rfl ?_)) rfl
 walk_at "w"
 refine⟨_,_,_,G4.wd,rfl,rfl,?_⟩
 refine Zh (ZR (Zo rfl rfl a1 rfl ?_)) rfl
 walk_at "w"
 refine⟨_,_,_,G4.wd,rfl,rfl,?_⟩
 walk_at "w"
 refine⟨nB rfl,?_⟩
 refine Q6 rfl rfl rfl (fun q_=>rfl) ?_
 refine Zy (ZP rfl rfl a4 (Zy (ZP (v₀:=none) rfl rfl (by simp[up,a5]) (Zy (ZP (v₀:=none) rfl rfl (by simp[up,a2]) (Zy (Zg rfl ?_)))))))
 refine WS.gen fun τ5 d5=>?_
 have G5:Big σ₀ τ5 k A {B with s:=B.s+3}:=by rw[d5];exact((G4.cell (z 4)).cell (z 5)).cell (z 2)
 have b1:τ5.cs (n+1)=some (some (.ref A.w.Wd)):=by rw[d5];simp[up,a1]
 have b2:τ5.cs (n+2)=some (some (.lst (Jg k.l k.l.length))):=by rw[d5];simp[up]
 have b3:τ5.cs (n+3)=some none:=by rw[d5];simp[up,a3]
 have b4:τ5.cs (n+4)=some (some (.int place)):=by rw[d5];simp[up]
 have b5:τ5.cs (n+5)=some (some (.lst (Y7 k.l))):=by rw[d5];simp[up]
 have b6:τ5.cs (n+6)=some none:=by rw[d5];simp[up,a6]
 have hi:=M.lt
 refine Zn (Kt (JDe τ5 k A B way) ?_ ?_)
 ·refine ZY (ZE (Kc (Yl (ZR (Zo rfl rfl b1 rfl ?_)) rfl)))
  walk_at "w"
  refine⟨_,_,_,G5.wd,rfl,rfl,_,rfl,?_⟩
  refine Z7 (fun q=>ZE (Zq (Zl ?_ rfl) rfl)) fun q=>?_
  ·walk_at "w"
   refine⟨_,_,_,rfl,rfl,rfl,?_⟩
   refine Z4 rfl rfl rfl rfl YT YU trivial ?_
   refine Zh (Zo rfl rfl b5 rfl ?_) rfl
   walk_at "w"
   refine YX (vs:=Y7 k.l) rfl (by rw[List.length_map];exact Nat.le_trans (by assumption) (by decide)) ?_
   rw[List.length_map]
   refine⟨_,_,_,rfl,rfl,rfl,_,rfl,?_⟩
   refine Z7 (fun q2=>Ym ?_) fun q2=>?_
   ·refine Zs ?_
    obtain⟨mo,hmo⟩:∃mo:Nat,(k.l.length:Int)-1-B.i=mo:=⟨k.l.length-1-B.i,(congrArg (fun x:Int=>x-(B.i:Int)) (Dc (Nat.lt_of_le_of_lt (Nat.zero_le _) hi))).trans (Int.ofNat_sub (Nat.le_pred_of_lt hi)).symm⟩
    have q2:(k.l.length:Int)≤B.i+(1+md):=by simpa using q2
    walk_at "w"
    refine Z4 rfl rfl rfl rfl YT YU trivial ?_
    refine Zh (Zo rfl rfl b5 rfl ?_) rfl
    walk_at "w"
    refine YX (vs:=Y7 k.l) rfl (by rw[List.length_map];exact Nat.le_trans (by assumption) (by decide)) ?_
    rw[List.length_map]
    walk_at "w"
    refine⟨_,_,_,rfl,rfl,rfl,?_⟩
    walk_at "w"
    refine⟨_,_,_,rfl,rfl,rfl,?_⟩
    rw[hmo]
    walk_at "w"
    exact⟨rfl,mo,⟨rfl,rfl,rfl,rfl,rfl,trivial⟩,by lia,.inr (by lia)⟩
   ·refine Zk ?_
    have q2:(B.i:Int)+(1+md)<k.l.length:=by simpa using q2
    walk_at "w"
    exact⟨rfl,1+md,⟨rfl,rfl,rfl,rfl,rfl,trivial⟩,by lia,.inr (by exact Int.ofNat_lt.mp (by assumption))⟩
  ·refine Zk ?_
   walk_at "w"
   exact⟨rfl,1+md,⟨rfl,rfl,rfl,rfl,rfl,trivial⟩,by lia,.inl (by simpa using q)⟩
 rintro ρ5 τ5' ⟨rfl,mo,hsub,hmo,hcov⟩
 refine WS.view hsub ?_
 obtain⟨nm0,x0,bg,hx0,hm0,hla0⟩:=M.pos
 obtain⟨ox0,zx0⟩:=K.ok _ (List.mem_of_getElem? hx0)
 walk_at "w"
 refine Vx ?_ (fun q_ q_ q_ q_ q_ q_ q_ q_=>rfl)
 refine Zx ?_
 refine Zh (QF (r:=4) (by decide) (Zp (Zo rfl rfl b5 rfl ?_))) rfl
 walk_at "w"
 refine⟨_,_,_,_,rfl,rfl,Jz hx0 hK,Uk hx0,x0,rfl,ox0,?_⟩
 walk_at "w"
 refine⟨rfl,?_⟩
 walk_at "w"
 refine⟨rfl,?_⟩
 walk_at "w"
 refine Z4 rfl rfl rfl rfl YT YU trivial ?_
 refine Zh (Z8 (Zp (Zo rfl rfl b2 rfl ?_))) rfl
 walk_at "w"
 refine⟨_,_,_,_,rfl,rfl,VP hx0 hK,Gz hx0,?_⟩
 walk_at "w"
 refine⟨_,0,0,_,rfl,rfl,rfl,rfl,?_⟩
 walk_at "w"
 have hcl:=(Uq k.l B.i).1
 refine YX (vs:=Zr (cbN k.l B.i).cs) rfl (by rw[List.length_map];lia) ?_
 rw[List.length_map]
 walk_at "w"
 refine⟨nB rfl,?_⟩
 refine Q6 rfl rfl rfl (fun q_=>rfl) ?_
 refine Zy (ZP rfl rfl b6 (Zy (ZP (v₀:=none) rfl rfl (by simp[up,b3]) ?_)))
 refine WS.gen fun τ6 d6=>?_
 have G6:Big σ₀ τ6 k A {B with s:=B.s+3}:=by rw[d6];exact(G5.cell (z 6)).cell (z 3)
 have c1:τ6.cs (n+1)=some (some (.ref A.w.Wd)):=by rw[d6];simp[up,b1]
 have c2:τ6.cs (n+2)=some (some (.lst (Jg k.l k.l.length))):=by rw[d6];simp[up,b2]
 have c3:τ6.cs (n+3)=some (some (.int (cbN k.l B.i).cs.length)):=by rw[d6];simp[up]
 have c4:τ6.cs (n+4)=some (some (.int place)):=by rw[d6];simp[up,b4]
 have c5:τ6.cs (n+5)=some (some (.lst (Y7 k.l))):=by rw[d6];simp[up,b5]
 have c6:τ6.cs (n+6)=some (some (.int (reg x0 4))):=by rw[d6];simp[up]
 have lc:=G6.lec
 have G7:=G6.fixc
 have HA7:=HA.le lc
 have T7:Tabs {σ₀ with cs:=τ6.cs}:=⟨T.go,T.run,T.over,T.fin,T.deed,T.law⟩
 clear G1 G2 G3 G4 G5 f1 f2 f3 f4 f5 f6 a1 a2 a3 a4 a5 a6 b1 b2 b3 b4 b5 b6 d1 d5 e2 e3 e4 ec
 have hw:∀w∈B.ws,w≤1000:=fun w hw=>by have:=M.wb w hw;exact Nat.le_trans (by assumption) (by decide)
 have hwl:B.ws.length≤100:=by have:=M.wl;exact Nat.le_trans (by assumption) (Nat.le_trans (by assumption) (by decide))
 have hpl:B.pts.length≤100:=by have:=M.pl;exact Nat.le_trans (by assumption) (Nat.le_trans (by assumption) (by decide))
 have hle:=R.le
 have bd:=M.bd R.ch (by exact Nat.le_trans (by assumption) (by decide))
 have hcnt:B.d.count+mo≤100:=by have:=M.cnt;lia
 walk_at "w"
 refine Zq (Zl ?_ rfl) rfl
 walk_at "w"
 refine⟨_,_,_,rfl,rfl,rfl,_,rfl,?_⟩
 refine Z7 (fun q_=>?_) fun q_=>?_
 ·walk_at "w"
  refine UQ (Zq (Zl ?_ rfl) rfl)
  walk_at "w"
  refine⟨_,_,_,rfl,rfl,rfl,_,rfl,?_⟩
  refine Z7 (fun q=>?_) fun q=>?_
  ·have q':0<mo:=by simpa using q
   refine Zb rfl rfl rfl rfl Qz ?_
   refine Zh (Zo rfl rfl c1 rfl ?_) rfl
   walk_at "w"
   refine Q5 (P:=1188) (fun q_=>rfl) rfl rfl (fun q_=>by kernel_rfl) (G6.le.ts _ _ T.deed) fun fd L=>?_
   walk_at "w"
   refine(G7.c_wled K (f:=fd) (ov:=fun q_=>true) (most:=1) (fun σ' B' j G' hj=>?_) (by decide) hi hw hwl hpl).u (nB rfl) ?_
   ·refine YA (d:=3) L rfl rfl rfl (Yj fun x=>L.b1 x) rfl fun N code hN=>?_
    refine Zg rfl ?_
    refine Bb ?_
    exact⟨rfl,rfl⟩
   rintro _ τ7 ⟨r1,i1,p1,rfl,e1,G8⟩
   walk_at "w"
   refine JU (ne:=false) (UQ (Zq (Zl ?_ rfl) rfl)) rfl
   walk_at "w"
   refine⟨_,_,_,rfl,rfl,rfl,_,rfl,?_⟩
   rw[q]
   refine Zs ?_
   refine Zj rfl rfl ?_
   walk_at "w"
   refine⟨_,_,_,Za G8.dbg,Ve,rfl,?_⟩
   walk_at "w"
   refine(G8.c_step hp HA7 bd.inv (by have:=M.cnt;exact Nat.le_trans (Nat.le_add_right ..) (by assumption)) bd.ws (by have:=bd.wl;show B.d.ws.length≤_;exact Nat.le_trans (by assumption) (by decide)) (by have:=bd.cs;show B.d.cs.length≤_;lia) (by have:=bd.bs;show B.d.bs.length≤_;lia)).u (nB rfl) ?_
   intro v8 τ8 h8
   obtain⟨r2,C',rfl,hL,G9⟩:=Zb2 h8
   obtain⟨er,M2,es⟩:=Vu R (ovw:=fun q_=>true) (fun C i pts q_=>rfl) M (n:=1) (hcov.imp id fun h=>by lia) e1 hL
   walk_at "w"
   refine⟨_,_,rfl,rfl,?_⟩
   exact⟨by rw[er];simp,A,C',G9.down lc,Kin.refl A,M2.up,by rw[es];exact Nat.add_le_add_left (by decide:3≤5) B.s⟩
  ·walk_at "w"
   refine JU (ne:=false) (UQ (Zq (Zl ?_ rfl) rfl)) rfl
   walk_at "w"
   refine⟨_,_,_,rfl,rfl,rfl,_,rfl,?_⟩
   rw[q]
   refine Zk ?_
   walk_at "w"
   refine⟨_,_,rfl,rfl,?_⟩
   exact⟨rfl,A,_,G6,Kin.refl A,(M.s _).up,Nat.add_le_add_left (by decide:3≤5) B.s⟩
 refine Ji ?_
 refine Zn (Ja (Zq (Zl ?_ rfl) rfl))
 walk_at "w"
 refine⟨_,_,_,rfl,rfl,rfl,_,rfl,?_⟩
 refine Z7 (fun q_=>?_) fun q_=>?_
 ·walk_at "w"
  refine Zb rfl rfl rfl rfl Qz ?_
  refine Zh (Zo rfl rfl c1 rfl ?_) rfl
  walk_at "w"
  refine Q5 (P:=1188) (fun q_=>rfl) rfl rfl (fun q_=>by kernel_rfl) (G6.le.ts _ _ T.deed) fun fd L=>?_
  walk_at "w"
  refine(G7.c_wled K (f:=fd) (ov:=fun j=>decide ((cbN k.l j).cs.length≤(cbN k.l B.i).cs.length)) (most:=mo) (fun σ' B' j G' hj=>?_) (by exact Nat.le_trans (by assumption) (by decide)) hi hw hwl hpl).u (nB rfl) ?_
  ·obtain⟨xj,hxj⟩:∃x,k.l[j]? =some x:=⟨_,List.getElem?_eq_getElem hj⟩
   refine YA (d:=3) L rfl rfl rfl (Yj fun x=>L.b1 x) rfl fun N code hN=>?_
   refine Zg rfl ?_
   refine Zl ?_ rfl
   refine Z4 rfl rfl rfl rfl YT YU trivial ?_
   refine Zh (Z8 (Zp (Y6 rfl rfl (G'.le.cs _ _ c2) rfl rfl ?_))) rfl
   walk_at "w"
   refine⟨_,_,_,_,rfl,rfl,VP hxj hK,Gz hxj,?_⟩
   walk_at "w"
   refine⟨_,0,0,_,rfl,rfl,rfl,rfl,?_⟩
   walk_at "w"
   have hcj:=(Uq k.l j).1
   refine YX (vs:=Zr (cbN k.l j).cs) rfl (by rw[List.length_map];lia) ?_
   rw[List.length_map]
   refine Y6 rfl rfl (G'.le.cs _ _ c3) rfl rfl ?_
   refine⟨_,_,_,rfl,rfl,rfl,?_,rfl⟩
   simp
  rintro _ τ7 ⟨r1,i1,p1,rfl,e1,G8⟩
  walk_at "w"
  refine JU (ne:=false) ?_ rfl
  refine Zj rfl rfl ?_
  walk_at "w"
  refine⟨_,_,_,Za G8.dbg,Wj,rfl,?_⟩
  walk_at "w"
  refine(G8.c_step_over hp HA7 T7 (bd.at _ _ _) (most:=mo) hcnt).u (nB rfl) ?_
  rintro _ τ8 ⟨r2,C',rfl,hL,G9⟩
  obtain⟨er,M2,es⟩:=Vu R (ovw:=fun j=>decide ((cbN k.l j).cs.length≤(cbN k.l B.i).cs.length)) (fun C i pts h=>by have h1:C.d.cs=(cbN k.l i).cs:=h.cs;have h2:B.d.cs=(cbN k.l B.i).cs:=M.cs;show decide (C.d.cs.length≤B.d.cs.length)=_;rw[h1,h2]) M (n:=mo) hcov e1 hL
  walk_at "w"
  refine⟨_,_,rfl,rfl,?_⟩
  exact⟨by rw[er];simp,A,C',G9.down lc,Kin.refl A,M2.up,by rw[es];exact Nat.add_le_add_left (by decide:3≤5) B.s⟩
 refine Ji ?_
 refine Zn (Ja (Zq (Zl ?_ rfl) rfl))
 walk_at "w"
 refine⟨_,_,_,rfl,rfl,rfl,_,rfl,?_⟩
 refine Z7 (fun q_=>?_) fun q_=>?_
 ·walk_at "w"
  refine Zb rfl rfl rfl rfl Qz ?_
  refine Zh (Zo rfl rfl c1 rfl ?_) rfl
  walk_at "w"
  refine Q5 (P:=1188) (fun q_=>rfl) rfl rfl (fun q_=>by kernel_rfl) (G6.le.ts _ _ T.deed) fun fd L=>?_
  walk_at "w"
  refine(G7.c_wled K (f:=fd) (ov:=fun j=>match k.l[j]? with|some x=>decide (x.1="ret" ∧reg x0 4<reg x.2 4)|none=>false) (most:=mo) (fun σ' B' j G' hj=>?_) (by exact Nat.le_trans (by assumption) (by decide)) hi hw hwl hpl).u (nB rfl) ?_
  ·obtain⟨xj,hxj⟩:∃x,k.l[j]? =some x:=⟨_,List.getElem?_eq_getElem hj⟩
   refine YA (d:=3) L rfl rfl rfl (Yj fun x=>L.b1 x) rfl fun N code hN=>?_
   refine Zg rfl ?_
   obtain⟨oxj,zxj⟩:=K.ok _ (List.mem_of_getElem? hxj)
   refine Na ?_
   refine JU (ne:=false) (Zp (ZR (Y6 rfl rfl (G'.le.cs _ _ c1) rfl rfl ?_))) rfl
   walk_at "w"
   refine⟨_,_,_,G'.wd,rfl,rfl,?_⟩
   walk_at "w"
   refine⟨_,_,_,_,rfl,rfl,Ql hxj hK,UW hxj,?_⟩
   walk_at "w"
   refine⟨_,_,rfl,rfl,_,rfl,?_⟩
   simp only[Bool.false_eq_true,if_false,hxj]
   by_cases q:xj.1="ret"
   ·rw[show(xj.1==("ret" :Str))=true from by simpa using q]
    refine Zs ?_
    refine Zl ?_ rfl
    refine QF (r:=4) (by decide) (Zp (Y6 rfl rfl (G'.le.cs _ _ c5) rfl rfl ?_))
    walk_at "w"
    refine⟨_,_,_,_,rfl,rfl,Jz hxj hK,Uk hxj,xj.2,rfl,oxj,?_⟩
    walk_at "w"
    refine⟨rfl,?_⟩
    walk_at "w"
    refine⟨rfl,?_⟩
    refine Y6 rfl rfl (G'.le.cs _ _ c6) rfl rfl ?_
    refine⟨_,_,_,rfl,rfl,rfl,?_,rfl⟩
    simp[q]
   ·rw[show(xj.1==("ret" :Str))=false from by simpa using q]
    refine Zk ?_
    exact⟨by simp[q],rfl⟩
  rintro _ τ7 ⟨r1,i1,p1,rfl,e1,G8⟩
  walk_at "w"
  refine JU (ne:=false) ?_ rfl
  refine Zj rfl rfl ?_
  walk_at "w"
  refine⟨_,_,_,Za G8.dbg,XI,rfl,?_⟩
  walk_at "w"
  refine(G8.c_finish hp HA7 T7 (bd.at _ _ _) (most:=mo) hcnt).u (nB rfl) ?_
  rintro _ τ8 ⟨r2,C',rfl,hL,G9⟩
  obtain⟨er,M2,es⟩:=Vu R (ovw:=fun j=>match k.l[j]? with|some x=>decide (x.1="ret" ∧reg x0 4<reg x.2 4)|none=>false) (fun C i pts h=>by obtain⟨nm,x,b,h1,h2,h3⟩:=h.pos;simp only at h1 h2 h3;show decide (C.d.latest="ret" ∧reg B.m 4<reg C.m 4)=_;rw[h1,h2,h3,hm0];rfl) M (n:=mo) hcov e1 hL
  walk_at "w"
  refine⟨_,_,rfl,rfl,?_⟩
  exact⟨by rw[er];simp,A,C',G9.down lc,Kin.refl A,M2.up,by rw[es];exact Nat.add_le_add_left (by decide:3≤5) B.s⟩
 refine Ji ?_
 refine Zn (Ja (Zq (Zl ?_ rfl) rfl))
 walk_at "w"
 refine⟨_,_,_,rfl,rfl,rfl,_,rfl,?_⟩
 refine Z7 (fun q_=>?_) fun q_=>?_
 ·walk_at "w"
  refine Zb rfl rfl rfl rfl Qz ?_
  refine Zh (Zo rfl rfl c1 rfl ?_) rfl
  walk_at "w"
  refine Q5 (P:=1188) (fun q_=>rfl) rfl rfl (fun q_=>by kernel_rfl) (G6.le.ts _ _ T.deed) fun fd L=>?_
  walk_at "w"
  refine(G7.c_wled K (f:=fd) (ov:=fun q_=>false) (most:=mo) (fun σ' B' j G' hj=>?_) (by exact Nat.le_trans (by assumption) (by decide)) hi hw hwl hpl).u (nB rfl) ?_
  ·obtain⟨xj,hxj⟩:∃x,k.l[j]? =some x:=⟨_,List.getElem?_eq_getElem hj⟩
   refine YA (d:=3) L rfl rfl rfl (Yj fun x=>L.b1 x) rfl fun N code hN=>?_
   refine Zg rfl ?_
   refine Bb ?_
   exact⟨rfl,rfl⟩
  rintro _ τ7 ⟨r1,i1,p1,rfl,e1,G8⟩
  walk_at "w"
  refine JU (ne:=false) ?_ rfl
  refine Zj rfl rfl ?_
  walk_at "w"
  refine⟨_,_,_,Za G8.dbg,HF,rfl,?_⟩
  walk_at "w"
  refine(G8.c_go hp HA7 T7 (bd.at _ _ _) (most:=mo) hcnt).u (nB rfl) ?_
  rintro _ τ8 ⟨r2,C',rfl,hL,G9⟩
  obtain⟨er,M2,es⟩:=Vu R (ovw:=fun q_=>false) (fun C i pts q_=>rfl) M (n:=mo) hcov e1 hL
  walk_at "w"
  refine⟨_,_,rfl,rfl,?_⟩
  exact⟨by rw[er];simp,A,C',G9.down lc,Kin.refl A,M2.up,by rw[es];exact Nat.add_le_add_left (by decide:3≤5) B.s⟩
 refine Ji ?_
 refine Zn (Ja (Zq (Zl ?_ rfl) rfl))
 walk_at "w"
 refine⟨_,_,_,rfl,rfl,rfl,_,rfl,?_⟩
 refine Z7 (fun q_=>?_) fun q_=>?_
 ·walk_at "w"
  refine Zb rfl rfl rfl rfl Qz ?_
  refine Zh (Zo rfl rfl c1 rfl ?_) rfl
  walk_at "w"
  refine Q5 (P:=1188) (fun q_=>rfl) rfl rfl (fun q_=>by kernel_rfl) (G6.le.ts _ _ T.deed) fun fd L=>?_
  walk_at "w"
  refine(G7.c_wled K (f:=fd) (ov:=fun j=>match k.l[j]? with|some x=>x.2.rip==place|none=>false) (most:=mo) (fun σ' B' j G' hj=>?_) (by exact Nat.le_trans (by assumption) (by decide)) hi hw hwl hpl).u (nB rfl) ?_
  ·obtain⟨xj,hxj⟩:∃x,k.l[j]? =some x:=⟨_,List.getElem?_eq_getElem hj⟩
   refine YA (d:=3) L rfl rfl rfl (Yj fun x=>L.b1 x) rfl fun N code hN=>?_
   refine Zg rfl ?_
   refine Zl (Uz (Zp (Y6 rfl rfl (G'.le.cs _ _ c5) rfl rfl ?_))) rfl
   walk_at "w"
   refine⟨_,_,_,_,rfl,rfl,Jz hxj hK,Uk hxj,xj.2,rfl,?_⟩
   walk_at "w"
   refine⟨rfl,?_⟩
   refine Y6 rfl rfl (G'.le.cs _ _ c4) rfl rfl ?_
   refine⟨_,_,_,rfl,rfl,rfl,?_,rfl⟩
   simp only[hxj]
  rintro _ τ7 ⟨r1,i1,p1,rfl,e1,G8⟩
  walk_at "w"
  refine JU (ne:=false) ?_ rfl
  refine Zj rfl rfl ?_
  walk_at "w"
  refine⟨_,_,_,Za G8.dbg,XG,rfl,?_⟩
  refine Zh (Zo rfl rfl (G8.le.cs _ _ c4) rfl ?_) rfl
  walk_at "w"
  refine(G8.c_run_to (place:=place) hp HA7 T7 (bd.at _ _ _) (most:=mo) hcnt).u (nB rfl) ?_
  rintro _ τ8 ⟨r2,C',rfl,hL,G9⟩
  obtain⟨er,M2,es⟩:=Vu R (ovw:=fun j=>match k.l[j]? with|some x=>x.2.rip==place|none=>false) (fun C i pts h=>by obtain⟨nm,x,b,h1,h2,h3⟩:=h.pos;simp only at h1 h2 h3;show(C.m.rip==place)=_;rw[h1,h2]) M (n:=mo) hcov e1 hL
  walk_at "w"
  refine⟨_,_,rfl,rfl,?_⟩
  exact⟨by rw[er];simp,A,C',G9.down lc,Kin.refl A,M2.up,by rw[es];exact Nat.add_le_add_left (by decide:3≤5) B.s⟩
 refine Ji ?_
 refine Zn (Q3 ?_)
 refine Zb rfl rfl rfl rfl NB ?_
 walk_at "w"
 refine Zo rfl rfl c1 rfl ?_
 refine Zh (Zo rfl rfl c4 rfl ?_) rfl
 walk_at "w"
 refine(G6.c_set ok (Nat.le_trans (Nat.add_le_add_right hs 3) (by decide)) M.pts hpl hwl bd.wl).u (nB rfl) ?_
 rintro _ τ7 ⟨rfl,A',B',G8,K8,R8⟩
 exact⟨rfl,A',_,G8,K8,Mid.set (M.s _) R8 _,by show B.s+3+2≤_;exact Nat.lt_succ_self _⟩
end
end
section
section
variable{σ₀ σ τ:Hp}{c:Ctx}{d:Nat}{ρ:Loc}{X:Addr→Loc→Hp→Prop}
noncomputable def ds0:DS:=⟨[],[],[],[],0,"",""⟩
structure Zct(σ τ:Hp)(S:Addr)(adv:V)(b:DA):Prop where
 le:σ.Le τ
 dbg:τ.is b.D=some ⟨false,232,b.dD,Hg S adv b ds0⟩
 dP:τ.ds b.P=some []
 dW:τ.ls b.W=some []
 dC:τ.ls b.C=some []
 dB:τ.ls b.B=some []
 nD:σ.is b.D=none
 nP:σ.ds b.P=none
 nW:σ.ls b.W=none
 nC:σ.ls b.C=none
 nB:σ.ls b.B=none
 wc:b.W≠b.C
 wb:b.W≠b.B
 cb:b.C≠b.B
theorem Hk{S D dD:Addr}{adv:V}{Q:V→Hp→Prop}(hD:σ.is D=none)(hq:∀(b:DA) (τ:Hp),b.D=D→Zct σ τ S adv b→Q .none τ):Zd 3 (.ref 122) [.ref D,.ref S,adv] {σ with is:=up σ.is D (some ⟨false,232,dD,[]⟩)} Q noX:=by
 refine Zc (d:=2) ["self","state","advance"] QY (fun P=>by kernel_rfl) Zf (Jr fun x y z=>rfl) rfl rfl rfl fun N=>?_
 walk_at "w"
 refine⟨_,_,_,_,_,rfl,(up_self ..),Kz,rfl,?_⟩
 refine WS.gen fun τ1 e1=>?_
 have s1:τ1.is D=some ⟨false,232,dD,[("state",.ref S)]⟩:=UN e1 (up_self ..)
 have l1:σ.Le τ1:=by rw[e1];exact((Hp.Le.refl σ).ni hD _).ni hD _
 walk_at "w"
 refine⟨_,_,_,_,_,rfl,s1,X0,rfl,?_⟩
 refine WS.gen fun τ2 e2=>?_
 have s2:τ2.is D=some ⟨false,232,dD,[("state",.ref S),("advance",adv)]⟩:=UN e2 (up_self ..)
 have l2:σ.Le τ2:=by rw[e2];exact l1.ni hD _
 refine Zn (YV ?_)
 refine Vz fun P hP q_=>?_
 walk_at "w"
 refine⟨_,_,_,_,_,rfl,s2,U1,rfl,?_⟩
 refine WS.gen fun τ3 e3=>?_
 have s3:τ3.is D=some ⟨false,232,dD,[("state",.ref S),("advance",adv),("points",.ref P)]⟩:=UN e3 (up_self ..)
 have l3:σ.Le τ3:=by rw[e3];exact(l2.nd (Zi l2.ds hP) _).ni hD _
 have p3:τ3.ds P=some []:=by rw[e3];exact up_self ..
 refine Zn (YV ?_)
 refine YE ?_
 walk_at "w"
 refine⟨by decide,fun W hW=>?_⟩
 walk_at "w"
 refine⟨_,_,_,_,_,rfl,s3,Ud,rfl,?_⟩
 refine WS.gen fun τ4 e4=>?_
 have s4:τ4.is D=some ⟨false,232,dD,[("state",.ref S),("advance",adv),("points",.ref P),("watches",.ref W)]⟩:=UN e4 (up_self ..)
 have l4:σ.Le τ4:=by rw[e4];exact(l3.nl (Zi l3.ls hW) _).ni hD _
 have p4:τ4.ds P=some []:=by rw[e4];exact p3
 have w4:τ4.ls W=some []:=by rw[e4];exact up_self ..
 refine Zn (YV ?_)
 refine YE ?_
 walk_at "w"
 refine⟨by decide,fun C hC=>?_⟩
 walk_at "w"
 refine⟨_,_,_,_,_,rfl,s4,K0,rfl,?_⟩
 refine WS.gen fun τ5 e5=>?_
 have hWC:=nne w4 hC
 have s5:τ5.is D=some ⟨false,232,dD,[("state",.ref S),("advance",adv),("points",.ref P),("watches",.ref W),("calls",.ref C)]⟩:=UN e5 (up_self ..)
 have l5:σ.Le τ5:=by rw[e5];exact(l4.nl (Zi l4.ls hC) _).ni hD _
 have p5:τ5.ds P=some []:=by rw[e5];exact p4
 have w5:τ5.ls W=some []:=by rw[e5];exact(Ze _ _ hWC).trans w4
 have c5:τ5.ls C=some []:=by rw[e5];exact up_self ..
 refine Zn (YV ?_)
 refine YE ?_
 walk_at "w"
 refine⟨by decide,fun K hK=>?_⟩
 walk_at "w"
 refine⟨_,_,_,_,_,rfl,s5,XB,rfl,?_⟩
 refine WS.gen fun τ6 e6=>?_
 have hWK:=nne w5 hK
 have hCK:=nne c5 hK
 have s6:τ6.is D=some ⟨false,232,dD,[("state",.ref S),("advance",adv),("points",.ref P),("watches",.ref W),("calls",.ref C),("broken",.ref K)]⟩:=UN e6 (up_self ..)
 have l6:σ.Le τ6:=by rw[e6];exact(l5.nl (Zi l5.ls hK) _).ni hD _
 have p6:τ6.ds P=some []:=by rw[e6];exact p5
 have w6:τ6.ls W=some []:=by rw[e6];exact(Ze _ _ hWK).trans w5
 have c6:τ6.ls C=some []:=by rw[e6];exact(Ze _ _ hCK).trans c5
 have k6:τ6.ls K=some []:=by rw[e6];exact up_self ..
 walk_at "w"
 refine⟨_,_,_,_,_,rfl,s6,UD,rfl,?_⟩
 refine WS.gen fun τ7 e7=>?_
 have s7:τ7.is D=some ⟨false,232,dD,[("state",.ref S),("advance",adv),("points",.ref P),("watches",.ref W),("calls",.ref C),("broken",.ref K),("count",.int 0)]⟩:=UN e7 (up_self ..)
 walk_at "w"
 refine⟨_,_,_,_,_,rfl,s7,U2,rfl,?_⟩
 refine WS.gen fun τ8 e8=>?_
 have s8:τ8.is D=some ⟨false,232,dD,[("state",.ref S),("advance",adv),("points",.ref P),("watches",.ref W),("calls",.ref C),("broken",.ref K),("count",.int 0),("latest",.str "")]⟩:=UN e8 (up_self ..)
 walk_at "w"
 refine⟨_,_,_,_,_,rfl,s8,UZ,rfl,?_⟩
 refine WS.gen fun τ9 e9=>?_
 have l9:σ.Le τ9:=by rw[e9,e8,e7];exact((l6.ni hD _).ni hD _).ni hD _
 walk_at "w"
 refine hq ⟨D,dD,P,W,C,K⟩ τ9 rfl ⟨l9,UN e9 (up_self ..),by rw[e9,e8,e7];exact p6,by rw[e9,e8,e7];exact w6,by rw[e9,e8,e7];exact c6,by rw[e9,e8,e7];exact k6,hD,Zi l2.ds hP,Zi l3.ls hW,Zi l4.ls hC,Zi l5.ls hK,hWC,hWK,hCK⟩
theorem Zad{S:Addr}{adv:V}{Q:V→Hp→Prop}{X:Addr→Hp→Prop}(hq:∀(b:DA) (τ:Hp),Zct σ τ S adv b→Q (.ref b.D) τ):ZO 4 (.ref 232) [.ref S,adv] σ Q X:=by
 refine(Ub (Q:=Q) Ny fun n hn=>?_).w
 exact(Hk (hn _ (Nat.le_succ n)).is fun b τ e N=>⟨rfl,by rw[←show b.D=n+1 from e];exact hq b τ N⟩).mono (Nat.le_refl 3) (fun q_ q_ q=>q) fun q_ q_ q=>q.elim
end
end
section
section
variable{σ₀ σ τ:Hp}{c:Ctx}{d:Nat}{ρ:Loc}{X:Addr→Loc→Hp→Prop}
theorem MSt.flds{a:MA}{m m':MS}(I:MSt σ a m)(h1:m'.regs=m.regs)(h2:m'.mem=m.mem):MSt {σ with is:=up σ.is a.S (some ⟨false,667,a.dS,Qc a m'⟩)} a m':=
 ⟨up_self ..,by rw[h1];exact I.rs,I.xs,(Ze _ _ I.hF).trans I.fl,⟨(Ze _ _ I.hM).trans I.me.is,by rw[h2];exact I.me.ds,by rw[h2];exact I.me.oct⟩,I.sg,I.hF,I.hM,I.hX,⟨by rw[h1];exact I.ok.len,by rw[h1];exact I.ok.rb,by rw[h2];exact I.ok.oct,by rw[h2];exact I.ok.nd⟩⟩
structure LSt(σ₀:Hp)(p:Pen)(a:MA)(F n:Addr)(v:Option V)(s:Nat)(m:MS)(fs:List Int)(σ:Hp):Prop where
 le:σ₀.Le σ
 st:MSt σ a m
 pn:σ.ls p.P=some (QA p s)
 fr:σ.ls F=some (fs.map V.int)
 cl:σ.cs (n+1)=some v
structure Bf(σ₀:Hp)(p:Pen)(a:MA)(F n:Addr):Prop where
 zP:σ₀.ls p.P=none
 zF:σ₀.ls F=none
 zS:σ₀.is a.S=none
 zR:σ₀.ls a.R=none
 zH:σ₀.ds a.H=none
 pF:p.P≠F
 rP:a.R≠p.P
 rF:a.R≠F
 xP:a.XM≠p.P
 xF:a.XM≠F
section
variable{p:Pen}{a:MA}{F n:Addr}{s:Nat}{m:MS}{fs:List Int}{v:Option V}
theorem LSt.pen(J:LSt σ₀ p a F n v s m fs σ)(Z:Bf σ₀ p a F n)(s':Nat):LSt σ₀ p a F n v s' m fs (σ.pen p s'):=
 ⟨J.le.nl Z.zP _,J.st.upL Z.rP.symm Z.xP.symm _,up_self ..,(Ze _ _ Z.pF.symm).trans J.fr,J.cl⟩
theorem LSt.mac(J:LSt σ₀ p a F n v s m fs σ)(Z:Bf σ₀ p a F n){m':MS}(ok:MOK m'):LSt σ₀ p a F n v s m' fs (σ.mac a m'):=
 ⟨((J.le.nl Z.zR _).nd Z.zH _).ni Z.zS _,J.st.mac ok,(Ze _ _ Z.rP.symm).trans J.pn,(Ze _ _ Z.rF.symm).trans J.fr,J.cl⟩
theorem LSt.app(J:LSt σ₀ p a F n v s m fs σ)(Z:Bf σ₀ p a F n)(x:Int):LSt σ₀ p a F n v s m (fs++[x]) {σ with ls:=up σ.ls F (some (fs.map V.int++[V.int x]))}:=
 ⟨J.le.nl Z.zF _,J.st.upL Z.rF.symm Z.xF.symm _,(Ze _ _ Z.pF).trans J.pn,(up_self ..).trans (by rw[List.map_append];rfl),J.cl⟩
theorem LSt.flds(J:LSt σ₀ p a F n v s m fs σ)(Z:Bf σ₀ p a F n){m':MS}(h1:m'.regs=m.regs)(h2:m'.mem=m.mem):LSt σ₀ p a F n v s m' fs {σ with is:=up σ.is a.S (some ⟨false,667,a.dS,Qc a m'⟩)}:=
 ⟨J.le.ni Z.zS _,J.st.flds h1 h2,J.pn,J.fr,J.cl⟩
theorem LSt.grow(J:LSt σ₀ p a F n v s m fs σ)(h:σ.Le τ):LSt σ₀ p a F n v s m fs τ:=⟨J.le.trans h,J.st.le h,h.ls _ _ J.pn,h.ls _ _ J.fr,h.cs _ _ J.cl⟩
theorem WS.lst{st:List Stmt}{N:Loc→Hp→Prop}{R:V→Hp→Prop}(h:LSt σ₀ p a F n v s m fs σ)(q:∀τ,LSt σ₀ p a F n v s m fs τ→WS c d st ρ τ N R X):WS c d st ρ σ N R X:=q σ h
end
theorem NK{fd:FuncData}{params:Arguments}{body:Expr}{scope:Scope}{cl:List (Str×Addr)}{q:Str}(L:UR fd params body scope cl q){args vs:List V}{ns:List Str}{Q:V→Hp→Prop}{Y:Addr→Hp→Prop}(hY:Excs Y)
  (h1:scope.kind=.function) (h2:scope.isCoroutine=false) (h3:scope.isGenerator=false) (bd:YY fd args ns vs) (hl:ns.length=vs.length)
  (h:∀n code,(∀m,n≤m→Free σ m)→WNs (Wm scope cl q code n) ns vs [] (cellsσ (n+1) scope.names σ) fun ρ' σ'=>WE (Wm scope cl q code n) d body ρ' σ' Q (fun a q_ σ=>Y a σ)):Zd (d+1) (.lam fd) args σ Q Y:=by
 obtain⟨l1,l2,l3,l4,l5,l6,l7,l8,l9⟩:=L
 refine Hx (e:=body) ⟨l6,l7,by rw[l3];exact h1,by rw[l3];exact h2,by rw[l3];exact h3⟩ l2 hY bd hl fun n hn=>?_
 have:=h n fd.code hn
 unfold Wm at this
 unfold Yp
 rw[l3,l4,l5]
 exact this
theorem UR.bs{fd:FuncData}{body:Expr}{scope:Scope}{cl:List (Str×Addr)}{q:Str}{pos:Pos}(L:UR fd (ZeR "some" pos) body scope cl q)(v:Value):bindArgs fd ⟨[v],[]⟩=pure [(("some" :Str),v)]:=by
 obtain⟨l1,l2,l3,l4,l5,l6,l7,l8,l9⟩:=L
 cases fd
 cases l1
 cases l8
 cases l9
 rfl
theorem Zdq(sc:List Int):∃l:List Int,l.length≤60∧((sc.map V.int).drop (kms_lo none (sc.map V.int).length)).take (kms_hi (some 60) (sc.map V.int).length-kms_lo none (sc.map V.int).length)=l.map V.int:=by
 refine⟨(sc.drop (kms_lo none (sc.map V.int).length)).take (kms_hi (some 60) (sc.map V.int).length-kms_lo none (sc.map V.int).length),?_,by rw[List.map_take,List.map_drop]⟩
 refine Nat.le_trans (List.length_take_le ..) ?_
 show kms_hi (some 60) _-0≤60
 unfold kms_hi
 simp only
 rw[if_neg (by decide)]
 have:=Nat.min_le_left (60:Int).toNat (sc.map V.int).length
 have:(60:Int).toNat=60:=rfl
 assumption
inductive JL1(σ:Hp)(p:Pen)(a:MA)(F:Addr)(n:Nat)(m4:MS)(i:Nat)(ρ':Loc)(σ':Hp):Prop
 |mk (rs:_) (s:_) (fs:_) (h1:Yt [("pen",.ref p.P),("state",.ref a.S),("rows",.lst (Yd rs)),("firsts",.ref F)] ρ') (h2:LSt σ p a F n none s m4 fs σ') (h3:s≤1+7*i) (h4:Yn rs (10*i)) (h5:(0<i→0<rs.length)) (h6:fs.length=i) (h7:∀x∈fs,x.natAbs≤1000):JL1 σ p a F n m4 i ρ' σ'
inductive JL2(σ:Hp)(p:Pen)(a:MA)(F:Addr)(n:Nat)(m4:MS)(fs:List Int)(ρ':Loc)(σ':Hp):Prop
 |mk (rs':_) (s':_) (h1:Yt [("pen",.ref p.P),("state",.ref a.S),("rows",.lst (Yd rs')),("firsts",.ref F)] ρ') (h2:LSt σ p a F n none s' m4 fs σ') (h3:s'≤30) (h4:Yn rs' 61) (h5:0<rs'.length):JL2 σ p a F n m4 fs ρ' σ'
inductive JL3(σ':Hp)(p:Pen)(a:MA)(b:DA)(Wd QW W2:Addr)(rs':List Row)(l:List (Str×MS))(o:Bool)(fd:FuncData)(i:Nat)(ρ':Loc)(σ2:Hp):Prop
 |mk (h1:Yt [("pen",.ref p.P),("debugger",.ref b.D),("world",.ref Wd),("rows",.lst (Yd rs'))] ρ') (A:_) (B:_) (h2:Big σ' σ2 ⟨l,o,fd⟩ A B) (h3:Kin ⟨a,b,⟨Wd,QW,W2⟩,p⟩ A) (h4:Mid ⟨l,o,fd⟩ i B) (h5:B.s≤30+5*i):JL3 σ' p a b Wd QW W2 rs' l o fd i ρ' σ2
theorem Zgu(SO:U9)(T:Tabs σ){sc:List Int}(hsc:sc.length≤63):Zd 24 (.ref 1200) [.lst (sc.map V.int)] σ (fun v σ'=>v=.bool true∧σ.Le σ') noX:=by
 refine Yq (d:=23) (ns:=["script"]) Hf (fun P=>by kernel_rfl) rfl Zf (Yj fun x=>rfl) rfl fun n hn=>?_
 rw[show cellsσ (n+1) Hf.scope.names σ={σ with cs:=up σ.cs (n+1) (some none)}from rfl]
 have hc1:=(hn (n+1) (Nat.le_succ n)).cs
 refine Zg rfl ?_
 obtain⟨sl,hsl,esl⟩:=Zdq sc
 walk_at "w"
 refine YE ?_
 refine Zh ?_ rfl
 refine Z4 rfl rfl rfl rfl Kn Kq trivial ?_
 refine Zh (Vy ?_ (fun q_ q_=>rfl)) rfl
 walk_at "w"
 refine W5 (Kv ?_)
 walk_at "w"
 refine⟨_,none,some _,rfl,by rw[List.length_map];exact Nat.le_trans (by assumption) (by decide),.none,.int _,?_⟩
 rw[esl]
 walk_at "w"
 refine Ng rfl (by rw[List.length_map];exact Nat.le_trans (by assumption) (by decide)) ?_
 walk_at "w"
 refine Z4 rfl rfl rfl rfl Zbf Zbi trivial ?_
 refine Zh ?_ rfl
 refine Z4 rfl rfl rfl rfl Zbd Zbg trivial ?_
 refine Zh (Vy ?_ (fun q_ q_=>rfl)) rfl
 walk_at "w"
 refine W5 (Kv ?_)
 walk_at "w"
 refine⟨_,none,some _,rfl,by rw[List.length_map];exact Nat.le_trans (by assumption) (by decide),.none,.int _,?_⟩
 rw[esl]
 walk_at "w"
 refine Zbq rfl ?_
 walk_at "w"
 refine Zbs ?_
 walk_at "w"
 refine⟨_,_,_,rfl,rfl,Un (by decide),?_⟩
 walk_at "w"
 refine⟨nB rfl,fun P hP=>?_⟩
 have z0:=Int.emod_nonneg sl.sum (b:=1000003) (by decide)
 have z1:=Int.emod_lt_of_pos sl.sum (b:=1000003) (by decide)
 generalize sl.sum % 1000003=z at z0 z1
 have ok:Xg ⟨P,sl,z⟩:=⟨hsl,z0,z1⟩
 obtain⟨p,hp,hpP⟩:∃p:Pen,p=⟨P,sl,z⟩∧P=p.P:=⟨_,rfl,rfl⟩
 rw[←hp]at ok
 rw[show([V.lst (sl.map V.int),.int 0,.int z]:List V)=QA p 0 from by rw[hp];rfl]
 subst hpP
 clear hp
 walk_at "w"
 refine JR (names:=["state","rows","firsts"]) ?_ rfl (fun q_ q_ q_ q_ q_ q_ q_ q_=>rfl)
 refine Zx ?_
 walk_at "w"
 refine Zb rfl rfl rfl rfl D9 ?_
 walk_at "w"
 refine ZO.mono (X:=fun q_ q_=>False) (Ov (Q:=fun v τ=>∃a:MA,v=.ref a.S∧YG _ τ a ms0) fun a τ N=>⟨a,rfl,N⟩) (nB rfl) ?_ (fun q_ q_ q=>q.elim)
 rintro _ τ1 ⟨a,rfl,N1⟩
 refine Zh (ZN (ZW ⟨nB rfl,?_⟩)) rfl
 refine Zh (YE (ZW ⟨nB rfl,fun F hF=>?_⟩)) rfl
 walk_at "w"
 refine⟨nB rfl,_,rfl,rfl,?_⟩
 have hle:σ.Le τ1:=(((Hp.Le.refl σ).nc hc1 _).nl hP _).trans N1.le
 have hpn:τ1.ls p.P=some (QA p 0):=N1.le.ls _ _ (up_self ..)
 have Z:Bf σ p a F n:=
  {zP:=hP,zF:=Zi hle.ls hF,zS:=N1.n1,zH:=N1.n3
   zR:=by
    by_cases q:a.R=p.P
    ·rw[q];exact hP
    ·have:=N1.n2;exact(Ze _ _ q).symm.trans this
   pF:=nne hpn hF
   rP:=fun q=>by
    have h:=N1.n2
    rw[q]at h
    have h':(up σ.ls p.P (some (QA p 0))) p.P=none:=h
    rw[up_self]at h'
    cases h'
   rF:=nne N1.st.rs hF
   xP:=fun q=>by have:=N1.st.xs;rw[q,hpn]at this;have:=congrArg (Option.map List.length) this;simp at this
   xF:=nne N1.st.xs hF}
 have J1:LSt σ p a F n none 0 ms0 [] {τ1 with ls:=up τ1.ls F (some [])}:=
  ⟨hle.nl Z.zF _,N1.st.upL Z.rF.symm Z.xF.symm _,(Ze _ _ Z.pF).trans hpn,up_self ..,N1.le.cs _ _ (up_self ..)⟩
 refine Zg rfl (Zg rfl (Zg rfl ?_))
 refine WS.lst J1 fun τ2 J2=>?_
 walk_at "w"
 refine Zj rfl rfl ?_
 walk_at "w"
 refine⟨_,_,_,Za J2.st.st,Vd,rfl,?_⟩
 walk_at "w"
 refine Zb rfl rfl rfl rfl D5 ?_
 walk_at "w"
 refine(Zaa (r:=0) (by decide)).e (nB rfl) ?_
 walk_at "w"
 refine Zb rfl rfl rfl rfl Uv ?_
 walk_at "w"
 refine(BU ok (by decide) J2.pn).y (nB rfl) fun raw τ3 e3=>?_
 have J3:LSt σ p a F n none 1 ms0 [] τ3:=by rw[e3];exact J2.pen Z 1
 walk_at "w"
 refine(OW J3.st (r:=0) (v:=raw) (by decide)).v (nB rfl) fun τ4 e4=>?_
 have ok4:MOK (ZD ms0 0 (raw % 2^64)):=Za9.reg 0 ⟨Int.emod_nonneg _ (by decide),Int.emod_lt_of_pos _ (by decide)⟩
 have J4:LSt σ p a F n none 1 (ZD ms0 0 (raw % 2^64)) [] τ4:=by rw[e4];exact J3.mac Z ok4
 have hm4:(ZD ms0 0 (raw % 2^64)).mem=[]:=rfl
 generalize hM4:ZD ms0 0 (raw % 2^64)=m4 at J4 ok4 hm4
 walk_at "w"
 refine Q4 rfl (.inl rfl) (fun q_ q_=>rfl) (Y9 (YH rfl JD JE rfl ⟨rfl,?_⟩) rfl)
 walk_at "w"
 refine⟨3,rfl,by decide,JL1 σ p a F n m4,⟨[],1,[],⟨rfl,rfl,rfl,rfl,trivial⟩,J4,by decide,⟨by decide,fun r hr=>by cases hr⟩,fun h=>absurd h (by decide),rfl,fun x hx=>by cases hx⟩,fun q_ q_ q_ q_=>trivial,?_,?_⟩
 ·rintro i v ρ1 σ1 hv ⟨rs,s,fs,⟨s1,s2,s3,s4,_⟩,J,hs,hrs,hpos,hfl,hfb⟩
  obtain⟨hi3,rfl⟩:i<3∧v=.int i:=by
   have:=(List.getElem?_eq_some_iff.mp hv)
   obtain⟨h1,h2⟩:=this
   rw[List.length_map,List.length_range]at h1
   exact⟨h1,by rw[←h2];simp⟩
  have hrl:=hrs.len
  refine Zy (Zg rfl ?_)
  refine WS.view (ρ':=[("pen",.ref p.P),("state",.ref a.S),("rows",.lst (Yd rs)),("firsts",.ref F),("number",.int i)]) ⟨Z9 s1 (by decide),Z9 s2 (by decide),Z9 s3 (by decide),Z9 s4 (by decide),(ZT ..).trans (if_pos rfl),trivial⟩ ?_
  walk_at "w"
  refine ZC rfl rfl ?_
  walk_at "w"
  refine⟨_,_,Yb PySem.F.slot_list_append PySem.F.type_list_append J.fr,trivial,?_⟩
  walk_at "w"
  refine Z4 rfl rfl rfl rfl YT YU trivial ?_
  walk_at "w"
  refine YX (vs:=Yd rs) rfl (by rw[List.length_map];lia) ?_
  rw[List.length_map]
  walk_at "w"
  refine Yo J.fr (by rw[List.length_map];lia) ?_
  refine WS.lst (J.app Z rs.length) fun τ5 J5=>?_
  refine Zn (Y5 ?_ rfl)
  refine Qt ?_
  walk_at "w"
  refine Zb rfl rfl rfl rfl Gt ?_
  walk_at "w"
  refine(Zab ok (s:=s) (by lia) hi3 J5.pn).u (nB rfl) ?_
  rintro _ τ6 ⟨rs',s',rfl,e6,hs',hrs',hpos'⟩
  have J6:LSt σ p a F n none s' m4 (fs++[(rs.length:Int)]) τ6:=by rw[e6];exact J5.pen Z s'
  refine⟨_,_,rfl,rfl,by simp only[List.length_append,List.length_map];have:=hrs'.len;lia,?_⟩
  rw[QG]
  walk_at "w"
  refine⟨_,s',_,⟨rfl,rfl,rfl,rfl,trivial⟩,J6,(show s'≤1+7*i+7 from Nat.le_trans (by assumption) (Nat.add_le_add_right (by assumption) 7)),(hrs.app hrs').up (by exact Nat.lt_succ_self _),fun q_=>by rw[List.length_append];lia,by rw[List.length_append,hfl];rfl,fun x hx=>?_⟩
  rcases List.mem_append.mp hx with hx|hx
  ·exact hfb x hx
  ·rw[List.mem_singleton.mp hx];lia
 rintro ρ1 σ1 ⟨rs,s,fs,hsub,J,hs,hrs,hpos,hfl,hfb⟩
 have hpos:=hpos (by decide)
 have hrs:Yn rs 30:=hrs
 have hs:s≤22:=hs
 refine WS.view hsub ?_
 refine Zn (Kt (JL2 σ p a F n m4 fs) ?_ ?_)
 ·refine Zq (Zl ?_ rfl) rfl
  refine Zb rfl rfl rfl rfl Y0 ?_
  walk_at "w"
  refine(QZ (n:=3) ok (by exact Nat.le_trans (by assumption) (by decide)) (by decide) J.pn).x (nB rfl) fun i τ5 hi e5=>?_
  have J5:LSt σ p a F n none (s+1) m4 fs τ5:=by rw[e5];exact J.pen Z _
  walk_at "w"
  refine⟨_,_,_,rfl,rfl,rfl,_,rfl,?_⟩
  refine Z7 (fun q_=>?_) fun q_=>?_
  ·walk_at "w"
   refine Zb rfl rfl rfl rfl D8 ?_
   walk_at "w"
   refine(ZeK ok (s:=s+1) (by exact Nat.lt_of_le_of_lt (by assumption) (by decide)) J5.pn hrs hpos).u (nB rfl) ?_
   rintro _ τ6 ⟨rs',rfl,e6,hrs',hpos'⟩
   have J6:LSt σ p a F n none (s+1+2) m4 fs τ6:=by rw[e6];exact J5.pen Z _
   walk_at "w"
   exact⟨rs',_,⟨rfl,rfl,rfl,rfl,trivial⟩,J6,by lia,hrs',hpos'⟩
  ·walk_at "w"
   exact⟨rs,_,⟨rfl,rfl,rfl,rfl,trivial⟩,J5,by exact Nat.lt_of_le_of_lt (by assumption) (by decide),hrs.up (by decide),hpos⟩
 clear J hs
 rintro ρ2 σ2 ⟨rs',s',hsub,J,hs,hrs',hpos'⟩
 refine WS.view hsub ?_
 walk_at "w"
 refine Zb rfl rfl rfl rfl Hb ?_
 walk_at "w"
 obtain⟨f0,f1,f2,rfl⟩:∃f0 f1 f2,fs=[f0,f1,f2]:=by
  match fs,hfl with
  | [f0,f1,f2],_=>exact⟨f0,f1,f2,rfl⟩
 refine(Zba (n:=0) (hrs'.up (by decide)) J.fr (hfb f0 (by simp)) (hfb f1 (by simp)) (hfb f2 (by simp))).u (nB rfl) ?_
 rintro _ τ3' ⟨pr,rfl,rfl,hgood⟩
 refine ZP rfl rfl J.cl ?_
 refine WS.gen fun τ5 d5=>?_
 obtain⟨σ',hσ'⟩:∃x:Hp,x={σ with cs:=up σ.cs (n+1) (some (some (.idict (Jo pr))))}:=⟨_,rfl⟩
 have J5:LSt σ' p a F n (some (.idict (Jo pr))) s' m4 [f0,f1,f2] τ5:=by
  rw[d5,hσ']
  exact⟨⟨J.le.ls,J.le.ds,J.le.ss,J.le.is,YL J.le.cs (n+1) _,J.le.ts⟩,⟨J.st.st,J.st.rs,J.st.xs,J.st.fl,⟨J.st.me.is,J.st.me.ds,J.st.me.oct⟩,J.st.sg,J.st.hF,J.st.hM,J.st.hX,J.st.ok⟩,J.pn,J.fr,up_self ..⟩
 have Z5:Bf σ' p a F n:=by rw[hσ'];exact⟨Z.zP,Z.zF,Z.zS,Z.zR,Z.zH,Z.pF,Z.rP,Z.rF,Z.xP,Z.xF⟩
 have T5:Tabs σ':=by rw[hσ'];exact⟨T.go,T.run,T.over,T.fin,T.deed,T.law⟩
 have hcl:σ'.cs (n+1)=some (some (.idict (Jo pr))):=by rw[hσ'];exact up_self ..
 have hss:σ.Le σ':=by rw[hσ'];exact(Hp.Le.refl σ).nc hc1 _
 clear d5 hσ' Z
 walk_at "w"
 refine Zj rfl rfl ?_
 walk_at "w"
 refine⟨_,_,_,Za J5.st.st,Vd,rfl,?_⟩
 walk_at "w"
 refine Zb rfl rfl rfl rfl D5 ?_
 walk_at "w"
 refine(Zaa (r:=4) (by decide)).e (nB rfl) ?_
 walk_at "w"
 refine(OW J5.st (r:=4) (v:=32768) (by decide)).v (nB rfl) fun τ6 e6=>?_
 have J6:LSt σ' p a F n (some (.idict (Jo pr))) s' (ZD m4 4 (32768 % 2^64)) [f0,f1,f2] τ6:=by rw[e6];exact J5.mac Z5 (ok4.reg 4 (by decide))
 walk_at "w"
 refine⟨_,_,_,_,_,rfl,J6.st.st,YB,rfl,?_⟩
 have J7:=J6.flds Z5 (m':={ZD m4 4 (32768 % 2^64)with rip:=4096}) rfl rfl
 refine WS.lst J7 fun τ7 J7=>?_
 obtain⟨m5,hm5⟩:∃m5:MS,m5={ZD m4 4 (32768 % 2^64)with rip:=4096}:=⟨_,rfl⟩
 have hmem:m5.mem=[]:=by rw[hm5];exact hm4
 have hr4:reg m5 4=32768:=by rw[hm5];exact Va ok4 (by decide) _
 rw[←hm5]at J7
 have hI:Inv m5 0:=⟨J7.st.ok,by rw[hmem];decide,by rw[hr4];decide,by rw[hmem];intro x hx;cases hx⟩
 clear hm5
 walk_at "w"
 refine Vx ?_ (fun q_ q_ q_ q_ q_ q_ q_ q_=>rfl)
 refine Zb rfl rfl rfl rfl Gs ?_
 walk_at "w"
 refine Zj rfl rfl ?_
 walk_at "w"
 refine⟨_,_,_,Za J7.st.st,B5,rfl,?_⟩
 walk_at "w"
 refine(DR J7.st hmem (X:=fun q_ q_=>False) (Q:=fun v τ=>∃a':MA,v=.ref a'.S∧YG τ7 τ a' m5) fun a' τ N=>⟨a',rfl,N⟩).u (nB rfl) ?_
 rintro _ τ8 ⟨a',rfl,N⟩
 refine Zh (Zo rfl rfl (N.le.cs _ _ J7.cl) rfl ?_) rfl
 walk_at "w"
 refine(OU SO hgood N.st hI N.le N.n1 N.n2 N.n3).u (nB rfl) ?_
 rintro _ τ9 ⟨l,o,Ta,Nm,rfl,R,hTa,hNm,hle9,zT,zN,hTN⟩
 refine Q6 rfl rfl rfl (fun q_=>rfl) ?_
 refine Zy (Zg rfl (Zy (Zg rfl (Zy (Zg rfl ?_)))))
 refine WS.fixL (x:="tellings") rfl hTa ?_
 refine WS.fixL (x:="names") rfl ((Ze _ _ hTN.symm).trans hNm) ?_
 refine WS.lst (J7.grow ((hle9.nl zT none).nl zN none)) fun τ10 J10=>?_
 have hlen:=R.le
 have hKok:∀x∈l,MOK x.2∧x.2.mem.length≤1000:=by
  intro x hx
  obtain⟨i,hi⟩:=List.getElem?_of_mem hx
  have I:=R.ch.inv i x hi
  have:=(List.getElem?_eq_some_iff.mp hi).1
  exact⟨I.ok,by have:=I.sz;lia⟩
 refine Zn (Y5 ?_ rfl)
 refine GB ?_ (fun q_ q_=>rfl) (List.cons_ne_nil _ _) (nB rfl)
 refine Jv ?_
 walk_at "w"
 refine Jv ?_
 walk_at "w"
 refine Jv ?_
 walk_at "w"
 refine Jv (W7 (Jv (Vz fun QW hQW q_=>Jv (YE (ZW ⟨nB rfl,fun W2 hW2=>Jv ?_⟩)))))
 refine Zb rfl rfl rfl rfl BD ?_
 walk_at "w"
 refine(ZdK (l:=l) (by exact Nat.le_trans (by assumption) (by decide)) hKok ⟨m5,R.hd⟩).e (nB rfl) ?_
 refine DY ⟨show([("tellings" :Str),"names","over","at","points","watches","calls"]).Nodup from by decide,fun Wd q_ h2=>?_⟩
 refine Zg rfl ?_
 refine WS.gen fun τ11 d11=>?_
 have l11:τ10.Le τ11:=by rw[d11];exact(((Hp.Le.refl τ10).nd hQW _).nl hW2 _).ns h2 _
 have wP11:τ11.ds QW=some []:=by rw[d11];exact up_self ..
 have wW11:τ11.ls W2=some []:=by rw[d11];exact up_self ..
 have wd11:τ11.ss Wd=some (UU ⟨l,o,Hf⟩ ⟨Wd,QW,W2⟩ 0):=by rw[d11];exact up_self ..
 have J11:=J10.grow l11
 have hQW0:σ'.ds QW=none:=Zi J10.le.ds hQW
 have hW20:σ'.ls W2=none:=Zi J10.le.ls hW2
 have hWd0:σ'.ss Wd=none:=Zi J10.le.ss h2
 have n1:a.R≠W2:=nne J10.st.rs hW2
 have n2:a.XM≠W2:=nne J10.st.xs hW2
 have n3:p.P≠W2:=nne J10.pn hW2
 have n4:a.H≠QW:=nne J10.st.me.ds hQW
 have n5:a.SG≠Wd:=nne J10.st.sg h2
 clear d11 hQW hW2 h2
 refine Zn (Y5 ?_ rfl)
 refine Zb rfl rfl rfl rfl NE ?_
 walk_at "w"
 refine Q5 (P:=1195) (fun q_=>rfl) rfl rfl (fun q_=>by kernel_rfl) (J11.le.ts _ _ T5.law) fun fd L=>?_
 walk_at "w"
 refine ZO.mono (X:=fun q_ q_=>False) (Zad (Q:=fun v τ=>∃b:DA,v=.ref b.D∧Zct τ11 τ a.S (.lam fd) b) fun b τ N=>⟨b,rfl,N⟩) (nB rfl) ?_ (fun q_ q_ q=>q.elim)
 rintro _ τ12 ⟨b,rfl,D⟩
 have J12:=J11.grow D.le
 have G:Big σ' τ12 ⟨l,o,fd⟩ ⟨a,b,⟨Wd,QW,W2⟩,p⟩ ⟨m5,ds0,0,[],[],s'⟩:=
  {le:=J12.le,mst:=J12.st,dbg:=D.dbg,dP:=D.dP,dW:=D.dW,dC:=D.dC,dB:=D.dB,wd:=D.le.ss _ _ wd11,wP:=D.le.ds _ _ wP11,wW:=D.le.ls _ _ wW11,pn:=J12.pn
   nl:=nd7i ⟨⟨J11.st.hX.symm,nne J11.st.rs D.nW,nne J11.st.rs D.nC,nne J11.st.rs D.nB,n1,Z5.rP⟩,⟨nne J11.st.xs D.nW,nne J11.st.xs D.nC,nne J11.st.xs D.nB,n2,Z5.xP⟩,⟨D.wc,D.wb,(nne wW11 D.nW).symm,(nne J11.pn D.nW).symm⟩,⟨D.cb,(nne wW11 D.nC).symm,(nne J11.pn D.nC).symm⟩,⟨(nne wW11 D.nB).symm,(nne J11.pn D.nB).symm⟩,n3.symm⟩
   nd:=ZbH ⟨nne J11.st.me.ds D.nP,n4,(nne wP11 D.nP).symm⟩
   ns:=n5.symm
   zi:=fun x m=>by
    simp only[List.mem_cons,List.not_mem_nil,or_false]at m
    rcases m with rfl|rfl
    ·exact Z5.zS
    ·exact Zi J11.le.is D.nD
   zl:=fun x m=>by
    simp only[List.mem_cons,List.not_mem_nil,or_false]at m
    rcases m with rfl|rfl|rfl|rfl|rfl|rfl
    ·exact Z5.zR
    ·exact Zi J11.le.ls D.nW
    ·exact Zi J11.le.ls D.nC
    ·exact Zi J11.le.ls D.nB
    ·exact hW20
    ·exact Z5.zP
   zd:=fun x m=>by
    simp only[List.mem_cons,List.not_mem_nil,or_false]at m
    rcases m with rfl|rfl|rfl
    ·exact Z5.zH
    ·exact Zi J11.le.ds D.nP
    ·exact hQW0
   zs:=hWd0}
 have K:KOK ⟨l,o,fd⟩:=⟨by show l.length≤100;exact Nat.le_trans (by assumption) (by decide),hKok⟩
 have M:Mid ⟨l,o,fd⟩ 0 ⟨m5,ds0,0,[],[],s'⟩:=
  {pos:=⟨"",m5,m5.begin,R.hd,rfl,rfl⟩,cnt:=rfl,cs:=rfl,bs:=rfl,pts:=rfl,ws:=rfl,nn:=fun q h=>(by cases h),pl:=Nat.le_refl 0,wl:=Nat.le_refl 0,wb:=fun w h=>(by cases h)}
 have HA:Uc σ' ⟨l,o,fd⟩ pr:=fun τ a2 m2 hle2 I2 hz2=>by
  refine NK (d:=13) L (fun e σ' ⟨_,b,h⟩=>Wz _ e σ' h) rfl rfl rfl (Yj fun x=>L.bs x) rfl fun N code hN=>?_
  refine Zg rfl ?_
  refine Zb rfl rfl rfl rfl KS ?_
  walk_at "w"
  refine Y6 rfl rfl (hle2.cs _ _ hcl) rfl rfl ?_
  refine Zh (ZN (Zh ?_ rfl)) rfl
  refine Zw rfl QD.n rfl rfl ?_
  walk_at "w"
  refine⟨nB rfl,?_⟩
  walk_at "w"
  exact(Hi I2 hz2 fun q hq=>(hgood q hq).ok).w.mono (nB rfl) (fun v σ2 q=>q) fun e σ2 q=>q
 walk_at "w"
 refine Q4 rfl (.inl rfl) (fun q_ q_=>rfl) (Y9 (YH rfl JD JE rfl ⟨rfl,?_⟩) rfl)
 walk_at "w"
 refine⟨8,rfl,by decide,JL3 σ' p a b Wd QW W2 rs' l o fd,⟨⟨rfl,rfl,rfl,rfl,trivial⟩,_,_,G,Kin.refl _,M,hs⟩,fun q_ q_ q_ q_=>trivial,?_,?_⟩
 ·rintro i v ρ1 σ2 hv ⟨⟨s1,s2,s3,s4,_⟩,A,B,G2,K2,M2,hB⟩
  have hi8:i<8:=by
   have:=(List.getElem?_eq_some_iff.mp hv).1
   simpa using this
  refine Zy (Zg rfl ?_)
  refine WS.view (ρ':=[("pen",.ref p.P),("debugger",.ref b.D),("world",.ref Wd),("rows",.lst (Yd rs'))]) ⟨Z9 s1 (by decide),Z9 s2 (by decide),Z9 s3 (by decide),Z9 s4 (by decide),trivial⟩ ?_
  have hrl:=hrs'.len
  have cd:=G2.c_deed R K hgood HA T5 M2 (by exact Nat.le_trans (Nat.le_of_lt (by assumption)) (by decide)) (by rw[K2.p];exact ok) (Nat.le_trans (by assumption) (Nat.le_trans (Nat.add_le_add_left (Nat.mul_le_mul_left 5 (Nat.le_of_lt (by assumption:i<8))) 30) (by decide))) (rs:=rs') (by exact Nat.le_trans (by assumption) (by decide)) hpos'
  rw[K2.D,K2.Wd,K2.p]at cd
  refine Zn (Ja (ZY (ZZ (Kc (Yl ?_ rfl)))))
  refine Zb rfl rfl rfl rfl D7 ?_
  walk_at "w"
  refine(cd).u (nB rfl) ?_
  rintro _ τ13 ⟨rfl,A3,B3,G3,K3,M3,hB3⟩
  refine⟨_,rfl,?_⟩
  refine Zk (ZZ (Kc (Yl ?_ rfl)))
  have I3:=M3.inv R.ch
  have h3:=M3.lt
  have cs:=G3.c_stands SO K (M3.same R.ch (by show l.length≤100;exact Nat.le_trans (by assumption) (by decide))) (by have:=I3.sz;have:B3.i<l.length:=h3;lia) (by rw[M3.cs];have:=(Uq l B3.i).1;have:B3.i<l.length:=h3;show(cbN l B3.i).cs.length≤_;lia)
  rw[K3.D,K2.D,K3.Wd,K2.Wd]at cs
  refine Zb rfl rfl rfl rfl HM ?_
  walk_at "w"
  refine(cs).v (nB rfl) fun τ14 G4=>?_
  refine⟨_,rfl,?_⟩
  refine Zk (Ym (Zk ?_))
  walk_at "w"
  exact⟨⟨rfl,rfl,rfl,rfl,trivial⟩,A3,B3,G4,⟨K3.D.trans K2.D,K3.Wd.trans K2.Wd,K3.p.trans K2.p⟩,M3,(show B3.s≤30+5*i+5 from Nat.le_trans (by assumption) (Nat.add_le_add_right (by assumption) 5))⟩
 ·rintro ρ1 σ2 ⟨_,A,B,G2,_⟩
  walk_at "w"
  exact⟨rfl,hss.trans G2.le⟩
end
end
section
theorem GW{a:Addr}{o:Obj}{K K':Frag}(h:K.lookup a=some o):(K++K').lookup a=some o:=List.lookup_append.trans (congrArg (fun x=>x.or (K'.lookup a)) h)
theorem GV{β:Type}{a:Addr}{o:β}{K:List (Addr×β)}(h:K.lookup a=some o):a∈K.map (·.1):=
 (List.lookup_eq_some_iff.mp h).elim fun q_ h=>h.elim fun q_ h=>List.mem_map.mpr ⟨(a,o),h.1▸List.mem_append_right _ (.head _),rfl⟩
theorem Zaj{P:Params}{h:Heap}(X:(KU P).In h):(KK P).In h:=fun a o e=>X a o (GW (GW e))
theorem Zcu(P:Params):(KU P).lookup 1=some (H8 P):=by kernel_rfl
noncomputable def Zed:List (Addr×Str):=[(186,"Debugger.go.<locals>." ++"<lambda>"),(193,"Debugger.run_to.<locals>." ++"<lambda>"),(200,"Debugger.step_over.<locals>." ++"<lambda>"),(207,"Debugger.finish.<locals>." ++"<lambda>"),(1188,"_law_deed.<locals>." ++"<lambda>"),(1195,"law.<locals>." ++"<lambda>")]
noncomputable def σT:Hp:=⟨fun q_=>none,fun q_=>none,fun q_=>none,fun q_=>none,fun q_=>none,fun a=>Zed.lookup a⟩
theorem Zbt:Tabs σT:=⟨rfl,rfl,rfl,rfl,rfl,rfl⟩
theorem Nc{P:Params}{a:Addr}(h:a∈JY):(KU P).lookup a=some (tabObj #[]):=
 List.map_inj_left.mp (by kernel_rfl:(JY.map fun a=>(KU P).lookup a)=JY.map fun q_=>some (tabObj #[])) a h
theorem Zbz{P:Params}{a:Addr}{h:Heap}(X:(KK P).In h)(m:a∈JY):isCodeTable h a:=
 (codeHd_of_K X (List.all_eq_true.mp (by kernel_rfl:(JY.all fun a=>codeHdIn (KK P) (a+4) a)=true) a m)).elim fun o h=>h.elim fun vs h=>h.elim fun q_ h=>h.elim fun q_ h=>h.elim fun q_ h=>h.elim fun q_ h=>h.elim fun q_ h=>h.elim fun q_ h=>h.elim fun q_ h=>⟨_,o,vs,h.1,h.2.1,h.2.2.1,h.2.2.2.1⟩
theorem Zb0{a:Addr}{q:Str}(h:σT.ts a=some q):a∈JY:=GV (K:=Zed) h
theorem Zcv:(Zcw.all fun a=>a !=1&& !JY.contains a)=true:=by decide+kernel
end
end Internal
namespace Internal
open PySem PyProof.Rows
section
noncomputable def gallop':Bool→Keyed→Array Keyed→Nat→Nat→Nat→StateT SortSt Sem (Option Nat):=sortPriv% PySem.Builtin.gallop
theorem OP(left:Bool)(key:Keyed)(arr:Array Keyed)(base n hint:Nat):gallop' left key arr base n hint=(do
 let beyond (i:Nat):StateT SortSt Sem (Option Bool):=do
  let x←elem' arr (base+i)
  if left then lt' x key else return (←lt' key x).map (!·)
 let mut lastofs:=0
 let mut ofs:=1
 let mut lo:=0
 let mut hi:=0
 let some right←beyond hint|return none
 if right then
  let maxofs:=n-hint
  for _ in [0:n] do
   if ofs≥maxofs then break
   let some more←beyond (hint+ofs)|return none
   if !more then break
   lastofs:=ofs
   ofs:=2*ofs+1
  lo:=hint+lastofs+1
  hi:=hint+min ofs maxofs
 else
  let maxofs:=hint+1
  for _ in [0:n] do
   if ofs≥maxofs then break
   let some found←beyond (hint-ofs)|return none
   if found then break
   lastofs:=ofs
   ofs:=2*ofs+1
  lo:=hint+1-min ofs maxofs
  hi:=hint-lastofs
 for _ in [0:n] do
  if lo≥hi then break
  let m:=lo+(hi-lo)/2
  let some more←beyond m|return none
  if more then lo:=m+1 else hi:=m
 return some hi):=rfl
section
variable{prog:Program}{w:World}{A:Around}{E:Value→Shared→Prop}{s:Shared}
structure Cmp(prog:Program)(w:World)(A:Around)(E:Value→Shared→Prop)(s:Shared)(κ:SortKind)(k:Keyed→Int)(D:Keyed→Prop):Prop where
 lt:∀{st:SortSt} {x y:Keyed} {Q:Option Bool→SortSt→Prop},kindOf st=κ→D x→D y→Q (some (decide (k x<k y))) st→wpS (model prog w) A E s (lt' x y) Q st
variable{κ:SortKind}{k:Keyed→Int}{D:Keyed→Prop}
noncomputable def el(a:Array Keyed)(i:Nat):Keyed:=a[i]?.getD (.none,.none)
theorem Zgt{a:Array Keyed}{i:Nat}(h:i<a.size):a[i]? =some (el a i):=by
 unfold el;rw[getElem?_pos a i h];rfl
theorem ZK{a:Array Keyed}{i:Nat}{st:SortSt}{Q:Keyed→SortSt→Prop}(h:i<a.size)(q:Q (el a i) st):wpS (model prog w) A E s (elem' a i) Q st:=by
 rw[elem'_eq,Zgt h];exact wpS_pure q
noncomputable def All(D:Keyed→Prop)(a:Array Keyed):Prop:=∀i,i<a.size→D (el a i)
noncomputable def ZdT(bey:Nat→StateT SortSt Sem (Option Bool))(n lo hi:Nat):StateT SortSt Sem (Option (Option Nat)×Nat×Nat):=
 forIn [:n] ((none,lo,hi):Option (Option Nat)×Nat×Nat) fun x __s=>
  if __s.snd.fst≥__s.snd.snd then pure (ForInStep.done (none,__s.snd.fst,__s.snd.snd))
  else do
   let __x←bey (__s.snd.fst+(__s.snd.snd-__s.snd.fst)/2)
   match __x with
    |some more=>
     if more=true then pure (ForInStep.yield (none,__s.snd.fst+(__s.snd.snd-__s.snd.fst)/2+1,__s.snd.snd))
     else pure (ForInStep.yield (none,__s.snd.fst,__s.snd.fst+(__s.snd.snd-__s.snd.fst)/2))
    |x=>pure (ForInStep.done (some none,__s.snd.fst,__s.snd.snd))
theorem Yc{α:Type}{c:Prop} [Decidable c]{x y:StateT SortSt Sem α}{Q:α→SortSt→Prop}{st:SortSt}(h1:c→wpS (model prog w) A E s x Q st)(h2:¬c→wpS (model prog w) A E s y Q st):wpS (model prog w) A E s (if c then x else y) Q st:=by
 split
 ·exact h1 ‹_›
 ·exact h2 ‹_›
theorem ZX{α:Type}{m n:Nat}{x y:StateT SortSt Sem α}{Q:α→SortSt→Prop}{st:SortSt}(h1:m=n→wpS (model prog w) A E s x Q st)(h2:m≠n→wpS (model prog w) A E s y Q st):wpS (model prog w) A E s (if(m==n)=true then x else y) Q st:=
 Yc (fun q=>h1 (beq_iff_eq.mp q)) fun q=>h2 fun e=>q (beq_iff_eq.mpr e)
theorem Uj{α:Type}{c:Prop} [Decidable c]{x y:StateT SortSt Sem α}{Q:α→SortSt→Prop}{st:SortSt}(h1:c→wpS (model prog w) A E s x Q st)(h2:¬c→wpS (model prog w) A E s y Q st):wpS (model prog w) A E s (if decide c=true then x else y) Q st:=
 Yc (fun q=>h1 (of_decide_eq_true q)) fun q=>h2 fun e=>q (decide_eq_true e)
theorem Ze0{lo hi:Nat}(h:lo<hi):lo+(hi-lo)/2<hi:=
 Nat.lt_of_lt_of_eq (Nat.add_lt_add_left (Nat.div_lt_self (Nat.sub_pos_of_lt h) (Nat.lt_succ_self 1)) lo) (Nat.add_sub_of_le (Nat.le_of_lt h))
structure JB(f:Nat→Bool)(n x:Nat)(c:Option (Option Nat)×Nat×Nat):Prop where
 e:c.1=none
 le:c.2.1≤c.2.2
 hn:c.2.2≤n
 m:c.2.2+x≤n+c.2.1
 lo:∀i,i<c.2.1→f i=true
 hi:∀i,c.2.2≤i→i<n→f i=false
theorem NO{bey:Nat→StateT SortSt Sem (Option Bool)}{n:Nat}{st:SortSt}{f:Nat→Bool}{Q:Option (Option Nat)×Nat×Nat→SortSt→Prop}(hbey:∀{i:Nat} {R:Option Bool→SortSt→Prop},i<n→R (some (f i)) st→wpS (model prog w) A E s (bey i) R st)
  (mono:∀i j,i≤j→j<n→f j=true→f i=true) {lo hi:Nat} (h1:lo≤hi) (h2:hi≤n) (h3:∀i,i<lo→f i=true) (h4:∀i,hi≤i→i<n→f i=false)
  (h:∀m,m≤n→(∀i,i<m→f i=true)→(∀i,m≤i→i<n→f i=false)→Q (none,m,m) st):wpS (model prog w) A E s (ZdT bey n lo hi) Q st:=by
 have fin:∀(c:Option (Option Nat)×Nat×Nat) x,JB f n x c→c.2.2≤c.2.1→Q c st:=fun c x J q=>by
  have e:c=(none,c.2.2,c.2.2):=Prod.ext J.e (Prod.ext (Nat.le_antisymm J.le q) rfl)
  rw[e]
  exact h _ J.hn (fun i hi=>J.lo i (Nat.lt_of_lt_of_le hi q)) J.hi
 refine wpS_forRange (I:=fun x c st'=>st'=st∧JB f n x c) (fun x c st' q_ hx J=>?_) (fun c st' J=>J.1.symm▸fin c _ J.2 (Nat.le_of_add_le_add_right (Nat.le_trans J.2.m (Nat.le_trans (Nat.add_le_add_right (Nat.le_max_right 0 n) _) (Nat.le_of_eq (Nat.add_comm _ _)))))) ⟨rfl,rfl,h1,h2,Nat.add_le_add h2 (Nat.zero_le _),h3,h4⟩
 rw[J.1]
 have J:=J.2
 refine Yc (fun q=>wpS_pure (fin _ x ⟨rfl,J.le,J.hn,J.m,J.lo,J.hi⟩ q)) fun q=>?_
 have q:=Nat.lt_of_not_le q
 have hm:=Ze0 q
 have hl:c.2.1≤c.2.1+(c.2.2-c.2.1)/2:=Nat.le_add_right _ _
 revert hm hl
 generalize c.2.1+(c.2.2-c.2.1)/2=m
 intro hm hl
 have hmn:=Nat.lt_of_lt_of_le hm J.hn
 refine wpS_bind (hbey hmn (Yc (fun q2=>wpS_pure ⟨rfl,rfl,hm,J.hn,?_,fun i hi=>mono i m (Nat.le_of_lt_succ hi) hmn q2,J.hi⟩) fun q2=>wpS_pure ⟨rfl,rfl,hl,Nat.le_of_lt hmn,?_,J.lo,fun i h5 h6=>?_⟩))
 ·exact Nat.succ_le_succ (Nat.le_trans J.m (Nat.add_le_add_left hl n))
 ·exact Nat.le_trans (Nat.le_of_eq (Nat.succ_add_eq_add_succ m x).symm) (Nat.le_trans (Nat.add_le_add_right hm x) J.m)
 ·exact Bool.eq_false_iff.mpr fun e=>q2 (mono m i h5 h6 e)
structure JG(P:Nat→Prop)(x:Nat)(c:Option (Option Nat)×Nat×Nat):Prop where
 e:c.1=none
 lt:c.2.1<c.2.2
 x:x<c.2.2
 p:P c.2.1
theorem NN{P N:Nat→Prop}{n M:Nat}{st:SortSt}{g:Nat→Option (Option Nat)×Nat×Nat→StateT SortSt Sem (ForInStep (Option (Option Nat)×Nat×Nat))}{Q:Option (Option Nat)×Nat×Nat→SortSt→Prop}(hM:M≤n)(p0:P 0)
  (stop:∀x c,c.2.2≥M→g x c=pure (.done (none,c.2.1,c.2.2)))
  (step:∀x c {R:ForInStep (Option (Option Nat)×Nat×Nat)→SortSt→Prop},¬c.2.2≥M→(P c.2.2→R (.yield (none,c.2.2,2*c.2.2+1)) st)→(N c.2.2→R (.done (none,c.2.1,c.2.2)) st)→wpS (model prog w) A E s (g x c) R st)
  (h:∀lo ofs,P lo→lo<ofs→(M≤ofs∨N ofs)→Q (none,lo,ofs) st):wpS (model prog w) A E s (forIn [:n] ((none,0,1):Option (Option Nat)×Nat×Nat) g) Q st:=by
 have fin:∀(c:Option (Option Nat)×Nat×Nat) x,JG P x c→(M≤c.2.2∨N c.2.2)→Q (none,c.2.1,c.2.2) st:=fun c x J q=>h _ _ J.p J.lt q
 refine wpS_forRange (I:=fun x c st'=>st'=st∧JG P x c) (fun x c st' q_ hx J=>?_) (fun c st' J=>?_) ⟨rfl,rfl,Nat.lt_succ_self 0,Nat.lt_succ_self 0,p0⟩
 ·rw[J.1]
  have J:=J.2
  by_cases q:c.2.2≥M
  ·rw[stop x c q];exact wpS_pure (fin c x J (.inl q))
  ·have dbl:∀{a b:Nat},a<b→a+1<2*b+1:=fun {a b} h=>Nat.succ_lt_succ (Nat.lt_of_lt_of_le h (Nat.le_mul_of_pos_left b (Nat.lt_succ_of_lt (Nat.lt_succ_self 0))))
   exact step x c q (fun p=>⟨rfl,rfl,Nat.lt_succ_of_le (Nat.le_mul_of_pos_left _ (Nat.lt_succ_of_lt (Nat.lt_succ_self 0))),dbl J.x,p⟩) fun p=>fin c x J (.inr p)
 ·have e:c=(none,c.2.1,c.2.2):=Prod.ext J.2.e rfl
  rw[J.1,e]
  exact fin c _ J.2 (.inl (Nat.le_trans hM (Nat.le_trans (Nat.le_max_right 0 n) (Nat.le_of_lt J.2.x))))
theorem Qj(C:Cmp prog w A E s κ k D){left:Bool}{key:Keyed}{arr:Array Keyed}{base n hint:Nat}{st:SortSt}{Q:Option Nat→SortSt→Prop}(hκ:kindOf st=κ)(hk:D key)(ha:All D arr)(hb:base+n≤arr.size)(hh:hint<n)
  (f:Nat→Bool) (hf:∀i,f i=if left then decide (k (el arr (base+i))<k key)else !decide (k key<k (el arr (base+i)))) (mono:∀i j,i≤j→j<n→f j=true→f i=true)
  (h:∀m,m≤n→(∀i,i<m→f i=true)→(∀i,m≤i→i<n→f i=false)→Q (some m) st):wpS (model prog w) A E s (gallop' left key arr base n hint) Q st:=by
 rw[OP]
 have bey:∀{i:Nat} {R:Option Bool→SortSt→Prop},i<n→R (some (f i)) st→wpS (model prog w) A E s (do
   let x←elem' arr (base+i)
   if left=true then lt' x key else do
    let __do_lift←lt' key x
    pure (__do_lift.map (!·))) R st:=by
  intro i R hi hR
  have hi:=Nat.lt_of_lt_of_le (Nat.add_lt_add_left hi base) hb
  rw[hf]at hR
  refine wpS_bind (ZK hi ?_)
  cases left with
  |true=>exact C.lt hκ (ha _ hi) hk hR
  |false=>exact wpS_bind (C.lt hκ hk (ha _ hi) (wpS_pure hR))
 have ff:∀{i j},i≤j→j<n→f i=false→f j=false:=fun h1 h2 h3=>Bool.eq_false_iff.mpr fun e=>nomatch h3.symm.trans (mono _ _ h1 h2 e)
 dsimp only
 refine wpS_bind (bey hh (Yc (fun q=>wpS_bind (NN (P:=fun o=>hint+o<n∧f (hint+o)=true) (N:=fun o=>f (hint+o)=false) (Nat.sub_le n hint) ⟨hh,q⟩ (fun x c q=>if_pos q) (fun x c R q p1 p2=>?_) fun lo ofs p hl a=>?_)) fun q=>
  wpS_bind (NN (P:=fun o=>o≤hint∧f (hint-o)=false) (N:=fun o=>f (hint-o)=true) hh ⟨Nat.zero_le _,Bool.eq_false_iff.mpr q⟩ (fun x c q=>if_pos q) (fun x c R q p1 p2=>?_) fun lo ofs p hl a=>?_)))
 ·have hi:hint+c.2.2<n:=Nat.add_lt_of_lt_sub' (Nat.lt_of_not_le q)
  rw[if_neg q]
  refine wpS_bind (bey hi ?_)
  cases e:f (hint+c.2.2)
  ·exact wpS_pure (p2 e)
  ·exact wpS_pure (p1 ⟨hi,e⟩)
 ·refine wpS_bind (NO (lo:=hint+lo+1) (hi:=hint+min ofs (n-hint)) bey mono ?_ ?_ (fun i hi=>mono i (hint+lo) (Nat.le_of_lt_succ hi) p.1 p.2) (fun i h5 h6=>?_) fun m h1 h2 h3=>wpS_pure (h m h1 h2 h3))
  ·exact Nat.add_le_add_left (Nat.le_min.mpr ⟨hl,Nat.le_sub_of_add_le (Nat.le_trans (Nat.le_of_eq (Nat.add_comm _ _)) p.1)⟩) hint
  ·exact Nat.le_trans (Nat.add_le_add_left (Nat.min_le_right _ _) hint) (Nat.le_of_eq (Nat.add_sub_of_le (Nat.le_of_lt hh)))
  ·by_cases z:n-hint≤ofs
   ·rw[Nat.min_eq_right z,Nat.add_sub_of_le (Nat.le_of_lt hh)]at h5
    exact absurd h6 (Nat.not_lt.mpr h5)
   ·rw[Nat.min_eq_left (Nat.le_of_not_le z)]at h5
    exact ff h5 h6 (a.resolve_left z)
 ·have hi:c.2.2≤hint:=Nat.le_of_lt_succ (Nat.lt_of_not_le q)
  rw[if_neg q]
  refine wpS_bind (bey (Nat.lt_of_le_of_lt (Nat.sub_le _ _) hh) ?_)
  cases e:f (hint-c.2.2)
  ·exact wpS_pure (p1 ⟨hi,e⟩)
  ·exact wpS_pure (p2 e)
 ·refine wpS_bind (NO (lo:=hint+1-min ofs (hint+1)) (hi:=hint-lo) bey mono ?_ ?_ (fun i hi=>?_) (fun i h5 h6=>ff h5 h6 p.2) fun m h1 h2 h3=>wpS_pure (h m h1 h2 h3))
  ·refine Nat.sub_le_of_le_add (Nat.le_trans (Nat.le_of_eq (congrArg Nat.succ (Nat.sub_add_cancel p.1)).symm) (Nat.add_le_add_left (Nat.le_min.mpr ⟨hl,Nat.succ_le_succ p.1⟩) _))
  ·exact Nat.le_trans (Nat.sub_le _ _) (Nat.le_of_lt hh)
  ·by_cases z:hint+1≤ofs
   ·rw[Nat.min_eq_right z,Nat.sub_self]at hi
    exact absurd hi (Nat.not_lt_zero _)
   ·have z':=Nat.le_of_lt_succ (Nat.lt_of_not_le z)
    rw[Nat.min_eq_left (Nat.le_succ_of_le z'),Nat.succ_sub z']at hi
    exact mono i (hint-ofs) (Nat.le_of_lt_succ hi) (Nat.lt_of_le_of_lt (Nat.sub_le _ _) hh) (a.resolve_left z)
end
end
section
noncomputable def JJ:Nat→StateT SortSt Sem Unit:=sortPriv% PySem.Builtin.setMinGallop
noncomputable abbrev Yy(st:SortSt)(g:Nat):SortSt:=SortSt.mk' (kindOf st) (arrOf st) (pendingOf st) g (failedOf st)
theorem Zb3(g:Nat):JJ g=modify fun s=>Yy s g:=rfl
noncomputable def Gn:Array Keyed→Array Keyed→StateT SortSt Sem (Array Keyed):=sortPriv% PySem.Builtin.mergeLo
structure LI(r:Keyed→Keyed→Prop)(T out A B:List Keyed):Prop where
 perm:(out++(A++B)).Perm T
 so:out.Pairwise r
 le:∀x∈out,∀y∈A++B,r x y
 sA:A.Pairwise r
 sB:B.Pairwise r
section
variable{r:Keyed→Keyed→Prop}{T out A B c:List Keyed}
theorem LI.left(h:LI r T out (c++A) B)(hc:∀x∈c,∀y∈B,r x y):LI r T (out++c) A B:=by
 have a:=List.pairwise_append.mp h.sA
 have p:=h.perm
 rw[List.append_assoc]at p
 refine⟨by rw[List.append_assoc];exact p,List.pairwise_append.mpr ⟨h.so,a.1,fun x hx y hy=>h.le x hx y (List.mem_append_left _ (List.mem_append_left _ hy))⟩,fun x hx y hy=>(List.mem_append.mp hx).elim (fun hx=>h.le x hx y ?_) fun hx=>(List.mem_append.mp hy).elim (a.2.2 x hx y) (hc x hx y),a.2.1,h.sB⟩
 rw[List.append_assoc]
 exact List.mem_append_right _ hy
theorem LI.swap(h:LI r T out A B):LI r T out B A:=
 ⟨(List.Perm.append_left out List.perm_append_comm).trans h.perm,h.so,fun x hx y hy=>h.le x hx y (List.mem_append.mpr (List.mem_append.mp hy).symm),h.sB,h.sA⟩
theorem LI.right(h:LI r T out A (c++B))(hc:∀x∈c,∀y∈A,r x y):LI r T (out++c) A B:=(h.swap.left hc).swap
theorem LI.fin(h:LI r T out A []):(out++A).Perm T∧(out++A).Pairwise r:=
 ⟨List.append_nil A▸h.perm,List.pairwise_append.mpr ⟨h.so,h.sA,fun x hx y hy=>h.le x hx y (List.mem_append_left _ hy)⟩⟩
end
theorem Qg(a:Array Keyed)(i:Nat):el a i=(a.toList[i]?).getD (.none,.none):=by
 unfold el;rw[Array.getElem?_toList]
theorem Q0{a:Array Keyed}{i:Nat}(h:i<a.toList.length):a.toList[i]=el a i:=by
 rw[Qg,List.getElem?_eq_getElem h];rfl
theorem ZdG{a:Array Keyed}{i:Nat}(h:i<a.size):a.toList.drop i=[el a i]++a.toList.drop (i+1):=by
 rw[List.drop_eq_getElem_cons (Array.length_toList (xs:=a)▸h),Q0];rfl
theorem VV{a:Array Keyed}{i:Nat}{x:Keyed}(h:x∈a.toList.drop i):∃j,i≤j∧j<a.size∧x=el a j:=
 (List.getElem_of_mem h).elim fun j h=>h.elim fun hj e=>by
  rw[List.getElem_drop,Q0]at e
  rw[List.length_drop,Array.length_toList]at hj
  exact⟨i+j,Nat.le_add_right i j,Nat.add_lt_of_lt_sub' hj,e.symm⟩
theorem KI{a:Array Keyed}{i n:Nat}{x:Keyed}(h:x∈(a.toList.drop i).take n):∃j,j<n∧i+j<a.size∧x=el a (i+j):=
 (List.getElem_of_mem h).elim fun j h=>h.elim fun hj e=>by
  rw[List.getElem_take,List.getElem_drop,Q0]at e
  rw[List.length_take,List.length_drop,Array.length_toList]at hj
  have hj:=Nat.lt_min.mp hj
  exact⟨j,hj.1,Nat.add_lt_of_lt_sub' hj.2,e.symm⟩
theorem Kj{a:Array Keyed}{b c:Nat}{x:Keyed}(h:x∈(a.extract b c).toList):∃j,j<c-b∧b+j<a.size∧x=el a (b+j):=by
 rw[Array.toList_extract,List.extract_eq_take_drop]at h
 exact KI h
theorem Gy(a:Array Keyed)(i n:Nat):a.toList.drop i=(a.extract i (i+n)).toList++a.toList.drop (i+n):=by
 rw[Array.toList_extract,List.extract_eq_take_drop,Nat.add_sub_cancel_left,←List.drop_drop,List.take_append_drop]
theorem JP(a:Array Keyed)(i:Nat):(a.extract i a.size).toList=a.toList.drop i:=by
 rw[Array.toList_extract,List.extract_eq_take_drop,List.take_of_length_le]
 rw[List.length_drop,Array.length_toList];exact Nat.le_refl _
noncomputable abbrev kle(k:Keyed→Int)(x y:Keyed):Prop:=k x≤k y
theorem V8{k:Keyed→Int}{a:Array Keyed}(h:a.toList.Pairwise (kle k)){i j:Nat}(hij:i≤j)(hj:j<a.size):k (el a i)≤k (el a j):=by
 have hj:j<a.toList.length:=Array.length_toList (xs:=a)▸hj
 rcases Nat.lt_or_eq_of_le hij with q|q
 ·have:=List.pairwise_iff_getElem.mp h i j (Nat.lt_trans q hj) hj q
  rwa [Q0,Q0]at this
 ·exact Int.le_of_eq (q▸rfl)
section
variable{k:Keyed→Int}{T:List Keyed}{a b out:Array Keyed}{ia ib n:Nat}
noncomputable abbrev LA(k:Keyed→Int)(T:List Keyed)(a b out:Array Keyed)(ia ib:Nat):Prop:=LI (kle k) T out.toList (a.toList.drop ia) (b.toList.drop ib)
theorem Dx{x y:Keyed}(sb:b.toList.Pairwise (kle k))(hc:k x≤k (el b ib))(hy:y∈b.toList.drop ib):kle k x y:=
 (VV hy).elim fun l h=>h.2.2.symm▸Int.le_trans hc (V8 sb h.1 h.2.1)
theorem LA.chunkA(h:LA k T a b out ia ib)(sb:b.toList.Pairwise (kle k))(hc:∀j,j<n→ia+j<a.size→k (el a (ia+j))≤k (el b ib)):LA k T a b (out++a.extract ia (ia+n)) (ia+n) ib:=by
 unfold LA at h⊢
 rw[Array.toList_append]
 rw[Gy a ia n]at h
 exact h.left fun x hx y hy=>(Kj hx).elim fun j e=>Dx sb (e.2.2.symm▸hc j (Nat.add_sub_cancel_left (n:=ia) (m:=n)▸e.1) e.2.1) hy
theorem LA.swap(h:LA k T a b out ia ib):LA k T b a out ib ia:=LI.swap h
theorem LA.chunkB(h:LA k T a b out ia ib)(sa:a.toList.Pairwise (kle k))(hc:∀j,j<n→ib+j<b.size→k (el b (ib+j))≤k (el a ia)):LA k T a b (out++b.extract ib (ib+n)) ia (ib+n):=(h.swap.chunkA sa hc).swap
theorem LA.pushA(h:LA k T a b out ia ib)(sb:b.toList.Pairwise (kle k))(ha:ia<a.size)(hc:k (el a ia)≤k (el b ib)):LA k T a b (out.push (el a ia)) (ia+1) ib:=by
 unfold LA at h⊢
 rw[Array.toList_push]
 rw[ZdG ha]at h
 exact h.left fun x hx y hy=>Dx sb (List.mem_singleton.mp hx▸hc) hy
theorem LA.pushB(h:LA k T a b out ia ib)(sa:a.toList.Pairwise (kle k))(hb:ib<b.size)(hc:k (el b ib)≤k (el a ia)):LA k T a b (out.push (el b ib)) ia (ib+1):=(h.swap.pushA sa hb hc).swap
noncomputable def YI(k:Keyed→Int)(T:List Keyed)(r:Array Keyed):Prop:=r.toList.Perm T∧r.toList.Pairwise (kle k)
theorem WW(a:Array Keyed):a.toList.drop a.size=[]:=List.drop_of_length_le (Nat.le_of_eq Array.length_toList)
theorem LA.doneB(h:LA k T a b out ia ib)(hb:ib=b.size):YI k T (out++a.extract ia a.size++b.extract ib b.size):=by
 unfold YI
 unfold LA at h
 rw[hb,WW]at h
 rw[Array.toList_append,Array.toList_append,JP,JP,hb,WW,List.append_nil]
 exact h.fin
theorem LA.doneA(h:LA k T a b out ia ib)(ha:ia=a.size):YI k T (out++a.extract ia a.size++b.extract ib b.size):=by
 unfold YI
 unfold LA at h
 rw[ha,WW]at h
 rw[Array.toList_append,Array.toList_append,JP,JP,ha,WW,List.append_nil]
 exact h.swap.fin
theorem LA.last(h:LA k T a b out ia ib)(ha:ia+1=a.size)(hl:∀j,j<b.size→k (el b j)≤k (el a ia)):YI k T (out++b.extract ib b.size++a.extract ia a.size):=by
 unfold YI
 unfold LA at h
 rw[Array.toList_append,Array.toList_append,JP,JP]
 rw[←List.append_nil (b.toList.drop ib)]at h
 refine(h.right fun x hx y hy=>?_).fin
 refine(VV hx).elim fun l h1=>(VV hy).elim fun m h2=>?_
 rw[h1.2.2,h2.2.2,Nat.le_antisymm (Nat.le_of_lt_succ (Nat.lt_of_lt_of_eq h2.2.1 ha.symm)) h2.1]
 exact hl l h1.2.1
theorem LA.size(h:LA k T a b out ia ib)(hT:T=a.toList++b.toList)(ha:ia≤a.size)(hb:ib≤b.size):out.size=ia+ib:=by
 have e:=h.perm.length_eq
 rw[hT,List.length_append,List.length_append,List.length_append,List.length_drop,List.length_drop,Array.length_toList,Array.length_toList,Array.length_toList]at e
 refine Nat.add_right_cancel (e.trans ?_)
 rw[Nat.add_add_add_comm,Nat.add_sub_cancel' ha,Nat.add_sub_cancel' hb]
end
end
section
section
variable{prog:Program}{w:World}{A:Around}{E:Value→Shared→Prop}{s:Shared}{κ:SortKind}{k:Keyed→Int}{D:Keyed→Prop}
theorem bnt{x y:Int}:(!decide (x<y))=true↔y≤x:=by simp
theorem bnf{x y:Int}:(!decide (x<y))=false↔x<y:=by simp
theorem bdf{x y:Int}:decide (x<y)=false↔y≤x:=by simp
noncomputable abbrev M6(α β γ:Type):Type:=Option (Array Keyed)×α×β×γ×Nat×Nat
noncomputable abbrev M7(α β γ:Type):Type:=Option (Array Keyed)×α×β×γ×Nat×Nat×Nat
noncomputable abbrev M5(α β γ:Type):Type:=Option (Array Keyed)×α×β×γ×Nat
section
variable{α β γ:Type}{tot N:Nat}{fA:Nat→α→β→γ→Nat→Nat→StateT SortSt Sem (ForInStep (M6 α β γ))}{fG:M7 α β γ→StateT SortSt Sem (ForInStep (M7 α β γ))}{P:Nat→α→β→γ→Prop}{F:Array Keyed→Prop}{st:SortSt}
noncomputable abbrev V5{β:Type}(Q I:β→SortSt→Prop)(r:ForInStep β)(st:SortSt):Prop:=match r with
 | .done c=>Q c st
 | .yield c=>I c st
theorem US{β:Type}{b:Nat}{f:Nat→β→StateT SortSt Sem (ForInStep β)}(I:Nat→β→SortSt→Prop){Q:β→SortSt→Prop}(step:∀i c st,I i c st→wpS (model prog w) A E s (f i c) (V5 Q (I (i+1))) st)
  (fin:∀c st,I (max 0 b) c st→Q c st) {c:β} (h:I 0 c st):wpS (model prog w) A E s (forIn [:b] c f) Q st:=
 wpS_forRange I (fun i c st q_ q_ h=>wpS_mono (step i c st h) fun r q_ h=>by cases r<;>exact h) fin h
noncomputable def VQ{δ ε:Type}(o:Option δ)(f:δ→ε)(g:ε):ε:=match o with
 |some r=>f r
 |none=>g
theorem UT{δ ε:Type}{o:Option δ}{f:δ→StateT SortSt Sem ε}{g:StateT SortSt Sem ε}{Q:ε→SortSt→Prop}{B:Prop}{G:δ→Prop}(h:o.elim B G)(h1:∀r,G r→wpS (model prog w) A E s (f r) Q st)(h2:B→wpS (model prog w) A E s g Q st):wpS (model prog w) A E s (VQ o f g) Q st:=
 match o,h with
 |some r,h=>h1 r h
 |none,h=>h2 h
theorem X6{ε:Type}{m:StateT SortSt Sem ε}{Q:ε→SortSt→Prop}{st':SortSt}(e:st=st')(h:wpS (model prog w) A E s m Q st'):wpS (model prog w) A E s m Q st:=e▸h
noncomputable def mT(tot:Nat)(fA:Nat→α→β→γ→Nat→Nat→StateT SortSt Sem (ForInStep (M6 α β γ)))(fG:M7 α β γ→StateT SortSt Sem (ForInStep (M7 α β γ)))(c:M5 α β γ):StateT SortSt Sem (ForInStep (M5 α β γ)):=
 forIn [:tot] ((none,c.2.1,c.2.2.1,c.2.2.2.1,0,0):M6 α β γ) (fun q_ u=>fA c.2.2.2.2 u.2.1 u.2.2.1 u.2.2.2.1 u.2.2.2.2.1 u.2.2.2.2.2)>>=fun u=>VQ u.1 (fun r=>pure (.done (some r,u.2.1,u.2.2.1,u.2.2.2.1,c.2.2.2.2)))
  ((liftM (rule "list.sort.gallop"):StateT SortSt Sem Unit)>>=fun q_=>
    forIn [:tot] ((none,u.2.1,u.2.2.1,u.2.2.2.1,c.2.2.2.2+1,u.2.2.2.2.1,u.2.2.2.2.2):M7 α β γ) (fun q_ v=>fG v)>>=fun v=>VQ v.1 (fun r=>pure (.done (some r,v.2.1,v.2.2.1,v.2.2.2.1,v.2.2.2.2.1)))
     (JJ (v.2.2.2.2.1+1)>>=fun q_=>pure (.yield (none,v.2.1,v.2.2.1,v.2.2.2.1,v.2.2.2.2.1+1))))
noncomputable abbrev mS(P:Nat→α→β→γ→Prop)(F:Array Keyed→Prop)(N:Nat)(r:Option (Array Keyed))(x:α)(y:β)(z:γ):Prop:=r.elim (P N x y z) F
noncomputable def m7(P:Nat→α→β→γ→Prop)(N:Nat)(st:SortSt)(c:M7 α β γ)(st':SortSt):Prop:=(∃g,st'=Yy st g)∧P N c.2.1 c.2.2.1 c.2.2.2.1
noncomputable def m7Q(P:Nat→α→β→γ→Prop)(F:Array Keyed→Prop)(N:Nat)(st:SortSt)(c:M7 α β γ)(st':SortSt):Prop:=(∃g,st'=Yy st g)∧mS P F N c.1 c.2.1 c.2.2.1 c.2.2.2.1
noncomputable abbrev m7R(P:Nat→α→β→γ→Prop)(F:Array Keyed→Prop)(N:Nat)(st:SortSt):ForInStep (M7 α β γ)→SortSt→Prop:=V5 (m7Q P F N st) (fun c st'=>c.1=none∧m7 P N st c st')
noncomputable def m5(P:Nat→α→β→γ→Prop)(N:Nat)(st:SortSt)(c:M5 α β γ)(st':SortSt):Prop:=(∃g,st'=Yy st g)∧P N c.2.1 c.2.2.1 c.2.2.2.1
noncomputable def m5Q(F:Array Keyed→Prop)(st:SortSt)(c:M5 α β γ)(st':SortSt):Prop:=(∃g,st'=Yy st g)∧c.1.elim False F
noncomputable abbrev m5R(P:Nat→α→β→γ→Prop)(F:Array Keyed→Prop)(N:Nat)(st:SortSt):ForInStep (M5 α β γ)→SortSt→Prop:=V5 (m5Q F st) (m5 P N st)
noncomputable abbrev m6R(P:Nat→α→β→γ→Prop)(F:Array Keyed→Prop)(B N:Nat)(st:SortSt):ForInStep (M6 α β γ)→SortSt→Prop:=V5 (fun c' st'=>st'=st∧mS P F B c'.1 c'.2.1 c'.2.2.1 c'.2.2.2.1) (fun c' st'=>st'=st∧c'.1=none∧P (N+1) c'.2.1 c'.2.2.1 c'.2.2.2.1)
variable(up:∀N M x y z,N≤M→P M x y z→P N x y z)(pos:0<tot)(hA:∀{B N x y z mg ac bc g},B≤N+1→P N x y z→wpS (model prog w) A E s (fA mg x y z ac bc) (m6R P F B N (Yy st g)) (Yy st g))
 (hG:∀{N v st'},m7 P N st v st'→wpS (model prog w) A E s (fG v) (m7R P F N st) st')
include hG
theorem Zgg{x:α}{y:β}{z:γ}{m5 ac bc g:Nat}(p:P N x y z):wpS (model prog w) A E s ((liftM (rule "list.sort.gallop"):StateT SortSt Sem Unit)>>=fun q_=>
    forIn [:tot] ((none,x,y,z,m5,ac,bc):M7 α β γ) (fun q_ v=>fG v)>>=fun v=>VQ v.1 (fun r=>pure (.done (some r,v.2.1,v.2.2.1,v.2.2.2.1,v.2.2.2.2.1)))
     (JJ (v.2.2.2.2.1+1)>>=fun q_=>pure (.yield (none,v.2.1,v.2.2.1,v.2.2.2.1,v.2.2.2.2.1+1)))) (m5R P F N st) (Yy st g):=
 wpS_bind (wpS_lift (wpAny_rule ⟨rfl,wpS_bind (wpS_mono (US (I:=fun y c s1=>c.1=none∧m7 P N st c s1) (Q:=m7Q P F N st) (fun y c s1 h=>hG h.2) (fun c s1 h=>⟨h.2.1,h.1.symm▸h.2.2⟩) ⟨rfl,⟨g,rfl⟩,p⟩) fun c s1 h=>
  UT h.2 (fun r q=>wpS_pure ⟨h.1,q⟩) fun q=>h.1.elim fun g e=>X6 e (wpS_bind (wpS_modify (wpS_pure ⟨⟨_,rfl⟩,q⟩))))⟩))
include up pos hA
theorem Zgf{st':SortSt}{c:M5 α β γ}(h:m5 P N st c st'):wpS (model prog w) A E s (mT tot fA fG c) (m5R P F (N+1) st) st':=
 h.1.elim fun g e=>X6 e (wpS_bind (wpS_mono (US (I:=fun y c s1=>s1=Yy st g∧c.1=none∧P (N+y) c.2.1 c.2.2.1 c.2.2.2.1) (Q:=fun c s1=>s1=Yy st g∧mS P F (N+1) c.1 c.2.1 c.2.2.1 c.2.2.2.1)
  (fun y c s1 J=>X6 J.1 (hA (Nat.succ_le_succ (Nat.le_add_right N y)) J.2.2)) (fun c s1 J=>⟨J.1,J.2.1.symm▸up _ _ _ _ _ (Nat.add_le_add_left (Nat.le_trans pos (Nat.le_max_right 0 _)) N) J.2.2⟩) ⟨rfl,rfl,h.2⟩)
  fun c s1 J=>X6 J.1 (UT J.2 (fun r h=>wpS_pure ⟨⟨g,rfl⟩,h⟩) (Zgg hG))))
theorem Zc4{x:α}{y:β}{z:γ}{mg:Nat}{Q:Array Keyed→SortSt→Prop}(no:∀{x y z},¬P (tot+1) x y z)(h:∀r g,F r→Q r (Yy st g))(p:P 1 x y z):
  wpS (model prog w) A E s (forIn [:tot] ((none,x,y,z,mg):M5 α β γ) (fun q_ c=>mT tot fA fG c)>>=fun u=>VQ u.1 pure (liftM (unsupported "internal:list.sort.merge-bound" :Sem (Array Keyed)))) Q st:=
 wpS_bind (wpS_mono (US (I:=fun x c s1=>m5 P (x+1) st c s1) (Q:=m5Q F st) (fun x c s1 h=>Zgf (P:=P) up pos (fun {B N x y z mg ac bc g}=>hA) hG h) (fun c s1 h=>(no (up _ _ _ _ _ (Nat.succ_le_succ (Nat.le_max_right 0 _)) h.2)).elim) ⟨⟨gallopOf st,rfl⟩,p⟩)
  fun c s1 J=>UT J.2 (fun r q=>J.1.elim fun g e=>X6 e (wpS_pure (h r g q))) False.elim)
end
structure MH(D:Keyed→Prop)(k:Keyed→Int)(a b:Array Keyed):Prop where
 ha:All D a
 hb:All D b
 sa:a.toList.Pairwise (kle k)
 sb:b.toList.Pairwise (kle k)
section
variable{T:List Keyed}{a b o out:Array Keyed}{ia ib ja jb mg ac bc N:Nat}{st:SortSt}
noncomputable abbrev T6:Type:=M6 (Array Keyed) Nat Nat
noncomputable abbrev T7:Type:=M7 (Array Keyed) Nat Nat
noncomputable abbrev T5:Type:=M5 (Array Keyed) Nat Nat
noncomputable def loD(a b out:Array Keyed)(ia ib:Nat):Array Keyed:=out++a.extract ia a.size++b.extract ib b.size
noncomputable def loL(a b out:Array Keyed)(ia ib:Nat):Array Keyed:=out++b.extract ib b.size++a.extract ia a.size
noncomputable def loA(a b:Array Keyed)(mg:Nat)(out:Array Keyed)(ia ib ac bc:Nat):StateT SortSt Sem (ForInStep T6):=
 elem' b ib>>=fun x=>elem' a ia>>=fun y=>lt' x y>>=fun r=>match r with
  |some t=>if t=true then elem' b ib>>=fun z=>
     if(ib+1==b.size)=true then pure (.done (some (loD a b (out.push z) ia (ib+1)),out.push z,ia,ib+1,0,bc+1))
     else if bc+1≥mg then pure (.done (none,out.push z,ia,ib+1,0,bc+1))else pure (.yield (none,out.push z,ia,ib+1,0,bc+1))
    else elem' a ia>>=fun z=>
     if(ia+1+1==a.size)=true then pure (.done (some (loL a b (out.push z) (ia+1) ib),out.push z,ia+1,ib,ac+1,0))
     else if ac+1≥mg then pure (.done (none,out.push z,ia+1,ib,ac+1,0))else pure (.yield (none,out.push z,ia+1,ib,ac+1,0))
  |_=>pure (.done (some (loD a b out ia ib),out,ia,ib,ac,bc))
noncomputable def ZbI(a b:Array Keyed)(mg:Nat)(out:Array Keyed)(ia ib ac bc:Nat):StateT SortSt Sem (ForInStep T7):=
 elem' a ia>>=fun z=>
  if(ia+1+1==a.size)=true then pure (.done (some (loL a b (out.push z) (ia+1) ib),out.push z,ia+1,ib,mg,ac,bc))
  else if(decide (ac<7)&&decide (bc<7))=true then pure (.done (none,out.push z,ia+1,ib,mg,ac,bc))else pure (.yield (none,out.push z,ia+1,ib,mg,ac,bc))
noncomputable def Zc6(a b:Array Keyed)(mg:Nat)(out:Array Keyed)(ia ib ac bc:Nat):StateT SortSt Sem (ForInStep T7):=
 elem' a ia>>=fun y=>gallop' true y b ib (b.size-ib) 0>>=fun r=>match r with
  |some n=>if n>0 then
     if(ib+n==b.size)=true then pure (.done (some (loD a b (out++b.extract ib (ib+n)) ia (ib+n)),out++b.extract ib (ib+n),ia,ib+n,mg,ac,n))
     else ZbI a b mg (out++b.extract ib (ib+n)) ia (ib+n) ac n
    else ZbI a b mg out ia ib ac n
  |_=>pure (.done (some (loD a b out ia ib),out,ia,ib,mg,ac,bc))
noncomputable def ZbK(a b:Array Keyed)(mg:Nat)(out:Array Keyed)(ia ib ac bc:Nat):StateT SortSt Sem (ForInStep T7):=
 elem' b ib>>=fun z=>
  if(ib+1==b.size)=true then pure (.done (some (loD a b (out.push z) ia (ib+1)),out.push z,ia,ib+1,mg,ac,bc))
  else Zc6 a b mg (out.push z) ia (ib+1) ac bc
noncomputable def ZbL(a b:Array Keyed)(out:Array Keyed)(ia ib mg ac bc:Nat):StateT SortSt Sem (ForInStep T7):=
 JJ mg>>=fun q_=>elem' b ib>>=fun z=>gallop' false z a ia (a.size-ia) 0>>=fun r=>match r with
  |some m=>if m>0 then
     if(ia+m+1==a.size)=true then pure (.done (some (loL a b (out++a.extract ia (ia+m)) (ia+m) ib),out++a.extract ia (ia+m),ia+m,ib,mg,m,bc))
     else if(ia+m==a.size)=true then pure (.done (some (loD a b (out++a.extract ia (ia+m)) (ia+m) ib),out++a.extract ia (ia+m),ia+m,ib,mg,m,bc))
     else ZbK a b mg (out++a.extract ia (ia+m)) (ia+m) ib m bc
    else ZbK a b mg out ia ib m bc
  |_=>pure (.done (some (loD a b out ia ib),out,ia,ib,mg,ac,bc))
noncomputable def loG(a b:Array Keyed)(c:T7):StateT SortSt Sem (ForInStep T7):=
 if c.2.2.2.2.1>1 then ZbL a b c.2.1 c.2.2.1 c.2.2.2.1 (c.2.2.2.2.1-1) c.2.2.2.2.2.1 c.2.2.2.2.2.2 else ZbL a b c.2.1 c.2.2.1 c.2.2.2.1 c.2.2.2.2.1 c.2.2.2.2.2.1 c.2.2.2.2.2.2
noncomputable def loT(a b:Array Keyed)(c:T5):StateT SortSt Sem (ForInStep T5):=mT (a.size+b.size) (loA a b) (loG a b) c
theorem OG(a b:Array Keyed):Gn a b=((liftM (rule "list.sort.merge-lo"):StateT SortSt Sem Unit)>>=fun q_=>elem' b 0>>=fun z=>
  if(1==b.size)=true then pure (loD a b #[z] 0 1)else if(0+1==a.size)=true then pure (loL a b #[z] 0 1)
  else(get:StateT SortSt Sem SortSt)>>=fun st=>forIn [:a.size+b.size] ((none, #[z],0,1,gallopOf st):T5) (fun q_ c=>loT a b c)>>=fun u=>VQ u.1 pure (liftM (unsupported "internal:list.sort.merge-bound" :Sem (Array Keyed)))):=by
 kernel_rfl
structure LoI(k:Keyed→Int)(T:List Keyed)(a b:Array Keyed)(N:Nat)(o:Array Keyed)(ja jb:Nat):Prop where
 L:LA k T a b o ja jb
 g1:ja+1<a.size
 g2:jb<b.size
 g3:N≤o.size
theorem LoI.up{M:Nat}(h:M≤N)(I:LoI k T a b N o ja jb):LoI k T a b M o ja jb:=⟨I.L,I.g1,I.g2,Nat.le_trans h I.g3⟩
theorem LoI.ga(I:LoI k T a b N o ja jb):ja<a.size:=Nat.lt_of_succ_lt I.g1
structure LoR(k:Keyed→Int)(T:List Keyed)(a b:Array Keyed)(N:Nat)(R:ForInStep T7→SortSt→Prop)(st:SortSt):Prop where
 fin:∀r o ja jb mg ac bc,YI k T r→R (.done (some r,o,ja,jb,mg,ac,bc)) st
 go:∀o ja jb mg ac bc,LoI k T a b N o ja jb→R (.done (none,o,ja,jb,mg,ac,bc)) st∧R (.yield (none,o,ja,jb,mg,ac,bc)) st
variable{R:ForInStep T7→SortSt→Prop}(C:Cmp prog w A E s κ k D)(H:MH D k a b)(hκ:kindOf st=κ)(hl:∀j,j<b.size→k (el b j)≤k (el a (a.size-1)))
include C H hκ hl
omit C H hκ in
theorem Kk(L:LA k T a b o ja jb)(e:ja+1=a.size):YI k T (loL a b o ja jb):=L.last e fun j hj=>by
 have:=hl j hj
 rwa [←e]at this
omit C H hκ hl in
theorem QH{x:Keyed}(h:N≤o.size):N+1≤(o.push x).size:=by rw[Array.size_push];exact Nat.succ_le_succ h
omit C H hκ hl in
theorem Ho{c:Array Keyed}(h:N≤o.size):N≤(o++c).size:=by rw[Array.size_append];exact Nat.le_add_right_of_le h
omit C hκ in
theorem Oc(X:LoR k T a b N R st)(I:LoI k T a b N o ja jb)(q:k (el a ja)≤k (el b jb)):wpS (model prog w) A E s (ZbI a b mg o ja jb ac bc) R st:=
 have L2:=I.L.pushA H.sb I.ga q
 wpS_bind (ZK I.ga (ZX (fun p=>wpS_pure (X.fin _ _ _ _ _ _ _ (Kk hl L2 p))) fun p=>
  have Z:=X.go _ _ _ mg ac bc ⟨L2,Nat.lt_of_le_of_ne I.g1 p,I.g2,Nat.le_of_succ_le (QH I.g3)⟩
  Yc (fun q_=>wpS_pure Z.1) fun q_=>wpS_pure Z.2))
theorem ZbJ(X:LoR k T a b N R st)(I:LoI k T a b N o ja jb):wpS (model prog w) A E s (Zc6 a b mg o ja jb ac bc) R st:=by
 have g2:=Nat.le_of_lt I.g2
 refine wpS_bind (ZK I.ga (wpS_bind (Qj C hκ (H.ha _ I.ga) H.hb (Nat.le_of_eq (Nat.add_sub_cancel' g2)) (Nat.sub_pos_of_lt I.g2) (fun i=>decide (k (el b (jb+i))<k (el a ja))) (fun i=>rfl)
  (fun i j h1 h2 h3=>decide_eq_true (Int.lt_of_le_of_lt (V8 H.sb (Nat.add_le_add_left h1 jb) (Nat.add_lt_of_lt_sub' h2)) (of_decide_eq_true h3))) fun n hn hn1 hn2=>?_)))
 have LD:=I.L.chunkB (n:=n) H.sa fun j hj q_=>Int.le_of_lt (of_decide_eq_true (hn1 j hj))
 have z:jb+n<b.size→k (el a ja)≤k (el b (jb+n)):=fun h=>bdf.mp (hn2 n (Nat.le_refl n) (Nat.lt_sub_iff_add_lt'.mpr h))
 refine Yc (fun p=>ZX (fun e=>wpS_pure (X.fin _ _ _ _ _ _ _ (LD.doneB e))) fun e=>?_) fun p=>?_
 ·have h:=Nat.lt_of_le_of_ne (Nat.add_le_of_le_sub' g2 hn) e
  exact Oc H hl X ⟨LD,I.g1,h,Ho I.g3⟩ (z h)
 ·obtain rfl:n=0:=Nat.eq_zero_of_not_pos p
  exact Oc H hl X I (z I.g2)
theorem Od(X:LoR k T a b N R st)(I:LoI k T a b N o ja jb)(q:k (el b jb)≤k (el a ja)):wpS (model prog w) A E s (ZbK a b mg o ja jb ac bc) R st:=
 have L2:=I.L.pushB H.sa I.g2 q
 wpS_bind (ZK I.g2 (ZX (fun p=>wpS_pure (X.fin _ _ _ _ _ _ _ (L2.doneB p))) fun p=>ZbJ C H hκ hl X ⟨L2,I.g1,Nat.lt_of_le_of_ne I.g2 p,Nat.le_of_succ_le (QH I.g3)⟩))
theorem Oe(X:LoR k T a b N R (Yy st mg))(I:LoI k T a b N o ja jb):wpS (model prog w) A E s (ZbL a b o ja jb mg ac bc) R st:=by
 have hκ':kindOf (Yy st mg)=κ:=hκ
 have ga:=Nat.le_of_lt I.ga
 refine wpS_bind (wpS_modify (wpS_bind (ZK I.g2 (wpS_bind (Qj C hκ' (H.hb _ I.g2) H.ha (Nat.le_of_eq (Nat.add_sub_cancel' ga)) (Nat.sub_pos_of_lt I.ga) (fun i=> !decide (k (el b jb)<k (el a (ja+i)))) (fun i=>rfl)
  (fun i j h1 h2 h3=>bnt.mpr (Int.le_trans (V8 H.sa (Nat.add_le_add_left h1 ja) (Nat.add_lt_of_lt_sub' h2)) (bnt.mp h3))) fun m hm hm1 hm2=>?_)))))
 have LC:=I.L.chunkA (n:=m) H.sb fun j hj q_=>bnt.mp (hm1 j hj)
 have z:ja+m<a.size→k (el b jb)≤k (el a (ja+m)):=fun h=>Int.le_of_lt (bnf.mp (hm2 m (Nat.le_refl m) (Nat.lt_sub_iff_add_lt'.mpr h)))
 refine Yc (fun p=>ZX (fun e=>wpS_pure (X.fin _ _ _ _ _ _ _ (Kk hl LC e))) fun e=>ZX (fun e=>wpS_pure (X.fin _ _ _ _ _ _ _ (LC.doneA e))) fun e2=>?_) fun p=>?_
 ·have h:=Nat.lt_of_le_of_ne (Nat.add_le_of_le_sub' ga hm) e2
  exact Od C H hκ' hl X ⟨LC,Nat.lt_of_le_of_ne h e,I.g2,Ho I.g3⟩ (z h)
 ·obtain rfl:m=0:=Nat.eq_zero_of_not_pos p
  exact Od C H hκ' hl X I (z I.ga)
theorem Ze3{B:Nat}(hB:B≤N+1)(I:LoI k T a b N o ja jb):wpS (model prog w) A E s (loA a b mg o ja jb ac bc) (m6R (LoI k T a b) (YI k T) B N st) st:=by
 refine wpS_bind (ZK I.g2 (wpS_bind (ZK I.ga (wpS_bind (C.lt hκ (H.hb _ I.g2) (H.ha _ I.ga) (Uj (fun q=>wpS_bind (ZK I.g2 ?_)) fun q=>wpS_bind (ZK I.ga ?_)))))))
 ·have L2:=I.L.pushB H.sa I.g2 (Int.le_of_lt q)
  exact ZX (fun p=>wpS_pure ⟨rfl,L2.doneB p⟩) fun p=>
   have Z:LoI k T a b (N+1) _ _ _:=⟨L2,I.g1,Nat.lt_of_le_of_ne I.g2 p,QH I.g3⟩
   Yc (fun q_=>wpS_pure ⟨rfl,Z.up hB⟩) fun q_=>wpS_pure ⟨rfl,rfl,Z⟩
 ·have L2:=I.L.pushA H.sb I.ga (Int.not_lt.mp q)
  exact ZX (fun p=>wpS_pure ⟨rfl,Kk hl L2 p⟩) fun p=>
   have Z:LoI k T a b (N+1) _ _ _:=⟨L2,Nat.lt_of_le_of_ne I.g1 p,I.g2,QH I.g3⟩
   Yc (fun q_=>wpS_pure ⟨rfl,Z.up hB⟩) fun q_=>wpS_pure ⟨rfl,rfl,Z⟩
theorem Ze2{st':SortSt}{v:T7}(h:m7 (LoI k T a b) N st v st'):wpS (model prog w) A E s (loG a b v) (m7R (LoI k T a b) (YI k T) N st) st':=by
 obtain⟨⟨g,rfl⟩,I⟩:=h
 have X:∀mg,LoR k T a b N (m7R (LoI k T a b) (YI k T) N st) (Yy (Yy st g) mg):=fun mg=>⟨fun r o ja jb q_ ac bc h=>⟨⟨mg,rfl⟩,h⟩,fun o ja jb q_ ac bc I=>⟨⟨⟨mg,rfl⟩,I⟩,rfl,⟨mg,rfl⟩,I⟩⟩
 exact Yc (fun q_=>Oe (st:=Yy st g) C H hκ hl (X _) I) fun q_=>Oe (st:=Yy st g) C H hκ hl (X _) I
end
theorem Nj(C:Cmp prog w A E s κ k D){a b:Array Keyed}{st:SortSt}{Q:Array Keyed→SortSt→Prop}(hκ:kindOf st=κ)(ha:All D a)(hb:All D b)(sa:a.toList.Pairwise (kle k))(sb:b.toList.Pairwise (kle k))
  (na:0<a.size) (nb:0<b.size) (h0:k (el b 0)≤k (el a 0)) (hl:∀j,j<b.size→k (el b j)≤k (el a (a.size-1))) (h:∀r g,YI k (a.toList++b.toList) r→Q r (Yy st g)):wpS (model prog w) A E s (Gn a b) Q st:=by
 have H:MH D k a b:=⟨ha,hb,sa,sb⟩
 have I00:LA k (a.toList++b.toList) a b #[] 0 0:=⟨List.Perm.refl _,.nil,fun x hx=>(nomatch hx),sa,sb⟩
 have I0:LA k (a.toList++b.toList) a b #[el b 0] 0 1:=I00.pushB sa nb h0
 rw[OG]
 refine wpS_bind (wpS_lift (wpAny_rule ⟨rfl,wpS_bind (ZK nb (ZX (fun q=>wpS_pure (h _ (gallopOf st) (I0.doneB q))) fun q1=>ZX (fun q=>wpS_pure (h _ (gallopOf st) (Kk hl I0 q))) fun q2=>wpS_bind (wpS_get ?_)))⟩))
 refine Zc4 (P:=LoI k (a.toList++b.toList) a b) (fun q_ q_ q_ q_ q_ h I=>I.up h) (Nat.lt_of_lt_of_le na (Nat.le_add_right _ _)) (fun {B N x y z mg ac bc g} hB I=>Ze3 (st:=Yy st g) C H hκ hl hB I) (Ze2 C H hκ hl) (fun {o ja jb} I=>?_) h ⟨I0,Nat.lt_of_le_of_ne na q2,Nat.lt_of_le_of_ne nb q1,Nat.le_refl 1⟩
 have g:=I.g3
 rw[I.L.size rfl (Nat.le_of_lt I.ga) (Nat.le_of_lt I.g2)]at g
 exact Nat.lt_asymm (Nat.add_lt_add I.ga I.g2) g
end
end
section
noncomputable def Go:Array Keyed→Array Keyed→StateT SortSt Sem (Array Keyed):=sortPriv% PySem.Builtin.mergeHi
noncomputable abbrev kge(k:Keyed→Int)(x y:Keyed):Prop:=k y≤k x
noncomputable abbrev HA(k:Keyed→Int)(T:List Keyed)(a b out:Array Keyed)(na nb:Nat):Prop:=LI (kge k) T out.toList (a.toList.take na).reverse (b.toList.take nb).reverse
theorem Zdm{a:Array Keyed}{n:Nat}(h0:0<n)(h:n≤a.size):(a.toList.take n).reverse=[el a (n-1)]++(a.toList.take (n-1)).reverse:=by
 cases n with
 |zero=>exact absurd h0 (Nat.lt_irrefl 0)
 |succ m=>
  have hm:m<a.toList.length:=Array.length_toList (xs:=a)▸h
  rw[List.take_add_one,List.getElem?_eq_getElem hm,Q0,List.reverse_append]
  rfl
theorem XJ{a:Array Keyed}{n:Nat}{x:Keyed}(h:x∈(a.toList.take n).reverse):∃j,j<n∧x=el a j:=
 (KI (i:=0) (n:=n) (a:=a) (List.mem_reverse.mp h)).imp fun j e=>⟨e.1,Nat.zero_add j▸e.2.2⟩
theorem rchunk{a:Array Keyed}{m n:Nat}(h:m≤n):(a.toList.take n).reverse=(a.extract m n).reverse.toList++(a.toList.take m).reverse:=by
 rw[Array.toList_reverse,Array.toList_extract,List.extract_eq_take_drop,←List.drop_take,←List.reverse_append]
 have:=List.take_append_drop m (a.toList.take n)
 rw[List.take_take,Nat.min_eq_left h]at this
 exact congrArg List.reverse this.symm
theorem OJ{a:Array Keyed}{m n:Nat}{x:Keyed}(h:x∈(a.extract m n).reverse.toList):∃j,m≤j∧j<n∧x=el a j:=by
 rw[Array.toList_reverse]at h
 exact(Kj (List.mem_reverse.mp h)).elim fun j e=>⟨m+j,Nat.le_add_right m j,Nat.add_lt_of_lt_sub' e.1,e.2.2⟩
section
variable{k:Keyed→Int}{T:List Keyed}{a b out:Array Keyed}{na nb m:Nat}
theorem Bp{x y:Keyed}(sb:b.toList.Pairwise (kle k))(h1:0<nb)(h3:nb≤b.size)(hc:k (el b (nb-1))≤k x)(hy:y∈(b.toList.take nb).reverse):kge k x y:=
 (XJ hy).elim fun l h=>h.2.symm▸Int.le_trans (V8 sb (Nat.le_sub_one_of_lt h.1) (Nat.lt_of_lt_of_le (Nat.sub_lt h1 Nat.one_pos) h3)) hc
theorem HA.swap(h:HA k T a b out na nb):HA k T b a out nb na:=LI.swap h
theorem HA.pushA(h:HA k T a b out na nb)(sb:b.toList.Pairwise (kle k))(h1:0<na)(h2:na≤a.size)(h0:0<nb)(h3:nb≤b.size)(hc:k (el b (nb-1))≤k (el a (na-1))):HA k T a b (out.push (el a (na-1))) (na-1) nb:=by
 unfold HA at h⊢
 rw[Array.toList_push]
 rw[Zdm h1 h2]at h
 exact h.left fun x hx y hy=>Bp sb h0 h3 (List.mem_singleton.mp hx▸hc) hy
theorem HA.pushB(h:HA k T a b out na nb)(sa:a.toList.Pairwise (kle k))(h1:0<nb)(h2:nb≤b.size)(h0:0<na)(h3:na≤a.size)(hc:k (el a (na-1))≤k (el b (nb-1))):HA k T a b (out.push (el b (nb-1))) na (nb-1):=(h.swap.pushA sa h1 h2 h0 h3 hc).swap
theorem HA.chunkA(h:HA k T a b out na nb)(sb:b.toList.Pairwise (kle k))(h1:m≤na)(h0:0<nb)(h3:nb≤b.size)(hc:∀j,m≤j→j<na→k (el b (nb-1))≤k (el a j)):HA k T a b (out++(a.extract m na).reverse) m nb:=by
 unfold HA at h⊢
 rw[Array.toList_append]
 rw[rchunk h1]at h
 exact h.left fun x hx y hy=>(OJ hx).elim fun j e=>Bp sb h0 h3 (e.2.2.symm▸hc j e.1 e.2.1) hy
theorem HA.chunkB(h:HA k T a b out na nb)(sa:a.toList.Pairwise (kle k))(h1:m≤nb)(h0:0<na)(h3:na≤a.size)(hc:∀j,m≤j→j<nb→k (el a (na-1))≤k (el b j)):HA k T a b (out++(b.extract m nb).reverse) na m:=(h.swap.chunkA sa h1 h0 h3 hc).swap
theorem H0{l:List Keyed}(h:l.Perm T∧l.Pairwise (kge k)):l.reverse.Perm T∧l.reverse.Pairwise (kle k):=
 ⟨(List.reverse_perm l).trans h.1,List.pairwise_reverse.mpr h.2⟩
theorem Up(a:Array Keyed)(n:Nat):(a.extract 0 n).toList=a.toList.take n:=by
 rw[Array.toList_extract,List.extract_eq_take_drop,List.drop_zero];rfl
theorem HA.done(h:HA k T a b out na nb)(h0:na=0):YI k T (a.extract 0 na++b.extract 0 nb++out.reverse):=by
 unfold YI
 rw[h0]at h⊢
 have e:=H0 (LI.fin (LI.swap h))
 rw[List.reverse_append,List.reverse_reverse]at e
 rw[Array.toList_append,Array.toList_append,Up,Up,Array.toList_reverse]
 exact e
theorem HA.done0(h:HA k T a b out na nb)(h0:nb=0):YI k T (a.extract 0 na++b.extract 0 nb++out.reverse):=by
 unfold YI
 rw[h0]at h⊢
 have e:=H0 (LI.fin h)
 rw[List.reverse_append,List.reverse_reverse]at e
 rw[Array.toList_append,Array.toList_append,Up,Up,Array.toList_reverse,List.take_zero,List.append_nil]
 exact e
theorem HA.first(h:HA k T a b out na nb)(h1:nb=1)(h2:na≤a.size)(sa:a.toList.Pairwise (kle k))(h0:k (el b 0)≤k (el a 0)):YI k T (b.extract 0 nb++a.extract 0 na++out.reverse):=by
 unfold YI
 rw[h1]at h⊢
 unfold HA at h
 rw[←List.append_nil (a.toList.take na).reverse]at h
 have e:=H0 (LI.fin (LI.swap (h.left fun x hx y hy=>(XJ hx).elim fun j e=>(XJ hy).elim fun l f=>by
  rw[e.2,f.2,Nat.lt_one_iff.mp f.1]
  exact Int.le_trans h0 (V8 sa (Nat.zero_le j) (Nat.lt_of_lt_of_le e.1 h2)))))
 rw[List.reverse_append,List.reverse_append,List.reverse_reverse,List.reverse_reverse,←List.append_assoc]at e
 rw[Array.toList_append,Array.toList_append,Up,Up,Array.toList_reverse]
 exact e
theorem HA.size(h:HA k T a b out na nb)(hT:T=a.toList++b.toList)(h1:na≤a.size)(h2:nb≤b.size):out.size+(na+nb)=a.size+b.size:=by
 have e:=h.perm.length_eq
 rw[hT,List.length_append,List.length_append,List.length_append,List.length_reverse,List.length_reverse,List.length_take,List.length_take,Array.length_toList,Array.length_toList,Array.length_toList,Nat.min_eq_left h1,Nat.min_eq_left h2]at e
 exact e
end
section
variable{prog:Program}{w:World}{A:Around}{E:Value→Shared→Prop}{s:Shared}{κ:SortKind}{k:Keyed→Int}{D:Keyed→Prop}
section
variable{T:List Keyed}{a b o out:Array Keyed}{na nb mg ac bc N:Nat}{st:SortSt}
noncomputable abbrev H6:Type:=M6 Nat Nat (Array Keyed)
noncomputable abbrev H7:Type:=M7 Nat Nat (Array Keyed)
noncomputable abbrev H5:Type:=M5 Nat Nat (Array Keyed)
noncomputable def hiD(a b out:Array Keyed)(na nb:Nat):Array Keyed:=a.extract 0 na++b.extract 0 nb++out.reverse
noncomputable def hiF(a b out:Array Keyed)(na nb:Nat):Array Keyed:=b.extract 0 nb++a.extract 0 na++out.reverse
noncomputable def hiA(a b:Array Keyed)(mg:Nat)(na nb:Nat)(out:Array Keyed)(ac bc:Nat):StateT SortSt Sem (ForInStep H6):=
 elem' b (nb-1)>>=fun x=>elem' a (na-1)>>=fun y=>lt' x y>>=fun r=>match r with
  |some t=>if t=true then elem' a (na-1)>>=fun z=>
     if(na-1==0)=true then pure (.done (some (hiD a b (out.push z) (na-1) nb),na-1,nb,out.push z,ac+1,0))
     else if ac+1≥mg then pure (.done (none,na-1,nb,out.push z,ac+1,0))else pure (.yield (none,na-1,nb,out.push z,ac+1,0))
    else elem' b (nb-1)>>=fun z=>
     if(nb-1==1)=true then pure (.done (some (hiF a b (out.push z) na (nb-1)),na,nb-1,out.push z,0,bc+1))
     else if bc+1≥mg then pure (.done (none,na,nb-1,out.push z,0,bc+1))else pure (.yield (none,na,nb-1,out.push z,0,bc+1))
  |_=>pure (.done (some (hiD a b out na nb),na,nb,out,ac,bc))
noncomputable def ZbO(a b:Array Keyed)(mg na nb:Nat)(out:Array Keyed)(ac bc:Nat):StateT SortSt Sem (ForInStep H7):=
 elem' a (na-1)>>=fun z=>
  if(na-1==0)=true then pure (.done (some (hiD a b (out.push z) (na-1) nb),na-1,nb,out.push z,mg,ac,bc))
  else if(decide (ac<7)&&decide (bc<7))=true then pure (.done (none,na-1,nb,out.push z,mg,ac,bc))else pure (.yield (none,na-1,nb,out.push z,mg,ac,bc))
noncomputable def Zc9(a b:Array Keyed)(mg na nb:Nat)(out:Array Keyed)(ac bc:Nat):StateT SortSt Sem (ForInStep H7):=
 elem' a (na-1)>>=fun y=>gallop' true y b 0 nb (nb-1)>>=fun r=>match r with
  |some n=>if nb-n>0 then
     if(n==1)=true then pure (.done (some (hiF a b (out++(b.extract n nb).reverse) na n),na,n,out++(b.extract n nb).reverse,mg,ac,nb-n))
     else if(n==0)=true then pure (.done (some (hiD a b (out++(b.extract n nb).reverse) na n),na,n,out++(b.extract n nb).reverse,mg,ac,nb-n))
     else ZbO a b mg na n (out++(b.extract n nb).reverse) ac (nb-n)
    else ZbO a b mg na nb out ac (nb-n)
  |_=>pure (.done (some (hiD a b out na nb),na,nb,out,mg,ac,bc))
noncomputable def ZbQ(a b:Array Keyed)(mg na nb:Nat)(out:Array Keyed)(ac bc:Nat):StateT SortSt Sem (ForInStep H7):=
 elem' b (nb-1)>>=fun z=>
  if(nb-1==1)=true then pure (.done (some (hiF a b (out.push z) na (nb-1)),na,nb-1,out.push z,mg,ac,bc))
  else Zc9 a b mg na (nb-1) (out.push z) ac bc
noncomputable def ZbR(a b:Array Keyed)(na nb:Nat)(out:Array Keyed)(mg ac bc:Nat):StateT SortSt Sem (ForInStep H7):=
 JJ mg>>=fun q_=>elem' b (nb-1)>>=fun z=>gallop' false z a 0 na (na-1)>>=fun r=>match r with
  |some m=>if na-m>0 then
     if(m==0)=true then pure (.done (some (hiD a b (out++(a.extract m na).reverse) m nb),m,nb,out++(a.extract m na).reverse,mg,na-m,bc))
     else ZbQ a b mg m nb (out++(a.extract m na).reverse) (na-m) bc
    else ZbQ a b mg na nb out (na-m) bc
  |_=>pure (.done (some (hiD a b out na nb),na,nb,out,mg,ac,bc))
noncomputable def hiG(a b:Array Keyed)(c:H7):StateT SortSt Sem (ForInStep H7):=
 if c.2.2.2.2.1>1 then ZbR a b c.2.1 c.2.2.1 c.2.2.2.1 (c.2.2.2.2.1-1) c.2.2.2.2.2.1 c.2.2.2.2.2.2 else ZbR a b c.2.1 c.2.2.1 c.2.2.2.1 c.2.2.2.2.1 c.2.2.2.2.2.1 c.2.2.2.2.2.2
noncomputable def hiT(a b:Array Keyed)(c:H5):StateT SortSt Sem (ForInStep H5):=mT (a.size+b.size) (hiA a b) (hiG a b) c
theorem OH(a b:Array Keyed):Go a b=((liftM (rule "list.sort.merge-hi"):StateT SortSt Sem Unit)>>=fun q_=>elem' a (a.size-1)>>=fun z=>
  if(a.size-1==0)=true then pure (hiD a b #[z] (a.size-1) b.size)else if(b.size==1)=true then pure (hiF a b #[z] (a.size-1) b.size)
  else(get:StateT SortSt Sem SortSt)>>=fun st=>forIn [:a.size+b.size] ((none,a.size-1,b.size, #[z],gallopOf st):H5) (fun q_ c=>hiT a b c)>>=fun u=>VQ u.1 pure (liftM (unsupported "internal:list.sort.merge-bound" :Sem (Array Keyed)))):=by
 kernel_rfl
structure HI(k:Keyed→Int)(T:List Keyed)(a b:Array Keyed)(N na nb:Nat)(o:Array Keyed):Prop where
 L:HA k T a b o na nb
 a0:0<na
 a1:na≤a.size
 b0:1<nb
 b1:nb≤b.size
 n:N≤o.size
theorem HI.up{M:Nat}(h:M≤N)(I:HI k T a b N na nb o):HI k T a b M na nb o:=⟨I.L,I.a0,I.a1,I.b0,I.b1,Nat.le_trans h I.n⟩
theorem HI.pb(I:HI k T a b N na nb o):0<nb:=Nat.lt_of_succ_lt I.b0
theorem HI.la(I:HI k T a b N na nb o):na-1<a.size:=Nat.lt_of_lt_of_le (Nat.sub_lt I.a0 Nat.one_pos) I.a1
theorem HI.lb(I:HI k T a b N na nb o):nb-1<b.size:=Nat.lt_of_lt_of_le (Nat.sub_lt I.pb Nat.one_pos) I.b1
structure HiR(k:Keyed→Int)(T:List Keyed)(a b:Array Keyed)(N:Nat)(R:ForInStep H7→SortSt→Prop)(st:SortSt):Prop where
 fin:∀r o ja jb mg ac bc,YI k T r→R (.done (some r,ja,jb,o,mg,ac,bc)) st
 go:∀o ja jb mg ac bc,HI k T a b N ja jb o→R (.done (none,ja,jb,o,mg,ac,bc)) st∧R (.yield (none,ja,jb,o,mg,ac,bc)) st
variable{R:ForInStep H7→SortSt→Prop}(C:Cmp prog w A E s κ k D)(H:MH D k a b)(hκ:kindOf st=κ)(h0:k (el b 0)≤k (el a 0))
include H h0
theorem Oi(X:HiR k T a b N R st)(I:HI k T a b N na nb o)(q:k (el b (nb-1))≤k (el a (na-1))):wpS (model prog w) A E s (ZbO a b mg na nb o ac bc) R st:=
 have L2:=I.L.pushA H.sb I.a0 I.a1 I.pb I.b1 q
 wpS_bind (ZK I.la (ZX (fun p=>wpS_pure (X.fin _ _ _ _ _ _ _ (L2.done p))) fun p=>
  have Z:=X.go _ _ _ mg ac bc ⟨L2,Nat.pos_of_ne_zero p,Nat.le_of_lt I.la,I.b0,I.b1,Nat.le_of_succ_le (QH I.n)⟩
  Yc (fun q_=>wpS_pure Z.1) fun q_=>wpS_pure Z.2))
include C hκ
theorem ZbP(X:HiR k T a b N R st)(I:HI k T a b N na nb o):wpS (model prog w) A E s (Zc9 a b mg na nb o ac bc) R st:=by
 refine wpS_bind (ZK I.la (wpS_bind (Qj C hκ (H.ha _ I.la) H.hb (Nat.le_trans (Nat.le_of_eq (Nat.zero_add nb)) I.b1) (Nat.sub_lt I.pb Nat.one_pos) (fun i=>decide (k (el b (0+i))<k (el a (na-1)))) (fun i=>rfl)
  (fun i j h1 h2 h3=>decide_eq_true (Int.lt_of_le_of_lt (V8 H.sb (Nat.add_le_add_left h1 0) (Nat.lt_of_le_of_lt (Nat.le_of_eq (Nat.zero_add j)) (Nat.lt_of_lt_of_le h2 I.b1))) (of_decide_eq_true h3))) fun n hn hn1 hn2=>?_)))
 have LD:=I.L.chunkB (m:=n) H.sa hn I.a0 I.a1 fun j h1 h2=>Nat.zero_add j▸bdf.mp (hn2 j h1 h2)
 have z:0<n→k (el b (n-1))≤k (el a (na-1)):=fun h=>Nat.zero_add (n-1)▸Int.le_of_lt (of_decide_eq_true (hn1 _ (Nat.sub_lt h Nat.one_pos)))
 refine Yc (fun p=>ZX (fun e=>wpS_pure (X.fin _ _ _ _ _ _ _ (LD.first e I.a1 H.sa h0))) fun e=>ZX (fun e=>wpS_pure (X.fin _ _ _ _ _ _ _ (LD.done0 e))) fun e2=>?_) fun p=>?_
 ·have h:=Nat.pos_of_ne_zero e2
  exact Oi H h0 X ⟨LD,I.a0,I.a1,Nat.lt_of_le_of_ne h (Ne.symm e),Nat.le_trans hn I.b1,Ho I.n⟩ (z h)
 ·obtain rfl:n=nb:=Nat.le_antisymm hn (Nat.le_of_sub_eq_zero (Nat.eq_zero_of_not_pos p))
  exact Oi H h0 X I (z I.pb)
theorem Oj(X:HiR k T a b N R st)(I:HI k T a b N na nb o)(q:k (el a (na-1))≤k (el b (nb-1))):wpS (model prog w) A E s (ZbQ a b mg na nb o ac bc) R st:=
 have L2:=I.L.pushB H.sa I.pb I.b1 I.a0 I.a1 q
 wpS_bind (ZK I.lb (ZX (fun p=>wpS_pure (X.fin _ _ _ _ _ _ _ (L2.first p I.a1 H.sa h0))) fun p=>ZbP C H hκ h0 X ⟨L2,I.a0,I.a1,Nat.lt_of_le_of_ne (Nat.le_sub_one_of_lt I.b0) (Ne.symm p),Nat.le_of_lt I.lb,Nat.le_of_succ_le (QH I.n)⟩))
theorem Ol(X:HiR k T a b N R (Yy st mg))(I:HI k T a b N na nb o):wpS (model prog w) A E s (ZbR a b na nb o mg ac bc) R st:=by
 have hκ':kindOf (Yy st mg)=κ:=hκ
 refine wpS_bind (wpS_modify (wpS_bind (ZK I.lb (wpS_bind (Qj C hκ' (H.hb _ I.lb) H.ha (Nat.le_trans (Nat.le_of_eq (Nat.zero_add na)) I.a1) (Nat.sub_lt I.a0 Nat.one_pos) (fun i=> !decide (k (el b (nb-1))<k (el a (0+i)))) (fun i=>rfl)
  (fun i j h1 h2 h3=>bnt.mpr (Int.le_trans (V8 H.sa (Nat.add_le_add_left h1 0) (Nat.lt_of_le_of_lt (Nat.le_of_eq (Nat.zero_add j)) (Nat.lt_of_lt_of_le h2 I.a1))) (bnt.mp h3))) fun m hm hm1 hm2=>?_)))))
 have LC:=I.L.chunkA (m:=m) H.sb hm I.pb I.b1 fun j h1 h2=>Nat.zero_add j▸Int.le_of_lt (bnf.mp (hm2 j h1 h2))
 have z:0<m→k (el a (m-1))≤k (el b (nb-1)):=fun h=>Nat.zero_add (m-1)▸bnt.mp (hm1 _ (Nat.sub_lt h Nat.one_pos))
 refine Yc (fun p=>ZX (fun e=>wpS_pure (X.fin _ _ _ _ _ _ _ (LC.done e))) fun e=>?_) fun p=>?_
 ·exact Oj C H hκ' h0 X ⟨LC,Nat.pos_of_ne_zero e,Nat.le_trans hm I.a1,I.b0,I.b1,Ho I.n⟩ (z (Nat.pos_of_ne_zero e))
 ·obtain rfl:m=na:=Nat.le_antisymm hm (Nat.le_of_sub_eq_zero (Nat.eq_zero_of_not_pos p))
  exact Oj C H hκ' h0 X I (z I.a0)
theorem ZeD{B:Nat}(hB:B≤N+1)(I:HI k T a b N na nb o):wpS (model prog w) A E s (hiA a b mg na nb o ac bc) (m6R (HI k T a b) (YI k T) B N st) st:=by
 refine wpS_bind (ZK I.lb (wpS_bind (ZK I.la (wpS_bind (C.lt hκ (H.hb _ I.lb) (H.ha _ I.la) (Uj (fun q=>wpS_bind (ZK I.la ?_)) fun q=>wpS_bind (ZK I.lb ?_)))))))
 ·have L2:=I.L.pushA H.sb I.a0 I.a1 I.pb I.b1 (Int.le_of_lt q)
  exact ZX (fun p=>wpS_pure ⟨rfl,L2.done p⟩) fun p=>
   have Z:HI k T a b (N+1) _ _ _:=⟨L2,Nat.pos_of_ne_zero p,Nat.le_of_lt I.la,I.b0,I.b1,QH I.n⟩
   Yc (fun q_=>wpS_pure ⟨rfl,Z.up hB⟩) fun q_=>wpS_pure ⟨rfl,rfl,Z⟩
 ·have L2:=I.L.pushB H.sa I.pb I.b1 I.a0 I.a1 (Int.not_lt.mp q)
  exact ZX (fun p=>wpS_pure ⟨rfl,L2.first p I.a1 H.sa h0⟩) fun p=>
   have Z:HI k T a b (N+1) _ _ _:=⟨L2,I.a0,I.a1,Nat.lt_of_le_of_ne (Nat.le_sub_one_of_lt I.b0) (Ne.symm p),Nat.le_of_lt I.lb,QH I.n⟩
   Yc (fun q_=>wpS_pure ⟨rfl,Z.up hB⟩) fun q_=>wpS_pure ⟨rfl,rfl,Z⟩
theorem ZeC{st':SortSt}{v:H7}(h:m7 (HI k T a b) N st v st'):wpS (model prog w) A E s (hiG a b v) (m7R (HI k T a b) (YI k T) N st) st':=by
 obtain⟨⟨g,rfl⟩,I⟩:=h
 have X:∀mg,HiR k T a b N (m7R (HI k T a b) (YI k T) N st) (Yy (Yy st g) mg):=fun mg=>⟨fun r o ja jb q_ ac bc h=>⟨⟨mg,rfl⟩,h⟩,fun o ja jb q_ ac bc I=>⟨⟨⟨mg,rfl⟩,I⟩,rfl,⟨mg,rfl⟩,I⟩⟩
 exact Yc (fun q_=>Ol (st:=Yy st g) C H hκ h0 (X _) I) fun q_=>Ol (st:=Yy st g) C H hκ h0 (X _) I
end
theorem Nk(C:Cmp prog w A E s κ k D){a b:Array Keyed}{st:SortSt}{Q:Array Keyed→SortSt→Prop}(hκ:kindOf st=κ)(ha:All D a)(hb:All D b)(sa:a.toList.Pairwise (kle k))(sb:b.toList.Pairwise (kle k))
  (pa:0<a.size) (pb:0<b.size) (h0:k (el b 0)≤k (el a 0)) (hl:k (el b (b.size-1))≤k (el a (a.size-1))) (h:∀r g,YI k (a.toList++b.toList) r→Q r (Yy st g)):wpS (model prog w) A E s (Go a b) Q st:=by
 have H:MH D k a b:=⟨ha,hb,sa,sb⟩
 have full:∀a:Array Keyed,a.toList.take a.size=a.toList:=fun a=>List.take_of_length_le (Nat.le_of_eq Array.length_toList)
 have I00:HA k (a.toList++b.toList) a b #[] a.size b.size:=by
  unfold HA
  rw[full,full]
  exact⟨(show List.Perm (a.toList.reverse++b.toList.reverse) _ from List.Perm.append (List.reverse_perm _) (List.reverse_perm _)),.nil,fun x hx=>(nomatch hx),List.pairwise_reverse.mpr sa,List.pairwise_reverse.mpr sb⟩
 have I0:HA k (a.toList++b.toList) a b #[el a (a.size-1)] (a.size-1) b.size:=I00.pushA sb pa (Nat.le_refl _) pb (Nat.le_refl _) hl
 rw[OH]
 refine wpS_bind (wpS_lift (wpAny_rule ⟨rfl,wpS_bind (ZK (Nat.sub_lt pa Nat.one_pos) (ZX (fun q=>wpS_pure (h _ (gallopOf st) (I0.done q))) fun q1=>ZX (fun q=>wpS_pure (h _ (gallopOf st) (I0.first q (Nat.sub_le _ _) sa h0))) fun q2=>wpS_bind (wpS_get ?_)))⟩))
 refine Zc4 (P:=HI k (a.toList++b.toList) a b) (fun q_ q_ q_ q_ q_ h I=>I.up h) (Nat.lt_of_lt_of_le pa (Nat.le_add_right _ _)) (fun {B N x y z mg ac bc g} hB I=>ZeD (st:=Yy st g) C H hκ h0 hB I) (ZeC C H hκ h0) (fun {ja jb o} I=>?_) h ⟨I0,Nat.pos_of_ne_zero q1,Nat.sub_le _ _,Nat.lt_of_le_of_ne pb (Ne.symm q2),Nat.le_refl _,Nat.le_refl 1⟩
 have g:=I.n
 rw[←I.L.size rfl I.a1 I.b1]at g
 exact absurd g (Nat.not_le.mpr (Nat.lt_succ_of_le (Nat.le_add_right _ _)))
end
end
section
theorem ZaT(lo nrem:Nat):countRun' lo nrem=(do
 let mut n:=1
 for _ in [1:nrem] do
  let some smaller←ltAt' (lo+n) (lo+n-1)|return none
  if smaller then break
  n:=n+1
 if n==nrem then return some n
 if n>1 then
  let some rose←ltAt' lo (lo+n-1)|return none
  if rose then return some n
  reverseSlice' lo (lo+n)
 rule "list.sort.descending-run"
 n:=n+1
 let mut neq:=0
 for _ in [n:nrem] do
  let some smaller←ltAt' (lo+n) (lo+n-1)|return none
  if smaller then
   if neq>0 then reverseSlice' (lo+n-(neq+1)) (lo+n)
   neq:=0
  else
   let some larger←ltAt' (lo+n-1) (lo+n)|return none
   if larger then break
   neq:=neq+1
  n:=n+1
 if neq>0 then reverseSlice' (lo+n-(neq+1)) (lo+n)
 reverseSlice' lo (lo+n)
 for _ in [n:nrem] do
  let some smaller←ltAt' (lo+n) (lo+n-1)|return none
  if smaller then break
  n:=n+1
 return some n):=rfl
noncomputable def ascL(lo a nrem:Nat):StateT SortSt Sem (Option (Option Nat)×Nat):=
 forIn [a:nrem] ((none,a):Option (Option Nat)×Nat) fun q_ __s=>do
  let __x←ltAt' (lo+__s.snd) (lo+__s.snd-1)
  match __x with
  |some smaller=>if smaller=true then pure (ForInStep.done (none,__s.snd))else pure (ForInStep.yield (none,__s.snd+1))
  |x=>pure (ForInStep.done (some none,__s.snd))
structure SV(a₀:Array Keyed)(κ:SortKind)(k:Keyed→Int)(st:SortSt):Prop where
 perm:(arrOf st).Perm a₀
 kind:kindOf st=κ
 failed:failedOf st=none
 nd:(a₀.toList.map k).Nodup
noncomputable def Ch(K:Nat→Int)(lo n:Nat):Prop:=∀i j,lo≤i→i≤j→j<lo+n→K i≤K j
theorem Ch.one{K:Nat→Int}{lo:Nat}:Ch K lo 1:=fun i j a b c=>Int.le_of_eq (congrArg K (Nat.le_antisymm b (Nat.le_trans (Nat.le_of_lt_succ c) a)))
theorem Ch.snoc{K:Nat→Int}{lo x:Nat}(h:Ch K lo x)(hx:1≤x)(e:K (lo+x-1)≤K (lo+x)):Ch K lo (x+1):=fun i j a b c=>by
 by_cases q:j<lo+x
 ·exact h i j a b q
 ·rw[Nat.le_antisymm (Nat.le_of_lt_succ c) (Nat.le_of_not_lt q)]at b⊢
  rcases Nat.lt_or_eq_of_le b with b|b
  ·exact Int.le_trans (h i _ a (Nat.le_sub_one_of_lt b) (Nat.sub_lt (Nat.lt_of_lt_of_le hx (Nat.le_add_left x lo)) Nat.one_pos)) e
  ·rw[b];exact Int.le_refl _
theorem Ch.step{K:Nat→Int}{lo n:Nat}(h:∀i,lo≤i→i+1<lo+n→K i≤K (i+1)):Ch K lo n:=fun i j a b c=>by
 induction j with
 |zero=>rw[Nat.le_zero.mp b];exact Int.le_refl _
 |succ j ih=>
  rcases Nat.lt_or_eq_of_le b with b|b
  ·exact Int.le_trans (ih (Nat.le_of_lt_succ b) (Nat.lt_of_succ_lt c)) (h j (Nat.le_trans a (Nat.le_of_lt_succ b)) c)
  ·rw[b];exact Int.le_refl _
noncomputable def SR(k:Keyed→Int)(a:Array Keyed)(lo n:Nat):Prop:=Ch (fun i=>k (el a i)) lo n
section
variable{prog:Program}{w:World}{A:Around}{E:Value→Shared→Prop}{s:Shared}{κ:SortKind}{k:Keyed→Int}{a₀:Array Keyed}{st:SortSt}
theorem SV.size(V:SV a₀ κ k st):(arrOf st).size=a₀.size:=V.perm.size_eq
theorem ZaQ{a:Array Keyed}{i:Nat}(h:i<a.size):el a i∈a.toList:=by
 unfold el;rw[getElem?_pos a i h];simp
theorem SV.all(V:SV a₀ κ k st):All (·∈a₀.toList) (arrOf st):=fun i hi=>(Array.perm_iff_toList_perm.mp V.perm).mem_iff.mp (ZaQ hi)
theorem SV.inj(V:SV a₀ κ k st){i j:Nat}(hi:i<a₀.size)(hj:j<a₀.size)(e:k (el (arrOf st) i)=k (el (arrOf st) j)):i=j:=by
 have nd:((arrOf st).toList.map k).Nodup:=(((Array.perm_iff_toList_perm.mp V.perm).map k).nodup_iff).mpr V.nd
 rw[←V.size]at hi hj
 unfold el at e
 rw[getElem?_pos _ i hi,getElem?_pos _ j hj]at e
 refine(List.getElem_inj (h₀:=?_) (h₁:=?_) nd).mp ?_
 ·simpa using hi
 ·simpa using hj
 ·simpa using e
theorem SV.setArr(V:SV a₀ κ k st){xs:Array Keyed}(h:xs.Perm (arrOf st)):SV a₀ κ k (setArr st xs):=⟨h.trans V.perm,V.kind,V.failed,V.nd⟩
theorem U0(C:Cmp prog w A E s κ k (·∈a₀.toList))(V:SV a₀ κ k st){i j:Nat}{Q:Option Bool→SortSt→Prop}(hi:i<a₀.size)(hj:j<a₀.size)(h:Q (some (decide (k (el (arrOf st) i)<k (el (arrOf st) j)))) st):wpS (model prog w) A E s (ltAt' i j) Q st:=by
 rw[ltAt'_eq]
 refine wpS_bind (wpS_get ?_)
 rw[←V.size]at hi hj
 exact wpS_bind (ZK hi (wpS_bind (ZK hj (C.lt V.kind (V.all i hi) (V.all j hj) h))))
theorem NM{β:Type}{a b:Nat}{f:Nat→β→StateT SortSt Sem (ForInStep β)}(γ:Nat→β)(I P:Nat→Prop){Q:β→SortSt→Prop}(hab:a≤b)
  (step:∀x,a≤x→x<b→I x→wpS (model prog w) A E s (f x (γ x)) (fun r st'=>st'=st∧match r with| .done c'=>c'=γ x∧P x| .yield c'=>c'=γ (x+1)∧I (x+1)) st)
  (fin:I b→P b) (h:I a) (hQ:∀m,a≤m→m≤b→P m→Q (γ m) st):wpS (model prog w) A E s (forIn [a:b] (γ a) f) Q st:=by
 refine wpS_forRange (I:=fun x c st'=>st'=st∧c=γ x∧I x) (fun x c st' h1 h2 J=>?_) (fun c st' J=>?_) ⟨rfl,rfl,h⟩
 ·rw[J.1,J.2.1]
  refine wpS_mono (step x h1 h2 J.2.2) fun r st' h=>?_
  rw[h.1]
  cases r with
  |done c'=>exact h.2.1.symm▸hQ x h1 (Nat.le_of_lt h2) h.2.2
  |yield c'=>exact⟨rfl,h.2⟩
 ·rw[Nat.max_eq_right hab]at J
  rw[J.1,J.2.1]
  exact hQ b hab (Nat.le_refl b) (fin J.2.2)
theorem NP(C:Cmp prog w A E s κ k (·∈a₀.toList))(V:SV a₀ κ k st){lo a nrem:Nat}{Q:Option (Option Nat)×Nat→SortSt→Prop}(hn:lo+nrem≤a₀.size)(h1:1≤a)(h2:a≤nrem)(hs:SR k (arrOf st) lo a)
  (h:∀n,a≤n→n≤nrem→SR k (arrOf st) lo n→(n=nrem∨k (el (arrOf st) (lo+n))<k (el (arrOf st) (lo+n-1)))→Q (none,n) st):wpS (model prog w) A E s (ascL lo a nrem) Q st:=by
 refine NM (fun x=>(none,x)) (SR k (arrOf st) lo) (fun n=>SR k (arrOf st) lo n∧(n=nrem∨k (el (arrOf st) (lo+n))<k (el (arrOf st) (lo+n-1)))) h2 (fun x hax hxn hs'=>?_) (fun h=>⟨h,.inl rfl⟩) hs fun m m1 m2 m3=>h m m1 m2 m3.1 m3.2
 have hx:=Nat.lt_of_lt_of_le (Nat.add_lt_add_left hxn lo) hn
 exact wpS_bind (U0 C V hx (Nat.lt_of_le_of_lt (Nat.sub_le _ _) hx) (Uj (fun hl=>wpS_pure ⟨rfl,rfl,hs',.inr hl⟩) fun hl=>wpS_pure ⟨rfl,rfl,Ch.snoc hs' (Nat.le_trans h1 hax) (Int.not_lt.mp hl)⟩))
theorem XX{xs:Array Keyed}{i j:Nat}(hj:j≤xs.size)(l:Nat):el (mirror xs i j ((j-i)/2)) l=if i≤l∧l<j then el xs (i+j-1-l)else el xs l:=by
 unfold el
 rw[getElem?_mirror_all hj]
 split<;>rfl
theorem Zej{lo m i j:Nat}(hm:1≤m)(a:lo≤i)(b:i≤j)(c:j<lo+m):lo≤lo+(lo+m)-1-j∧lo+(lo+m)-1-j≤lo+(lo+m)-1-i∧lo+(lo+m)-1-i<lo+m:=by
 cases m with
 |zero=>exact absurd hm (Nat.not_succ_le_zero _)
 |succ m=>exact⟨Nat.le_sub_of_add_le (Nat.add_le_add_left (Nat.le_of_lt_succ c) lo),Nat.sub_le_sub_left b _,Nat.lt_succ_of_le (Nat.le_trans (Nat.sub_le_sub_left a _) (Nat.le_of_eq (Nat.add_sub_cancel_left lo (lo+m))))⟩
theorem O1(C:Cmp prog w A E s κ k (·∈a₀.toList))(V:SV a₀ κ k st){lo nrem:Nat}{Q:Option Nat→SortSt→Prop}(h1:1≤nrem)(hn:lo+nrem≤a₀.size)
  (h:∀m st',SV a₀ κ k st'→pendingOf st'=pendingOf st→1≤m→m≤nrem→SR k (arrOf st') lo m→(∀i,i<lo→el (arrOf st') i=el (arrOf st) i)→Q (some m) st'):wpS (model prog w) A E s (countRun' lo nrem) Q st:=by
 rw[ZaT]
 have at_:∀{x},x<nrem→lo+x<a₀.size:=fun hx=>Nat.lt_of_lt_of_le (Nat.add_lt_add_left hx lo) hn
 refine wpS_bind (NP C V hn (Nat.le_refl 1) h1 Ch.one fun n hn1 hn2 hs hor=>ZX (fun q1=>wpS_pure (h n st V rfl hn1 hn2 hs fun q_ q_=>rfl)) fun q1=>Yc (fun q2=>?_) fun q2=>?_)
 ·have hl:=at_ (Nat.lt_of_le_of_ne hn2 q1)
  have hl':=Nat.lt_of_le_of_lt (Nat.sub_le (lo+n) 1) hl
  have hlo:lo<lo+n-1:=Nat.lt_sub_of_add_lt (Nat.add_lt_add_left q2 lo)
  have h2:=Int.lt_iff_le_and_ne.mpr ⟨hs lo (lo+n-1) (Nat.le_refl _) (Nat.le_of_lt hlo) (Nat.sub_lt (Nat.lt_of_lt_of_le hn1 (Nat.le_add_left n lo)) Nat.one_pos),fun e=>Nat.ne_of_lt hlo (V.inj (Nat.lt_trans hlo hl') hl' e)⟩
  exact wpS_bind (U0 C V (Nat.lt_trans hlo hl') hl' (Uj (fun q_=>wpS_pure (h n st V rfl hn1 hn2 hs fun q_ q_=>rfl)) fun q=>absurd h2 q))
 ·have e:n=1:=Nat.le_antisymm (Nat.le_of_not_lt q2) hn1
  subst e
  have hlt:=hor.resolve_left q1
  have h1':1<nrem:=Nat.lt_of_le_of_ne h1 q1
  refine wpS_bind (wpS_lift (wpAny_rule ⟨rfl,wpS_bind (NM (fun x=>(none,x,0)) (Ch (fun i=> -k (el (arrOf st) i)) lo) (Ch (fun i=> -k (el (arrOf st) i)) lo) h1' (fun x hax hxn hd=>?_) id (Ch.one.snoc (Nat.le_refl 1) (Int.neg_le_neg (Int.le_of_lt hlt))) fun m hm1 hm2 hd=>?_)⟩))
  ·have hx:=at_ hxn
   have hx':=Nat.lt_of_le_of_lt (Nat.sub_le (lo+x) 1) hx
   have hx1:1≤x:=Nat.le_of_succ_le hax
   refine wpS_bind (U0 C V hx hx' (Uj (fun hl=>wpS_pure ⟨rfl,rfl,hd.snoc hx1 (Int.neg_le_neg (Int.le_of_lt hl))⟩) fun hl=>wpS_bind (U0 C V hx' hx (Uj (fun q_=>wpS_pure ⟨rfl,rfl,hd⟩) fun q=>absurd ?_ q))))
   exact Int.lt_iff_le_and_ne.mpr ⟨Int.not_lt.mp hl,fun e=>Nat.ne_of_lt (Nat.sub_lt (Nat.lt_of_lt_of_le hx1 (Nat.le_add_left x lo)) Nat.one_pos) (V.inj hx' hx e)⟩
  ·refine wpS_bind (wpS_reverse ?_)
   have hsz:lo+m≤(arrOf st).size:=by rw[V.size];exact Nat.le_trans (Nat.add_le_add_left hm2 lo) hn
   have V2:=V.setArr (mirror_perm (arrOf st) lo (lo+m) ((lo+m-lo)/2))
   refine wpS_bind (NP C V2 hn (Nat.le_of_succ_le hm1) hm2 (fun i j a b c=>?_) fun n hn1 hn2 hs hor=>wpS_pure (h n _ V2 rfl (Nat.le_trans (Nat.le_of_succ_le hm1) hn1) hn2 hs fun i hi=>(XX hsz i).trans (if_neg fun z=>Nat.not_le.mpr hi z.1)))
   show k (el (mirror _ _ _ _) i)≤k (el (mirror _ _ _ _) j)
   have r:=Zej (Nat.le_of_succ_le hm1) a b c
   rw[XX hsz,XX hsz,if_pos ⟨a,Nat.lt_of_le_of_lt b c⟩,if_pos ⟨Nat.le_trans a b,c⟩]
   exact Int.le_of_neg_le_neg (hd _ _ r.1 r.2.1 r.2.2)
theorem Bv{xs:Array Keyed}{src d:Nat}(hs:src<xs.size)(hd:d≤src)(l:Nat):el (bubble xs src d) l=if l=src-d then el xs src else if src-d<l∧l≤src then el xs (l-1)else el xs l:=by
 unfold el
 rw[getElem?_bubble hs d hd]
 split
 ·rfl
 ·split<;>rfl
theorem ZdS(lo n ok:Nat):binarySort' lo n ok=(do
 for k in [max ok 1:n] do
  let mut l:=0
  let mut r:=k
  for _ in [0:k] do
   if l≥r then break
   let m:=(l+r)/2
   let some less←ltAt' (lo+k) (lo+m)|return false
   if less then r:=m else l:=m+1
  moveDown' (lo+k) (lo+l)
 return true):=rfl
theorem Ze9{K B:Nat→Int}{lo t u n:Nat}(h:∀p,B p=if p=t then K u else if t<p∧p≤u then K (p-1)else K p)(hn:lo+n=u+1)(hlo:lo≤t)(htu:t≤u)(hs:∀i j,lo≤i→i≤j→j<u→K i≤K j)
  (lo1:∀i,lo≤i→i<t→K i≤K u) (hi1:∀i,t≤i→i<u→K u≤K i):Ch B lo n:=Ch.step fun i hi hj=>by
 rw[hn]at hj
 have hj:=Nat.lt_of_succ_lt_succ hj
 rcases Nat.lt_trichotomy i t with a|a|a
 ·rw[h i,if_neg (Nat.ne_of_lt a),if_neg fun z=>Nat.lt_asymm z.1 a,h (i+1)]
  by_cases e:i+1=t
  ·rw[if_pos e];exact lo1 i hi a
  ·rw[if_neg e,if_neg fun z=>Nat.not_le.mpr z.1 a];exact hs i _ hi (Nat.le_succ i) (Nat.lt_of_lt_of_le (Nat.lt_of_le_of_ne a e) htu)
 ·rw[h i,if_pos a,h (i+1),a,if_neg (Nat.succ_ne_self t),if_pos ⟨Nat.lt_succ_self t,a▸hj⟩]
  exact hi1 t (Nat.le_refl t) (a▸hj)
 ·rw[h i,if_neg (Nat.ne_of_gt a),if_pos ⟨a,Nat.le_of_lt hj⟩,h (i+1),if_neg (Nat.ne_of_gt (Nat.lt_succ_of_lt a)),if_pos ⟨Nat.lt_succ_of_lt a,hj⟩]
  exact hs _ i (Nat.le_trans hlo (Nat.le_sub_one_of_lt a)) (Nat.sub_le i 1) hj
theorem ZaI{x l lo:Nat}(h:l≤x):lo+x-(lo+x-(lo+l))=lo+l:=Nat.sub_sub_self (Nat.add_le_add_left h lo)
theorem Ze8{xs:Array Keyed}{lo x l:Nat}(hks:lo+x<xs.size)(hlx:l≤x)(hs:SR k xs lo x)(hlo:∀i,i<l→k (el xs (lo+i))≤k (el xs (lo+x)))(hhi:∀i,l≤i→i<x→k (el xs (lo+x))<k (el xs (lo+i))):
  SR k (bubble xs (lo+x) (lo+x-(lo+l))) lo (x+1):=
 Ze9 (K:=fun i=>k (el xs i)) (t:=lo+l) (u:=lo+x) (fun p=>by
  rw[Bv hks (Nat.sub_le _ _),ZaI hlx,apply_ite k,apply_ite k]) rfl (Nat.le_add_right lo l) (Nat.add_le_add_left hlx lo) hs
  (fun i h1 h2=>Nat.add_sub_cancel' h1▸hlo (i-lo) (Nat.sub_lt_left_of_lt_add h1 h2))
  fun i h1 h2=>by
   have h3:=Nat.le_trans (Nat.le_add_right lo l) h1
   exact Nat.add_sub_cancel' h3▸Int.le_of_lt (hhi (i-lo) (Nat.le_sub_of_add_le' h1) (Nat.sub_lt_left_of_lt_add h3 h2))
theorem ZaH{xs:Array Keyed}{lo x l i:Nat}(hks:lo+x<xs.size)(hlx:l≤x)(hi:i<lo):el (bubble xs (lo+x) (lo+x-(lo+l))) i=el xs i:=by
 have h:=Nat.lt_of_lt_of_le hi (Nat.le_add_right lo l)
 rw[Bv hks (Nat.sub_le _ _),ZaI hlx,if_neg (Nat.ne_of_lt h),if_neg fun z=>Nat.lt_asymm z.1 h]
theorem mid2{l r:Nat}(h:l<r):l≤(l+r)/2∧(l+r)/2<r:=
 ⟨(Nat.le_div_iff_mul_le Nat.two_pos).mpr (by rw[Nat.mul_two];exact Nat.add_le_add_left (Nat.le_of_lt h) l),Nat.div_lt_of_lt_mul (by rw[Nat.two_mul];exact Nat.add_lt_add_right h r)⟩
structure ZfU(K:Nat→Int)(x y:Nat)(c:Option Bool×Nat×Nat):Prop where
 e:c.1=none
 le:c.2.1≤c.2.2
 hn:c.2.2≤x
 m:c.2.2+y≤x+c.2.1
 lo:∀i,i<c.2.1→K i≤K x
 hi:∀i,c.2.2≤i→i<x→K x<K i
structure Zar(a₀:Array Keyed)(κ:SortKind)(k:Keyed→Int)(st:SortSt)(lo m:Nat)(st':SortSt):Prop where
 V:SV a₀ κ k st'
 p:pendingOf st'=pendingOf st
 s:SR k (arrOf st') lo m
 b:∀i,i<lo→el (arrOf st') i=el (arrOf st) i
theorem Zbu(C:Cmp prog w A E s κ k (·∈a₀.toList))(V:SV a₀ κ k st){lo n ok:Nat}{Q:Bool→SortSt→Prop}(hn:lo+n≤a₀.size)(hok:ok≤n)(hok1:1≤ok)(hs:SR k (arrOf st) lo ok)
  (h:∀st',SV a₀ κ k st'→pendingOf st'=pendingOf st→SR k (arrOf st') lo n→(∀i,i<lo→el (arrOf st') i=el (arrOf st) i)→Q true st'):wpS (model prog w) A E s (binarySort' lo n ok) Q st:=by
 rw[ZdS,Nat.max_eq_left hok1]
 refine wpS_bind (wpS_mono (wpS_forRange (I:=fun x c st'=>c=(none,())∧Zar a₀ κ k st lo x st') (Q:=fun c st'=>c=(none,())∧Zar a₀ κ k st lo n st') (fun x c st' hax hxn J=>?_) (fun c st' J=>Nat.max_eq_right hok▸J) ⟨rfl,V,rfl,hs,fun q_ q_=>rfl⟩) fun c st' J=>J.1.symm▸wpS_pure (h st' J.2.V J.2.p J.2.s J.2.b))
 have I:=J.2
 have hx:lo+x<a₀.size:=Nat.lt_of_lt_of_le (Nat.add_lt_add_left hxn lo) hn
 have fin:∀l,l≤x→(∀i,i<l→k (el (arrOf st') (lo+i))≤k (el (arrOf st') (lo+x)))→(∀i,l≤i→i<x→k (el (arrOf st') (lo+x))<k (el (arrOf st') (lo+i)))→
   wpS (model prog w) A E s (moveDown' (lo+x) (lo+l)>>=fun q_=>pure (ForInStep.yield ((none,()):Option Bool×Unit))) (fun r st'=>match r with| .done c'=>c'=(none,())∧Zar a₀ κ k st lo n st'| .yield c'=>c'=(none,())∧Zar a₀ κ k st lo (x+1) st') st':=fun l hlx hlo hhi=>by
  have hks:lo+x<(arrOf st').size:=I.V.size.symm▸hx
  rw[moveDown'_eq]
  exact wpS_bind (wpS_modify (wpS_pure ⟨rfl,I.V.setArr (bubble_perm _ _ _),I.p,Ze8 hks hlx I.s hlo hhi,fun i hi=>(ZaH hks hlx hi).trans (I.b i hi)⟩))
 have hle:∀(c:Option Bool×Nat×Nat) y,ZfU (fun i=>k (el (arrOf st') (lo+i))) x y c→c.2.2≤c.2.1→∀e:c.1=none,_:=fun c y J q e=>fin c.2.1 (Nat.le_trans J.le J.hn) J.lo fun i h1 h2=>J.hi i (Nat.le_trans q h1) h2
 refine wpS_bind (wpS_forRange (I:=fun y c s2=>s2=st'∧ZfU (fun i=>k (el (arrOf st') (lo+i))) x y c) (fun y c s2 q_ hxk J=>?_) (fun c s2 J=>?_)
  ⟨rfl,rfl,Nat.zero_le _,Nat.le_refl _,Nat.le_refl _,fun i hi=>absurd hi (Nat.not_lt_zero _),fun i h1 h2=>absurd h2 (Nat.not_lt.mpr h1)⟩)
 ·rw[J.1]
  have J:=J.2
  refine Yc (fun hge=>wpS_pure (hle (none,c.2) y ⟨rfl,J.le,J.hn,J.m,J.lo,J.hi⟩ hge rfl)) fun hge=>?_
  have hm:=mid2 (Nat.lt_of_not_le hge)
  revert hm
  generalize (c.2.1+c.2.2)/2=m
  intro hm
  have hmx:=Nat.lt_of_lt_of_le hm.2 J.hn
  refine wpS_bind (U0 C I.V hx (Nat.lt_trans (Nat.add_lt_add_left hmx lo) hx) (Uj (fun hless=>wpS_pure ⟨rfl,rfl,hm.1,Nat.le_of_lt hmx,?_,J.lo,fun i h1 h2=>?_⟩) fun hless=>wpS_pure ⟨rfl,rfl,hm.2,J.hn,?_,fun i h1=>?_,J.hi⟩))
  ·exact Nat.le_trans (Nat.le_of_eq (Nat.succ_add_eq_add_succ m y).symm) (Nat.le_trans (Nat.add_le_add_right hm.2 y) J.m)
  ·exact Int.lt_of_lt_of_le hless (I.s _ _ (Nat.le_add_right _ _) (Nat.add_le_add_left h1 lo) (Nat.add_lt_add_left h2 lo))
  ·exact Nat.succ_le_succ (Nat.le_trans J.m (Nat.add_le_add_left hm.1 x))
  ·exact Int.le_trans (I.s _ _ (Nat.le_add_right _ _) (Nat.add_le_add_left (Nat.le_of_lt_succ h1) lo) (Nat.add_lt_add_left hmx lo)) (Int.not_lt.mp hless)
 ·rw[J.1]
  have e:c=(none,c.2):=Prod.ext J.2.e rfl
  rw[e]
  exact hle (none,c.2) _ ⟨rfl,J.2.le,J.2.hn,J.2.m,J.2.lo,J.2.hi⟩ (Nat.le_of_add_le_add_right (Nat.le_trans J.2.m (Nat.le_trans (Nat.add_le_add_right (Nat.le_max_right 0 x) _) (Nat.le_of_eq (Nat.add_comm _ _))))) rfl
end
end
section
theorem ZaC(i:Nat):mergeAt' i=(do
 let s←get
 let(some (sa,na,power),some (sb,nb,_)):=((pendingOf s)[i]?,(pendingOf s)[i+1]?)|unsupported "internal:list.sort.pending"
 set (setPending s (((pendingOf s).setIfInBounds i (sa,na+nb,power)).eraseIdxIfInBounds (i+1)))
 let some k←gallop' false (←elem' (arrOf s) sb) (arrOf s) sa na 0|return false
 let(sa,na):=(sa+k,na-k)
 if na==0 then return true
 let some nb←gallop' true (←elem' (arrOf s) (sa+na-1)) (arrOf s) sb nb (nb-1)|return false
 if nb==0 then return true
 let x:=(arrOf s).extract sa sb
 let y:=(arrOf s).extract sb (sb+nb)
 let merged←if na≤nb then Gn x y else Go x y
 modify fun s=>setArr s (merged.toList.zipIdx.foldl (fun a (p,j)=>a.setIfInBounds (sa+j) p) (arrOf s))
 return (failedOf (←get)).isNone):=rfl
noncomputable def wr(b:Nat)(l:List (Keyed×Nat))(a:Array Keyed):Array Keyed:=l.foldl (fun a (p,j)=>a.setIfInBounds (b+j) p) a
theorem Zdi(b:Nat):∀(l:List Keyed) (n:Nat) (a:Array Keyed),b+n+l.length≤a.size→(wr b (l.zipIdx n) a).toList=a.toList.take (b+n)++l++a.toList.drop (b+n+l.length):=by
 intro l
 induction l with
 |nil=>intro n a h;rw[List.append_nil];exact(List.take_append_drop _ _).symm
 |cons p l ih=>
  intro n a h
  have hb:b+n<a.toList.length:=Array.length_toList (xs:=a)▸Nat.lt_of_lt_of_le (Nat.lt_add_of_pos_right (Nat.succ_pos _)) h
  have e:wr b ((p::l).zipIdx n) a=wr b (l.zipIdx (n+1)) (a.setIfInBounds (b+n) p):=rfl
  have e2:b+(n+1)+l.length=b+n+(p::l).length:=by rw[List.length_cons,←Nat.add_assoc,Nat.succ_add];rfl
  have h1:(a.toList.set (b+n) p).take (b+n+1)=a.toList.take (b+n)++[p]:=by
   rw[List.take_add_one,List.take_set,List.set_eq_of_length_le (by rw[List.length_take];exact Nat.min_le_left _ _),List.getElem?_set_self hb]
   rfl
  rw[e,ih (n+1) _ (by rw[Array.size_setIfInBounds,e2];exact h),Array.toList_setIfInBounds,e2]
  refine congr (congrArg _ ?_) ?_
  ·rw[←Nat.add_assoc,h1,List.append_assoc,List.singleton_append]
  ·have hl:b+n<b+n+(p::l).length:=Nat.lt_add_of_pos_right (Nat.succ_pos _)
   rw[List.drop_set,if_pos hl]
theorem UO{a:Array Keyed}{b c i:Nat}(h:b+i<c)(hc:c≤a.size):el (a.extract b c) i=el a (b+i):=by
 unfold el
 rw[Array.getElem?_extract,Nat.min_eq_left hc,if_pos (Nat.lt_sub_iff_add_lt'.mpr h)]
theorem Gw{a:Array Keyed}{b c:Nat}(h:b≤c)(hc:c≤a.size):b+(a.extract b c).size=c:=by
 rw[Array.size_extract,Nat.min_eq_left hc,Nat.add_sub_of_le h]
theorem Dj{k:Keyed→Int}{a:Array Keyed}{b c lo n:Nat}(hs:SR k a lo n)(h1:lo≤b)(h0:b≤c)(h2:c≤lo+n)(h3:c≤a.size):(a.extract b c).toList.Pairwise (kle k):=
 List.pairwise_iff_getElem.mpr fun i j hi hj hij=>by
  have e:=Gw h0 h3
  rw[Array.length_toList]at hi hj
  have hj:=Nat.lt_of_lt_of_eq (Nat.add_lt_add_left hj b) e
  have hi:=Nat.lt_of_lt_of_eq (Nat.add_lt_add_left hi b) e
  rw[Q0,Q0,UO hi h3,UO hj h3]
  exact hs _ _ (Nat.le_trans h1 (Nat.le_add_right b i)) (Nat.add_le_add_left (Nat.le_of_lt hij) b) (Nat.lt_of_lt_of_le hj h2)
section
variable{a r:Array Keyed}{t v:Nat}(hr:t+r.size=v)(hv:v≤a.size)
include hr hv
theorem GG:(wr t r.toList.zipIdx a).toList=a.toList.take t++(r.toList++a.toList.drop v):=by
 have h:=Zdi t r.toList 0 a (by rw[Array.length_toList];exact hr.symm▸hv)
 rw[Array.length_toList,Nat.add_zero,hr,List.append_assoc]at h
 exact h
theorem X5:(a.toList.take t).length=t:=by
 rw[List.length_take,Array.length_toList];exact Nat.min_eq_left (Nat.le_trans (hr▸Nat.le_add_right _ _) hv)
theorem wr1{j:Nat}(hj:j<t):el (wr t r.toList.zipIdx a) j=el a j:=by
 rw[Qg,Qg,GG hr hv,List.getElem?_append_left (by rw[X5 hr hv];exact hj),List.getElem?_take_of_lt hj]
theorem wr2{j:Nat}(hj:t+j<v):el (wr t r.toList.zipIdx a) (t+j)=el r j:=by
 have hj:j<r.toList.length:=Array.length_toList (xs:=r)▸Nat.lt_of_add_lt_add_left (hr.symm▸hj)
 rw[Qg,Qg,GG hr hv,List.getElem?_append_right (by rw[X5 hr hv];exact Nat.le_add_right _ _),X5 hr hv,Nat.add_sub_cancel_left,List.getElem?_append_left hj]
theorem wr3{j:Nat}(hj:v≤j):el (wr t r.toList.zipIdx a) j=el a j:=by
 have ht:t≤j:=Nat.le_trans (hr▸Nat.le_add_right _ _) hj
 have hl:r.toList.length≤j-t:=by rw[Array.length_toList];exact Nat.le_sub_of_add_le' (hr.symm▸hj)
 rw[Qg,Qg,GG hr hv,List.getElem?_append_right (by rw[X5 hr hv];exact ht),X5 hr hv,List.getElem?_append_right hl,List.getElem?_drop,Array.length_toList,Nat.sub_sub,hr,Nat.add_sub_of_le hj]
theorem Zdh{u:Nat}(hu:t≤u)(huv:u≤v)(h:r.toList.Perm ((a.extract t u).toList++(a.extract u v).toList)):(wr t r.toList.zipIdx a).Perm a:=by
 have c1:=Gy a t (u-t)
 have c2:=Gy a u (v-u)
 rw[Nat.add_sub_of_le hu]at c1
 rw[Nat.add_sub_of_le huv]at c2
 rw[Array.perm_iff_toList_perm,GG hr hv]
 refine((h.append_right _).append_left _).trans (List.Perm.of_eq ?_)
 rw[List.append_assoc,←c2,←c1,List.take_append_drop]
end
theorem Zez{K B R:Nat→Int}{sa t u v n:Nat}(h2:t<u)(h3:u≤v)(w1:∀j,j<t→B j=K j)(w2:∀j,t+j<v→B (t+j)=R j)(w3:∀j,v≤j→B j=K j)
  (ra:∀i j,sa≤i→i≤j→j<u→K i≤K j) (rb:∀i j,u≤i→i≤j→j<sa+n→K i≤K j) (hm1:∀i,sa≤i→i<t→K i≤K u) (hn2:∀j,v≤j→j<sa+n→K (u-1)≤K j)
  (rz:∀j,t+j<v→K u≤R j∧R j≤K (u-1)) (hr:∀j,t+(j+1)<v→R j≤R (j+1)):Ch B sa n:=Ch.step fun i hi hj=>by
 have htv:=Nat.lt_of_lt_of_le h2 h3
 rcases Nat.lt_or_ge i t with a|a
 ·rw[w1 i a]
  rcases Nat.lt_or_eq_of_le (Nat.succ_le_of_lt a)with b|b
  ·rw[w1 _ b];exact ra i _ hi (Nat.le_succ i) (Nat.lt_trans b h2)
  ·have e:=w2 0 htv
   have b:i+1=t:=b
   rw[b]
   exact Int.le_trans (hm1 i hi a) (e.symm▸(rz 0 htv).1)
 ·rcases Nat.lt_or_ge i v with c|c
  ·obtain⟨j,rfl⟩:=Nat.exists_eq_add_of_le a
   rw[w2 j c]
   rcases Nat.lt_or_ge (t+j+1) v with d|d
   ·exact w2 (j+1) d▸hr j d
   ·rw[w3 _ d];exact Int.le_trans (rz j c).2 (hn2 _ d hj)
  ·rw[w3 i c,w3 _ (Nat.le_succ_of_le c)];exact rb i _ (Nat.le_trans h3 c) (Nat.le_succ i) hj
section
variable{prog:Program}{w:World}{A:Around}{E:Value→Shared→Prop}{s:Shared}{κ:SortKind}{k:Keyed→Int}{a₀:Array Keyed}{st:SortSt}
theorem Zdj{σ:Type}{M:Model}{x:σ}{Q:PUnit→σ→Prop}{st:σ}(h:Q ⟨⟩ x):wpS M A E s (set x:StateT σ Sem PUnit) Q st:=by
 unfold wpS;rw[StateT.run_set];exact wpAny_pure ⟨rfl,h⟩
theorem SV.setP(V:SV a₀ κ k st)(P:Array (Nat×Nat×Nat)):SV a₀ κ k (setPending st P):=⟨V.perm,V.kind,V.failed,V.nd⟩
theorem O0(C:Cmp prog w A E s κ k (·∈a₀.toList))(V:SV a₀ κ k st){i sa na sb nb p p':Nat}{Q:Bool→SortSt→Prop}(e1:(pendingOf st)[i]? =some (sa,na,p))(e2:(pendingOf st)[i+1]? =some (sb,nb,p'))(hsb:sb=sa+na)(na1:1≤na)(nb1:1≤nb)(hz:sb+nb≤a₀.size)
  (ra:SR k (arrOf st) sa na) (rb:SR k (arrOf st) sb nb)
  (h:∀st',SV a₀ κ k st'→pendingOf st'=((pendingOf st).setIfInBounds i (sa,na+nb,p)).eraseIdxIfInBounds (i+1)→SR k (arrOf st') sa (na+nb)→(∀j,j<sa∨sb+nb≤j→el (arrOf st') j=el (arrOf st) j)→Q true st'):wpS (model prog w) A E s (mergeAt' i) Q st:=by
 rw[ZaC]
 refine wpS_bind (wpS_get ?_)
 rw[e1,e2]
 refine wpS_bind (Zdj ?_)
 have V1:=V.setP (((pendingOf st).setIfInBounds i (sa,na+nb,p)).eraseIdxIfInBounds (i+1))
 revert V1 h
 generalize ((pendingOf st).setIfInBounds i (sa,na+nb,p)).eraseIdxIfInBounds (i+1)=P
 intro h V1
 have hz:sb+nb≤(arrOf st).size:=V.size.symm▸hz
 have hu:sb<(arrOf st).size:=Nat.lt_of_lt_of_le (Nat.lt_add_of_pos_right nb1) hz
 have hu1:=Nat.lt_of_le_of_lt (Nat.sub_le sb 1) hu
 have he:sa+(na+nb)=sb+nb:=by rw[hsb,Nat.add_assoc]
 have ra':∀i j,sa≤i→i≤j→j<sb→k (el (arrOf st) i)≤k (el (arrOf st) j):=fun i j h1 h2 h3=>ra i j h1 h2 (hsb▸h3)
 have rb':∀i j,sb≤i→i≤j→j<sa+(na+nb)→k (el (arrOf st) i)≤k (el (arrOf st) j):=fun i j h1 h2 h3=>rb i j h1 h2 (he▸h3)
 refine wpS_bind (ZK hu (wpS_bind (Qj C V.kind (V.all _ hu) V.all (hsb▸Nat.le_of_lt hu) na1 (fun i=> !decide (k (el (arrOf st) sb)<k (el (arrOf st) (sa+i)))) (fun i=>rfl)
  (fun i j h1 h2 h3=>bnt.mpr (Int.le_trans (ra _ _ (Nat.le_add_right sa i) (Nat.add_le_add_left h1 sa) (Nat.add_lt_add_left h2 sa)) (bnt.mp h3))) fun m hm hm1 hm2=>ZX (fun q1=>?_) fun q1=>?_)))
 ·have hm1':∀i,sa≤i→i<sa+m→k (el (arrOf st) i)≤k (el (arrOf st) sb):=fun i h1 h2=>Nat.add_sub_cancel' h1▸bnt.mp (hm1 (i-sa) (Nat.sub_lt_left_of_lt_add h1 h2))
  have em:sa+m=sb:=by rw[hsb,Nat.le_antisymm hm (Nat.le_of_sub_eq_zero q1)]
  refine wpS_pure (h _ V1 rfl (Ch.step fun i hi hj=>?_) fun q_ q_=>rfl)
  rcases Nat.lt_or_ge i sb with z|z
  ·rcases Nat.lt_or_eq_of_le (Nat.succ_le_of_lt z)with y|y
   ·exact ra' i _ hi (Nat.le_succ i) y
   ·have y:i+1=sb:=y
    rw[y]
    exact hm1' i hi (em.symm▸z)
  ·exact rb' i _ z (Nat.le_succ i) hj
 have hmn:m<na:=Nat.lt_of_le_of_ne hm fun e=>q1 (Nat.sub_eq_zero_of_le (Nat.le_of_eq e.symm))
 have ht:sa+m<sb:=hsb▸Nat.add_lt_add_left hmn sa
 have hm1':∀i,sa≤i→i<sa+m→k (el (arrOf st) i)≤k (el (arrOf st) sb):=fun i h1 h2=>Nat.add_sub_cancel' h1▸bnt.mp (hm1 (i-sa) (Nat.sub_lt_left_of_lt_add h1 h2))
 have hm3:=bnf.mp (hm2 m (Nat.le_refl m) hmn)
 have e3:sa+m+(na-m)-1=sb-1:=congrArg (· -1) (by rw[Nat.add_assoc,Nat.add_sub_of_le hm,hsb])
 have hsa:sa≤sa+m:=Nat.le_add_right sa m
 have hb1:0<sb:=Nat.lt_of_le_of_lt (Nat.zero_le _) ht
 have hb2:sb-1<sb:=Nat.sub_lt hb1 Nat.one_pos
 show wpS (model prog w) A E s (elem' _ (sa+m+(na-m)-1)>>=_) _ _
 rw[e3]
 refine wpS_bind (ZK hu1 (wpS_bind (Qj C V.kind (V.all _ hu1) V.all hz (Nat.sub_lt nb1 Nat.one_pos) (fun i=>decide (k (el (arrOf st) (sb+i))<k (el (arrOf st) (sb-1)))) (fun i=>rfl)
  (fun i j h1 h2 h3=>decide_eq_true (Int.lt_of_le_of_lt (rb _ _ (Nat.le_add_right sb i) (Nat.add_le_add_left h1 sb) (Nat.add_lt_add_left h2 sb)) (of_decide_eq_true h3))) fun n hn hn1 hn2=>ZX (fun q2=>?_) fun q2=>?_)))
 ·have h1:=bdf.mp (hn2 0 (Nat.le_of_eq q2) nb1)
  exact absurd (Int.lt_of_lt_of_le hm3 (Int.le_trans (ra' _ _ hsa (Nat.le_sub_one_of_lt ht) hb2) h1)) (Int.lt_irrefl _)
 have hn0:0<n:=Nat.pos_of_ne_zero q2
 have huv:sb<sb+n:=Nat.lt_add_of_pos_right hn0
 have hve:sb+n≤sb+nb:=Nat.add_le_add_left hn sb
 have hv:=Nat.le_trans hve hz
 have sx:=Gw (Nat.le_of_lt ht) (Nat.le_of_lt hu)
 have sy:=Gw (Nat.le_of_lt huv) hv
 have ex:∀i,sa+m+i<sb→el ((arrOf st).extract (sa+m) sb) i=el (arrOf st) (sa+m+i):=fun i hi=>UO hi (Nat.le_of_lt hu)
 have ey:∀i,sb+i<sb+n→el ((arrOf st).extract sb (sb+n)) i=el (arrOf st) (sb+i):=fun i hi=>UO hi hv
 have ax:All (·∈a₀.toList) ((arrOf st).extract (sa+m) sb):=fun i hi=>by
  have h:=Nat.lt_of_lt_of_eq (Nat.add_lt_add_left hi (sa+m)) sx
  rw[ex i h];exact V.all _ (Nat.lt_trans h hu)
 have ay:All (·∈a₀.toList) ((arrOf st).extract sb (sb+n)):=fun i hi=>by
  have h:=Nat.lt_of_lt_of_eq (Nat.add_lt_add_left hi sb) sy
  rw[ey i h];exact V.all _ (Nat.lt_of_lt_of_le h hv)
 have px:((arrOf st).extract (sa+m) sb).toList.Pairwise (kle k):=Dj ra hsa (Nat.le_of_lt ht) (Nat.le_of_eq hsb) (Nat.le_of_lt hu)
 have py:((arrOf st).extract sb (sb+n)).toList.Pairwise (kle k):=Dj rb (Nat.le_refl _) (Nat.le_of_lt huv) hve hv
 have px0:0<((arrOf st).extract (sa+m) sb).size:=Nat.lt_of_add_lt_add_left (n:=sa+m) (sx.symm▸ht)
 have py0:0<((arrOf st).extract sb (sb+n)).size:=Nat.lt_of_add_lt_add_left (n:=sb) (sy.symm▸huv)
 have h00:k (el ((arrOf st).extract sb (sb+n)) 0)≤k (el ((arrOf st).extract (sa+m) sb) 0):=by rw[ex 0 ht,ey 0 huv];exact Int.le_of_lt hm3
 have hll:∀j,j<((arrOf st).extract sb (sb+n)).size→k (el ((arrOf st).extract sb (sb+n)) j)≤k (el ((arrOf st).extract (sa+m) sb) (((arrOf st).extract (sa+m) sb).size-1)):=fun j hj=>by
  have e:sa+m+(((arrOf st).extract (sa+m) sb).size-1)=sb-1:=(Nat.add_sub_assoc px0 _).symm.trans (congrArg (· -1) sx)
  have h:=Nat.lt_of_lt_of_eq (Nat.add_lt_add_left hj sb) sy
  rw[ex _ (e.symm▸hb2),ey j h,e]
  exact Int.le_of_lt (of_decide_eq_true (hn1 j (Nat.lt_of_add_lt_add_left h)))
 have fin:∀(r:Array Keyed) (g:Nat),YI k (((arrOf st).extract (sa+m) sb).toList++((arrOf st).extract sb (sb+n)).toList) r→wpS (model prog w) A E s (do
   modify fun s=>setArr s (r.toList.zipIdx.foldl (fun a (p,j)=>a.setIfInBounds (sa+m+j) p) (arrOf s))
   return (failedOf (←get)).isNone) Q (Yy (setPending st P) g):=by
  intro r g hr
  have sr:sa+m+r.size=sb+n:=by
   have e:=hr.1.length_eq
   rw[List.length_append,Array.length_toList,Array.length_toList,Array.length_toList]at e
   rw[e,←Nat.add_assoc,sx,sy]
  refine wpS_bind (wpS_modify (wpS_bind (wpS_get ?_)))
  rw[show failedOf (setArr (Yy (setPending st P) g) _)=none from V.failed]
  refine wpS_pure (h _ (V.setArr (Zdh sr hv (Nat.le_of_lt ht) (Nat.le_of_lt huv) hr.1)|>.setP P|>fun V=>⟨V.perm,V.kind,V.failed,V.nd⟩) rfl
   (Zez (K:=fun i=>k (el (arrOf st) i)) (R:=fun i=>k (el r i)) ht (Nat.le_of_lt huv) (fun j hj=>congrArg k (wr1 sr hv hj)) (fun j hj=>congrArg k (wr2 sr hv hj)) (fun j hj=>congrArg k (wr3 sr hv hj)) ra' rb' hm1' (fun j h1 h2=>?_) (fun j hj=>?_)
    fun j hj=>V8 hr.2 (Nat.le_succ j) (Nat.lt_of_add_lt_add_left (sr.symm▸hj))) fun j hj=>hj.elim (fun hj=>wr1 sr hv (Nat.lt_of_lt_of_le hj hsa)) fun hj=>wr3 sr hv (Nat.le_trans hve hj))
  ·have h0:=Nat.le_trans (Nat.le_add_right sb n) h1
   exact Nat.add_sub_cancel' h0▸bdf.mp (hn2 (j-sb) (Nat.le_sub_of_add_le' h1) (Nat.sub_lt_left_of_lt_add h0 (he▸h2)))
  ·rcases List.mem_append.mp (hr.1.mem_iff.mp (ZaQ (Nat.lt_of_add_lt_add_left (sr.symm▸hj))))with m1|m1
   ·refine(Kj m1).elim fun l e=>?_
    have hl:sa+m+l<sb:=Nat.add_lt_of_lt_sub' e.1
    rw[e.2.2]
    refine⟨Int.le_of_lt ?_,ra' _ _ (Nat.le_trans hsa (Nat.le_add_right _ l)) (Nat.le_sub_one_of_lt hl) hb2⟩
    exact Nat.add_assoc sa m l▸bnf.mp (hm2 (m+l) (Nat.le_add_right m l) (Nat.lt_of_add_lt_add_left (n:=sa) (Nat.add_assoc sa m l▸hsb▸hl)))
   ·refine(Kj m1).elim fun l e=>?_
    have hl:l<n:=Nat.add_sub_cancel_left (n:=sb) (m:=n)▸e.1
    rw[e.2.2]
    exact⟨rb _ _ (Nat.le_refl _) (Nat.le_add_right sb l) (Nat.add_lt_add_left (Nat.lt_of_lt_of_le hl hn) sb),Int.le_of_lt (of_decide_eq_true (hn1 l hl))⟩
 exact Yc (fun q3=>wpS_bind (Nj C V1.kind ax ay px py px0 py0 h00 hll fin)) fun q3=>wpS_bind (Nk C V1.kind ax ay px py px0 py0 h00 (hll _ (Nat.sub_lt py0 Nat.one_pos)) fin)
end
end
section
noncomputable abbrev Run:=Nat×Nat×Nat
noncomputable def Cont:List Run→Nat→Nat→Prop
 | [],a,b=>a=b
 |x::r,a,b=>x.1=a∧1≤x.2.1∧Cont r (a+x.2.1) b
theorem Cont.app{m:List Run}{b:Nat}:∀{l:List Run} {a:Nat},Cont (l++m) a b→∃c,Cont l a c∧Cont m c b:=by
 intro l
 induction l with
 |nil=>exact fun h=>⟨_,rfl,h⟩
 |cons x l ih=>exact fun h=>(ih h.2.2).imp fun c e=>⟨⟨h.1,h.2.1,e.1⟩,e.2⟩
theorem Cont.join{m:List Run}{b c:Nat}(h':Cont m b c):∀{l:List Run} {a:Nat},Cont l a b→Cont (l++m) a c:=by
 intro l
 induction l with
 |nil=>exact fun h=>(show _=b from h)▸h'
 |cons x l ih=>exact fun h=>⟨h.1,h.2.1,ih h.2.2⟩
theorem Cont.le{b:Nat}:∀{l:List Run} {a:Nat},Cont l a b→a+l.length≤b:=by
 intro l
 induction l with
 |nil=>exact fun h=>Nat.le_of_eq h
 |cons x l ih=>exact fun {a} h=>Nat.le_trans (Nat.le_trans (Nat.le_of_eq (Nat.add_right_comm a l.length 1)) (Nat.add_le_add_right (Nat.add_le_add_left h.2.1 a) l.length)) (ih h.2.2)
theorem Cont.mem{b:Nat}{x:Run}:∀{l:List Run} {a:Nat},Cont l a b→x∈l→a≤x.1∧x.1+x.2.1≤b:=by
 intro l
 induction l with
 |nil=>exact fun q_ hx=>nomatch hx
 |cons y l ih=>exact fun {a} h hx=>(List.mem_cons.mp hx).elim (fun e=>e▸⟨Nat.le_of_eq h.1.symm,h.1.symm▸Nat.le_trans (Nat.le_add_right _ _) h.2.2.le⟩) fun hx=>⟨Nat.le_trans (Nat.le_add_right _ _) (ih h.2.2 hx).1,(ih h.2.2 hx).2⟩
theorem ZbB(R1 R2:List Run)(x y z:Run):((R1++x::y::R2).toArray.setIfInBounds R1.length z).eraseIdxIfInBounds (R1.length+1)=(R1++z::R2).toArray:=by
 have hz:R1.length+1<((R1++x::y::R2).toArray.setIfInBounds R1.length z).size:=by
  rw[Array.size_setIfInBounds,List.size_toArray,List.length_append];exact Nat.add_lt_add_left (Nat.succ_lt_succ (Nat.succ_pos _)) _
 rw[Array.eraseIdxIfInBounds,dif_pos hz]
 apply Array.toList_inj.mp
 rw[Array.toList_eraseIdx,Array.toList_setIfInBounds]
 show((R1++x::y::R2).set R1.length z).eraseIdx (R1.length+1)=R1++z::R2
 rw[List.set_append_right _ _ (Nat.le_refl _),Nat.sub_self,List.set_cons_zero,List.eraseIdx_append_of_length_le (Nat.le_add_right _ 1),Nat.add_sub_cancel_left]
 rfl
section
variable{prog:Program}{w:World}{A:Around}{E:Value→Shared→Prop}{s:Shared}{κ:SortKind}{k:Keyed→Int}{a₀:Array Keyed}{st st':SortSt}{R:List Run}{lo n:Nat}
structure PS(k:Keyed→Int)(st:SortSt)(R:List Run)(lo:Nat):Prop where
 pend:pendingOf st=R.toArray
 cont:Cont R 0 lo
 sorted:∀x∈R,SR k (arrOf st) x.1 x.2.1
theorem SR.same{a b:Array Keyed}(h:SR k a lo n)(e:∀j,lo≤j→j<lo+n→el b j=el a j):SR k b lo n:=fun i j h1 h2 h3=>by
 show k (el b i)≤k (el b j)
 rw[e i h1 (Nat.lt_of_le_of_lt h2 h3),e j (Nat.le_trans h1 h2) h3];exact h i j h1 h2 h3
theorem PS.keep(P:PS k st R lo)(hp:pendingOf st'=pendingOf st)(he:∀i,i<lo→el (arrOf st') i=el (arrOf st) i):PS k st' R lo:=
 ⟨hp.trans P.pend,P.cont,fun x hx=>(P.sorted x hx).same fun j h1 h2=>he j (Nat.lt_of_lt_of_le h2 (P.cont.mem hx).2)⟩
theorem Zef{i:Nat}(h:i+1<R.length):∃R1 x y R2,R=R1++x::y::R2∧i=R1.length:=by
 have h':=Nat.lt_of_succ_lt h
 refine⟨R.take i,R[i],R[i+1],R.drop (i+2),?_,(List.length_take_of_le (Nat.le_of_lt h')).symm⟩
 rw[←List.drop_eq_getElem_cons h,←List.drop_eq_getElem_cons h',List.take_append_drop]
theorem GH(C:Cmp prog w A E s κ k (·∈a₀.toList))(V:SV a₀ κ k st){i:Nat}{Q:Bool→SortSt→Prop}(P:PS k st R lo)(hlo:lo≤a₀.size)(hi:i+1<R.length)
  (h:∀st' R',SV a₀ κ k st'→PS k st' R' lo→R'.length+1=R.length→(∀j,lo≤j→el (arrOf st') j=el (arrOf st) j)→Q true st'):wpS (model prog w) A E s (mergeAt' i) Q st:=by
 obtain⟨R1,x,y,R2,rfl,rfl⟩:=Zef hi
 obtain⟨c,c1,c2,c3,c4,c5,c6⟩:=P.cont.app
 have hb:=Nat.le_trans (Nat.le_add_right _ _) c6.le
 have c4':y.1=x.1+x.2.1:=c2▸c4
 have hz:y.1+y.2.1≤lo:=c4▸hb
 have l1:(pendingOf st)[R1.length]? =some x:=by
  rw[P.pend,List.getElem?_toArray,List.getElem?_append_right (Nat.le_refl _),Nat.sub_self];rfl
 have l2:(pendingOf st)[R1.length+1]? =some y:=by
  rw[P.pend,List.getElem?_toArray,List.getElem?_append_right (Nat.le_add_right _ 1),Nat.add_sub_cancel_left];rfl
 refine O0 C V l1 l2 c4' c3 c5 (Nat.le_trans hz hlo) (P.sorted x (List.mem_append_right _ (.head _))) (P.sorted y (List.mem_append_right _ (.tail _ (.head _)))) fun st' V' hp hs he=>h st' (R1++(x.1,x.2.1+y.2.1,x.2.2)::R2) V' ⟨?_,?_,fun z hx=>?_⟩ ?_ fun j hj=>he j (.inr (Nat.le_trans hz hj))
 ·rw[hp,P.pend];exact ZbB R1 R2 x y _
 ·exact Cont.join (m:=(x.1,x.2.1+y.2.1,x.2.2)::R2) (show Cont (_::R2) c lo from⟨c2,Nat.le_add_right_of_le c3,Nat.add_assoc c x.2.1 y.2.1▸c6⟩) c1
 ·rcases List.mem_append.mp hx with hx|hx
  ·exact(P.sorted z (List.mem_append_left _ hx)).same fun j h1 h2=>he j (.inl (Nat.lt_of_lt_of_le h2 (Nat.le_trans (c1.mem hx).2 (Nat.le_of_eq c2.symm))))
  ·rcases List.mem_cons.mp hx with e|hx
   ·exact e▸hs
   ·exact(P.sorted z (List.mem_append_right _ (.tail _ (.tail _ hx)))).same fun j h1 h2=>he j (.inr (Nat.le_trans (c4.symm▸(c6.mem hx).1) h1))
 ·rw[List.length_append,List.length_append];rfl
noncomputable def optT{ε:Type}(o:Option Nat)(f:Nat→ε)(g:ε):ε:=match o with
 |some r=>f r
 |_=>g
noncomputable def ZbD{ε:Type}(o:Option Run)(f:Nat→Nat→Nat→ε)(g:ε):ε:=match o with
 |some (a,b,c)=>f a b c
 |_=>g
noncomputable def Zen(pw:Nat):StateT SortSt Sem (ForInStep (Option Unit×Unit)):=
 (get:StateT SortSt Sem SortSt)>>=fun s=>ZbD (if(pendingOf s).size>1 then(pendingOf s)[(pendingOf s).size-2]? else none) (fun q_ q_ x=>if x≤pw then pure (.done (none,()))else
  mergeAt' ((pendingOf s).size-2)>>=fun b=>if(!b)=true then pure (.done (some (),()))else pure (.yield (none,()))) (pure (.done (none,())))
noncomputable def Zb9(lo n:Nat):StateT SortSt Sem (ForInStep (Option Unit×Nat)):=
 modify (fun s:SortSt=>setPending s ((pendingOf s).push (lo,n,0)))>>=fun q_=>pure (.yield (none,lo+n))
noncomputable def Zb8(size lo n:Nat):StateT SortSt Sem (ForInStep (Option Unit×Nat)):=
 (get:StateT SortSt Sem SortSt)>>=fun s=>ZbD (pendingOf s).back? (fun a b q_=>forIn [:size] ((none,()):Option Unit×Unit) (fun q_ q_=>Zen (power' size (2*a+b) (2*a+b+b+n) size))>>=fun u=>VQ u.1 (fun r=>pure (.done (some r,lo)))
  (modify (fun s:SortSt=>setPending s ((pendingOf s).modify ((pendingOf s).size-1) fun(st,len,_)=>(st,len,power' size (2*a+b) (2*a+b+b+n) size)))>>=fun q_=>Zb9 lo n)) (Zb9 lo n)
noncomputable def Zcf(p:Array Run):Nat:=if(if p.size-2>0 then p[p.size-2-1]?.map (·.2.1)else none).any (· <(p[p.size-2+1]?.elim 0 (·.2.1)))then p.size-2-1 else p.size-2
noncomputable def endM:StateT SortSt Sem (ForInStep (Option Unit×Unit)):=
 (get:StateT SortSt Sem SortSt)>>=fun s=>if(pendingOf s).size≤1 then pure (.done (none,()))else mergeAt' (Zcf (pendingOf s))>>=fun b=>if(!b)=true then pure (.done (some (),()))else pure (.yield (none,()))
noncomputable def Zeh(size mr lo:Nat):StateT SortSt Sem (ForInStep (Option Unit×Nat)):=
 if lo≥size then pure (.done (none,lo))else countRun' lo (size-lo)>>=fun r=>optT r (fun m=>if m<mr then(liftM (rule "list.sort.binary-insertion"):StateT SortSt Sem Unit)>>=fun q_=>
  binarySort' lo (min (size-lo) mr) m>>=fun b=>if(!b)=true then pure (.done (some (),lo))else Zb8 size lo (min (size-lo) mr)else Zb8 size lo m) (pure (.done (some (),lo)))
theorem Zdo:sortRuns'=((get:StateT SortSt Sem SortSt)>>=fun s=>forIn [:(arrOf s).size] ((none,0):Option Unit×Nat) (fun q_ c=>Zeh (arrOf s).size (minRun' (arrOf s).size (arrOf s).size 0) c.2)>>=fun u=>VQ u.1 pure
  (forIn [:(arrOf s).size] ((none,()):Option Unit×Unit) (fun q_ q_=>endM)>>=fun u=>VQ u.1 pure (pure ()))):=by
 kernel_rfl
theorem GT{f:Run→Run}{γ:Type}(g:Run→γ)(hf:∀x,g (f x)=g x):∀(l:List Run) (i:Nat),(l.modify i f).map g=l.map g:=by
 intro l
 induction l with
 |nil=>intro i;cases i<;>rfl
 |cons x l ih=>
  intro i
  cases i with
  |zero=>rw[List.modify_zero_cons,List.map_cons,hf,List.map_cons]
  |succ i=>rw[List.modify_succ_cons,List.map_cons,ih,List.map_cons]
theorem Cont.map{b:Nat}:∀{l m:List Run} {a:Nat},m.map (fun x=>(x.1,x.2.1))=l.map (fun x=>(x.1,x.2.1))→Cont l a b→Cont m a b:=by
 intro l
 induction l with
 |nil=>exact fun e h=>(List.map_eq_nil_iff.mp e)▸h
 |cons x l ih=>
  intro m a e h
  obtain⟨y,r,e1,e2,e3⟩:=List.map_eq_cons_iff.mp e
  rw[e1]
  have e4:=congrArg Prod.fst e2
  have e5:y.2.1=x.2.1:=congrArg Prod.snd e2
  exact⟨e4.trans h.1,e5.symm▸h.2.1,ih e3 (e5.symm▸h.2.2)⟩
theorem PS.push(P:PS k st R lo)(h1:1≤n)(h2:SR k (arrOf st) lo n):PS k (setPending st ((pendingOf st).push (lo,n,0))) (R++[(lo,n,0)]) (lo+n) where
 pend:=by
  show(pendingOf st).push (lo,n,0)=_
  rw[P.pend,List.push_toArray]
 cont:=Cont.join (show Cont [(lo,n,0)] lo (lo+n)from⟨rfl,h1,rfl⟩) P.cont
 sorted x hx:=(List.mem_append.mp hx).elim (P.sorted x) fun hx=>by rw[List.mem_singleton.mp hx];exact h2
theorem PS.mod{i:Nat}{f:Run→Run}(P:PS k st R lo)(hf:∀x,((f x).1,(f x).2.1)=(x.1,x.2.1)):PS k (setPending st ((pendingOf st).modify i f)) (R.modify i f) lo where
 pend:=by
  show(pendingOf st).modify i f=_
  rw[P.pend]
  apply Array.toList_inj.mp
  rw[Array.toList_modify]
 cont:=P.cont.map (GT (fun x=>(x.1,x.2.1)) hf R i)
 sorted x hx:=by
  have hm:=List.mem_map_of_mem (f:=fun x:Run=>(x.1,x.2.1)) hx
  rw[GT _ hf]at hm
  refine(List.mem_map.mp hm).elim fun y h=>?_
  have e1:=congrArg Prod.fst h.2
  have e2:y.2.1=x.2.1:=congrArg Prod.snd h.2
  exact e1▸e2▸P.sorted y h.1
structure JS(a₀:Array Keyed)(κ:SortKind)(k:Keyed→Int)(lo n:Nat)(st:SortSt):Prop where
 V:SV a₀ κ k st
 p:∃R,PS k st R lo
 s:SR k (arrOf st) lo n
theorem Zeq{c:Prop} [Decidable c]{δ:Type}{o:Option δ}:(if c then o else none).elim True (fun q_=>c):=by
 split
 ·cases o<;>trivial
 ·trivial
theorem BZ{ε:Type}{o:Option Run}{f:Nat→Nat→Nat→StateT SortSt Sem ε}{g:StateT SortSt Sem ε}{Q:ε→SortSt→Prop}{B:Prop}{G:Run→Prop}(h:o.elim B G)(h1:∀a b c,G (a,b,c)→wpS (model prog w) A E s (f a b c) Q st)(h2:B→wpS (model prog w) A E s g Q st):wpS (model prog w) A E s (ZbD o f g) Q st:=
 match o,h with
 |some (a,b,c),h=>h1 a b c h
 |none,h=>h2 h
theorem Zdv{δ:Type}(o:Option δ):o.elim True (fun q_=>True):=by cases o<;>trivial
noncomputable abbrev JQ(J:SortSt→Prop)(c:Option Unit×Unit)(st:SortSt):Prop:=c.1.elim (J st) (fun q_=>False)
variable(C:Cmp prog w A E s κ k (·∈a₀.toList))
include C
theorem Zdu{pw:Nat}(hlo:lo≤a₀.size)(J:JS a₀ κ k lo n st):wpS (model prog w) A E s (Zen pw) (V5 (JQ (JS a₀ κ k lo n)) (JQ (JS a₀ κ k lo n))) st:=
 wpS_bind (wpS_get (BZ Zeq (fun q_ q_ x q=>Yc (fun q_=>wpS_pure J) fun q_=>J.p.elim fun R P=>by
  have q:1<R.length:=by rw[P.pend]at q;exact q
  have e:(pendingOf st).size=R.length:=by rw[P.pend];rfl
  rw[e]
  exact wpS_bind (GH C J.V P hlo (Nat.lt_of_lt_of_eq (Nat.succ_lt_succ (Nat.sub_lt_sub_left q (Nat.lt_succ_self 1))) (Nat.succ_pred_eq_of_pos (Nat.lt_of_succ_lt q))) fun st4 R4 V4 P4 hl he=>wpS_pure ⟨V4,⟨R4,P4⟩,J.s.same fun j h1 q_=>he j h1⟩)) fun q_=>wpS_pure J))
noncomputable def OI(a₀:Array Keyed)(κ:SortKind)(k:Keyed→Int)(x:Nat)(c:Option Unit×Nat)(st:SortSt):Prop:=c.1=none∧c.2≤a₀.size∧x≤c.2∧SV a₀ κ k st∧∃R,PS k st R c.2
noncomputable def OQ(a₀:Array Keyed)(κ:SortKind)(k:Keyed→Int)(c:Option Unit×Nat)(st:SortSt):Prop:=c.1.elim (SV a₀ κ k st∧∃R,PS k st R a₀.size) (fun q_=>False)
omit C in
theorem NZ{x:Nat}(hn:lo+n≤a₀.size)(hx:x≤lo)(h1:1≤n)(J:JS a₀ κ k lo n st):wpS (model prog w) A E s (Zb9 lo n) (V5 (OQ a₀ κ k) (OI a₀ κ k (x+1))) st:=
 wpS_bind (wpS_modify (wpS_pure ⟨rfl,hn,Nat.add_le_add hx h1,J.V.setP _,J.p.elim fun R P=>⟨_,P.push h1 J.s⟩⟩))
theorem NY{x:Nat}(hn:lo+n≤a₀.size)(hx:x≤lo)(h1:1≤n)(J:JS a₀ κ k lo n st):wpS (model prog w) A E s (Zb8 a₀.size lo n) (V5 (OQ a₀ κ k) (OI a₀ κ k (x+1))) st:=
 wpS_bind (wpS_get (BZ (Zdv _) (fun a b q_ q_=>wpS_bind (wpS_mono (US (I:=fun q_=>JQ (JS a₀ κ k lo n)) (Q:=JQ (JS a₀ κ k lo n)) (fun q_ c st h=>Zdu C (Nat.le_trans (Nat.le_add_right lo n) hn) (by
   cases e:c.1 with
   |none=>rw[JQ,e]at h;exact h
   |some x=>rw[JQ,e]at h;exact h.elim)) (fun q_ q_ h=>h) (c:=(none,())) J)
  fun c st h=>UT h (fun q_ h=>h.elim) fun J=>wpS_bind (wpS_modify (NZ hn hx h1 ⟨J.V.setP _,J.p.elim fun R P=>⟨_,P.mod fun(_,_,_)=>rfl⟩,J.s⟩)))) fun q_=>NZ hn hx h1 J))
theorem Zdt{x mr:Nat}{c:Option Unit×Nat}(h:OI a₀ κ k x c st):wpS (model prog w) A E s (Zeh a₀.size mr c.2) (V5 (OQ a₀ κ k) (OI a₀ κ k (x+1))) st:=by
 obtain⟨_,hlo,hxl,V,R,P⟩:=h
 revert hlo hxl P
 generalize c.2=lo
 intro hlo hxl P
 refine Yc (fun q=>wpS_pure ⟨V,R,Nat.le_antisymm hlo q▸P⟩) fun q=>?_
 have q:=Nat.lt_of_not_le q
 have hs:=Nat.add_sub_of_le hlo
 have hp:=Nat.sub_pos_of_lt q
 refine wpS_bind (O1 C V hp (Nat.le_of_eq hs) fun m st1 V1 hp1 hm1 hm2 hs1 he1=>Yc (fun qm=>?_) fun qm=>NY C (Nat.le_trans (Nat.add_le_add_left hm2 lo) (Nat.le_of_eq hs)) hxl hm1 ⟨V1,⟨R,P.keep hp1 he1⟩,hs1⟩)
 have hn:=Nat.le_trans (Nat.add_le_add_left (Nat.min_le_left (a₀.size-lo) mr) lo) (Nat.le_of_eq hs)
 have hm:=Nat.le_min.mpr ⟨hm2,Nat.le_of_lt qm⟩
 exact wpS_bind (wpS_lift (wpAny_rule ⟨rfl,wpS_bind (Zbu C V1 hn hm hm1 hs1 fun st2 V2 hp2 hsr he2=>NY C hn hxl (Nat.le_trans hm1 hm) ⟨V2,⟨R,(P.keep hp1 he1).keep hp2 he2⟩,hsr⟩)⟩))
omit C in
theorem Ze5{b:Bool}{n:Nat}:(if b=true then n-1 else n)+1<n+2:=by
 cases b
 ·exact Nat.lt_succ_self _
 ·exact Nat.succ_lt_succ (Nat.lt_succ_of_le (Nat.sub_le n 1))
omit C in
theorem ZdF{p:Array Run}(h:1<p.size):Zcf p+1<p.size:=by
 unfold Zcf
 have e:=Nat.sub_add_cancel h
 revert e
 generalize p.size-2=n
 intro e
 rw[←e]
 exact Ze5
theorem Zas(V:SV a₀ κ k st){Q:Unit→SortSt→Prop}(hp:pendingOf st= #[])(h2:2≤a₀.size)
  (h:∀st',(arrOf st').Perm a₀→failedOf st'=none→SR k (arrOf st') 0 a₀.size→Q () st'):wpS (model prog w) A E s sortRuns' Q st:=by
 rw[Zdo]
 refine wpS_bind (wpS_get ?_)
 rw[V.size]
 refine wpS_bind (wpS_mono (US (I:=OI a₀ κ k) (Q:=OQ a₀ κ k) (fun x c st h=>Zdt C h) (fun c st h=>?_) ⟨rfl,Nat.zero_le _,Nat.le_refl _,V,[],hp,rfl,fun x hx=>(nomatch hx)⟩) fun c st z=>UT z (fun q_ z=>z.elim) fun J=>?_)
 ·unfold OQ
  rw[h.1]
  exact⟨h.2.2.2.1,Nat.le_antisymm h.2.1 (Nat.le_trans (Nat.le_max_right 0 _) h.2.2.1)▸h.2.2.2.2⟩
 ·refine J.2.elim fun R P=>wpS_bind (wpS_mono (US (I:=fun x c st=>c.1=none∧SV a₀ κ k st∧∃R,PS k st R a₀.size∧R.length+x≤a₀.size+1) (Q:=fun c st=>c.1.elim (SV a₀ κ k st∧∃R,PS k st R a₀.size∧R.length≤1) (fun q_=>False)) (fun x c st J=>J.2.2.elim fun R P=>wpS_bind (wpS_get (Yc (fun q=>wpS_pure (show _∧_ from⟨J.2.1,R,P.1,by rw[P.1.pend]at q;exact q⟩)) fun q=>?_)))
   (fun c st J=>?_) (c:=(none,())) ⟨rfl,J.1,R,P,Nat.le_succ_of_le (Nat.zero_add R.length▸P.cont.le)⟩) fun c st z=>UT z (fun q_ z=>z.elim) fun J=>wpS_pure (J.2.elim fun R P=>h _ J.1.perm J.1.failed ?_))
  ·have e:(pendingOf st).size=R.length:=by rw[P.1.pend];rfl
   exact wpS_bind (GH C J.2.1 P.1 (Nat.le_refl _) (e▸ZdF (Nat.lt_of_not_le q)) fun st4 R4 V4 P4 hl he=>wpS_pure ⟨rfl,V4,R4,P4,Nat.le_trans (Nat.le_of_eq (Nat.succ_add_eq_add_succ R4.length x).symm) (Nat.le_trans (Nat.add_le_add_right (Nat.le_of_eq hl) x) P.2)⟩)
  ·rw[J.1]
   exact⟨J.2.1,J.2.2.imp fun R P=>⟨P.1,Nat.le_of_add_le_add_right (Nat.le_trans P.2 (Nat.le_trans (Nat.le_of_eq (Nat.add_comm _ 1)) (Nat.add_le_add_left (Nat.le_max_right 0 _) 1)))⟩⟩
  ·have hc:=P.1.cont
   have hs:=P.1.sorted
   have hl:=P.2
   cases R with
   |nil=>exact absurd (show 0=a₀.size from hc) (Nat.ne_of_lt (Nat.lt_of_succ_lt h2))
   |cons x R=>
    cases R with
    |nil=>
     have e2:0+x.2.1=a₀.size:=hc.2.2
     rw[Nat.zero_add]at e2
     exact e2▸hc.1▸hs x (.head _)
    |cons y R=>exact absurd hl (Nat.not_le.mpr (Nat.succ_lt_succ (Nat.succ_pos _)))
end
end
end Internal
namespace Internal
open PySem PySem.W PyProof.Rows PySem.Calls PySem.Spec
section
noncomputable def VN(g:Frz)(p:Int×Int)(v:Value):Prop:=∃a t u,v=.ref a∧g a=some (Qa [.int p.1 t,.int p.2 u])
noncomputable def kv(g:Frz)(v:Value):Int:=match v with
 | .ref a=>match g a with
  |some o=>match o.data with
   | .seq xs _=>match (xs[0]? :Option Value)with
    |some (.int n _)=>n
    |_=>0
   |_=>0
  |none=>0
 |_=>0
noncomputable abbrev Zc1(p:Int×Int):V:=.tup [.int p.1,.int p.2]
noncomputable abbrev PGs(w:World)(g:Frz)(ps:List (Int×Int))(vs:List Value):Prop:=VRs w g (Zr ps) vs
section
variable{w:World}{g:Frz}{ps:List (Int×Int)}{vs:List Value}
theorem VN.kv{p:Int×Int}{v:Value}(h:VN g p v):kv g v=p.1:=by
 obtain⟨a,t,u,e0,e⟩:=h
 rw[e0]
 show(match g a with|some o=>_|none=>_)=_
 rw[e]
 rfl
theorem VN.of{p:Int×Int}{v:Value}(h:VR w g (Zc1 p) v):VN g p v:=by
 obtain⟨a,Vs,e1,e2,r⟩:=h.inv
 obtain⟨x,r,e3,h1,r⟩:=r.inv
 obtain⟨y,r2,e4,h2,q2⟩:=r.inv
 have e5:r2=[]:=q2.inv
 refine h1.intI.elim fun t e6=>h2.intI.elim fun u e7=>⟨a,t,u,e1,?_⟩
 rw[e2,e3,e4,e5,e6,e7]
theorem PGs.consI{x:Value}(h:PGs w g ps (x::vs)):∃p r,ps=p::r∧VR w g (Zc1 p) x∧PGs w g r vs:=by
 cases ps with
 |nil=>exact absurd (show x::vs=[]from h.inv) (List.cons_ne_nil _ _)
 |cons p r=>exact⟨p,r,rfl,VRs.cons2 h⟩
theorem PGs.keys(h:PGs w g ps vs):vs.map (kv g)=ps.map (·.1):=by
 induction ps generalizing vs with
 |nil=>rw[show vs=[]from h.inv];rfl
 |cons p ps ih=>
  obtain⟨x,r,e,a,b⟩:=h.inv
  rw[e,List.map_cons,List.map_cons,(VN.of a).kv,ih b]
theorem VRs.mem{us:List V}{x:Value}(h:VRs w g us vs)(m:x∈vs):∃u∈us,VR w g u x:=
 h.ind (M:=fun us vs=>x∈vs→∃u∈us,VR w g u x) (fun m=>nomatch m) (fun {v y us vs} a _ ih m=>(List.mem_cons.mp m).elim (fun e=>⟨v,.head _,e▸a⟩) fun m=>(ih m).imp fun u h=>⟨.tail _ h.1,h.2⟩) m
theorem PGs.mem(h:PGs w g ps vs){v:Value}(m:v∈vs):∃p∈ps,VN g p v:=
 (VRs.mem h m).elim fun u h=>(List.mem_map.mp h.1).imp fun p e=>⟨e.1,VN.of (e.2.symm▸h.2)⟩
theorem PGs.length(h:PGs w g ps vs):vs.length=ps.length:=(VRs.length h).symm.trans (List.length_map ..)
theorem PGs.perm{us vs:List Value}(h:us.Perm vs):∀{ps:List (Int×Int)},PGs w g ps vs→∃qs,PGs w g qs us∧qs.Perm ps:=by
 induction h with
 |nil=>exact fun {ps} h=>⟨ps,h,.refl _⟩
 |cons x _ ih=>
  intro ps h
  obtain⟨p,r,e,a,b⟩:=PGs.consI h
  exact(ih b).elim fun qs q=>⟨p::qs,.cons a q.1,e.symm▸q.2.cons _⟩
 |swap x y l=>
  intro ps h
  obtain⟨p,r,e,a,b⟩:=PGs.consI h
  obtain⟨q,r2,e2,a2,b2⟩:=PGs.consI b
  exact⟨q::p::r2,.cons a2 (.cons a b2),by rw[e,e2];exact .swap _ _ _⟩
 |trans _ _ ih1 ih2=>exact fun h=>(ih2 h).elim fun qs q=>(ih1 q.1).imp fun rs r=>⟨r.1,r.2.trans q.2⟩
theorem Zd2{a:List (Int×Int)}:∀{b:List (Int×Int)},a.Perm b→a.Pairwise (fun x y=>x.1<y.1)→b.Pairwise (fun x y=>x.1<y.1)→a=b:=by
 induction a with
 |nil=>exact fun h q_ q_=>h.nil_eq
 |cons x a ih=>
  intro b h ha hb
  cases b with
  |nil=>exact h.eq_nil
  |cons y b=>
   have a1:=List.pairwise_cons.mp ha
   have b1:=List.pairwise_cons.mp hb
   have e:x=y:=(List.mem_cons.mp (h.mem_iff.mp (List.mem_cons_self ..))).elim id fun q=>(List.mem_cons.mp (h.mem_iff.mpr (List.mem_cons_self ..))).elim Eq.symm fun q2=>absurd (b1.1 x q) (Int.lt_asymm (a1.1 y q2))
   subst e
   rw[ih ((List.perm_cons _).mp h) a1.2 b1.2]
theorem strict{l:List (Int×Int)}(h:l.Pairwise fun x y=>x.1≤y.1)(nd:(l.map (·.1)).Nodup):l.Pairwise fun x y=>x.1<y.1:=
 (h.and<|List.pairwise_map.mp nd).imp fun h=>Int.lt_iff_le_and_ne.mpr h
theorem Zee{qs:List (Int×Int)}(h:qs.Perm ps)(hs:qs.Pairwise fun x y=>x.1≤y.1)(nd:(ps.map (·.1)).Nodup):qs=srt ps:=by
 have p2:(srt ps).Perm ps:=List.mergeSort_perm ps _
 refine Zd2 (h.trans p2.symm) (strict hs ((h.map _).nodup_iff.mpr nd)) (strict ?_ ((p2.map _).nodup_iff.mpr nd))
 exact(List.pairwise_mergeSort (le:=fun a b:Int×Int=>decide (a.1≤b.1)) (fun a b c h1 h2=>decide_eq_true (Int.le_trans (of_decide_eq_true h1) (of_decide_eq_true h2))) (fun a b=>by rw[←Bool.decide_or];exact decide_eq_true (Int.le_total _ _)) ps).imp fun h=>of_decide_eq_true h
end
section
variable{prog:Program}{w:World}{A:Around}{E:Value→Shared→Prop}{s:Shared}{g:Frz}{ps:List (Int×Int)}{vs:List Value}
theorem Za7{p q:Int×Int}(nd:(ps.map (·.1)).Nodup)(hp:p∈ps)(hq:q∈ps)(e:p.1=q.1):p=q:=by
 induction ps with
 |nil=>exact nomatch hp
 |cons x r ih=>
  have nd:=List.nodup_cons.mp nd
  rcases List.mem_cons.mp hp with h1|h1
  ·rcases List.mem_cons.mp hq with h2|h2
   ·rw[h1,h2]
   ·exact absurd (h1▸(show p.1∈r.map (·.1) by rw[e];exact List.mem_map_of_mem h2)) nd.1
  ·rcases List.mem_cons.mp hq with h2|h2
   ·exact absurd (h2▸(show q.1∈r.map (·.1) by rw[←e];exact List.mem_map_of_mem h1)) nd.1
   ·exact ih nd.2 h1 h2
theorem ZaV(hg:∀b o,g b=some o→s.heap.get? b=some o)(pg:PGs w g ps vs)(nd:(ps.map (·.1)).Nodup):Cmp prog w A E s (tuples' true) (fun p=>kv g p.1) (·∈(pairsOf vs).toList) where
 lt {st x y Q} hκ hx hy h:=by
  rw[pairsOf_toList]at hx hy
  refine(pg.mem (mem_zip_self hx).2).elim fun p x1=>(pg.mem (mem_zip_self hy).2).elim fun q y1=>?_
  rw[x1.2.kv,y1.2.kv]at h
  obtain⟨a,t,u,e1,e2⟩:=x1.2
  obtain⟨b,t',u',f1,f2⟩:=y1.2
  rw[lt'_eq]
  refine wpS_bind (wpS_get ?_)
  rw[hκ,e1,f1]
  refine wpS_bind (wpS_lift (wpAny_attempt (kat_lt (hg _ _ e2) rfl (hg _ _ f2) rfl (kat_cons (wpAny_eqBool_int (kat_go (fun e=>?_) fun e=>kat_no (oneLt_int ⟨rfl,wpS_pure h⟩)))))))
  have epq:=Za7 nd x1.1 y1.1 (eq_of_beq e)
  rw[epq,decide_eq_false (Int.lt_irrefl _)]at h
  refine kat_yes (kat_cons (wpAny_eqBool_int (kat_go (fun q_=>kat_yes (kat_nil ⟨rfl,wpS_pure h⟩)) fun z=>?_)))
  rw[epq,beq_self_eq_true]at z
  cases z
theorem SR0{k:Keyed→Int}{a:Array Keyed}{n:Nat}(h:n≤1):SR k a 0 n:=fun i j h1 h2 h3=>
 Int.le_of_eq (congrArg (fun i=>k (el a i)) (Nat.le_antisymm h2 (Nat.le_trans (Nat.le_of_lt_succ (Nat.lt_of_lt_of_le h3 (Nat.add_le_add_left h 0))) (Nat.zero_le i))))
theorem Za2(pg:PGs w g ps vs)(nd:(ps.map (·.1)).Nodup){xs:Array Keyed}(hp:xs.Perm (pairsOf vs))(hs:SR (fun p=>kv g p.1) xs 0 (pairsOf vs).size):PGs w g (srt ps) (xs.map (·.2)).toList:=by
 have hl:xs.toList.Perm (vs.zip vs):=by rw[←pairsOf_toList];exact Array.perm_iff_toList_perm.mp hp
 have e:(xs.map (·.2)).toList=xs.toList.map (·.1):=by
  rw[Array.toList_map];exact List.map_congr_left fun p hp'=>(mem_zip_self (hl.mem_iff.mp hp')).1.symm
 have hv:=hl.map Prod.fst
 rw[List.map_fst_zip (Nat.le_refl _),←e]at hv
 refine(PGs.perm hv pg).elim fun qs h=>?_
 have hk:=PGs.keys h.1
 rw[e,List.map_map]at hk
 rw[←Zee h.2 (List.pairwise_map.mp (hk▸List.pairwise_map.mpr (List.pairwise_iff_getElem.mpr fun i j hi hj hij=>?_))) nd]
 ·exact h.1
 ·have:kv g (el xs i).1≤kv g (el xs j).1:=hs i j (Nat.zero_le _) (Nat.le_of_lt hij) (Nat.lt_of_lt_of_eq hj (Array.length_toList.trans (hp.size_eq.trans (Nat.zero_add _).symm)))
  rwa [←Q0 hi,←Q0 hj]at this
theorem ZbM(hg:∀b o,g b=some o→s.heap.get? b=some o)(h:PGs w g ps vs):∃fs,KatTups s.heap vs fs∧fs.length=vs.length∧∀v∈fs,∃n t,v=Value.int n t:=by
 induction ps generalizing vs with
 |nil=>rw[show vs=[]from h.inv];exact⟨[],.nil,rfl,fun v h=>nomatch h⟩
 |cons p ps ih=>
  obtain⟨x,r,e,a,b⟩:=h.inv
  obtain⟨d,t,u,e1,e2⟩:=VN.of a
  rw[e,e1]
  exact(ih b).elim fun fs f=>⟨_,.cons (hg _ _ e2) rfl rfl rfl f.1,congrArg Nat.succ f.2.1,fun v hv=>(List.mem_cons.mp hv).elim (fun e=>e▸⟨_,_,rfl⟩) (f.2.2 v)⟩
end
end
section
section
variable{prog:Program}{w:World}{A:Around}{E:Value→Shared→Prop}{s:Shared}{g:Frz}{ps:List (Int×Int)}{vs:List Value}
theorem OK{a:Addr}{n:Nat}{P:PySem.Fin→Shared→Prop}(ho:s.heap.get? a=some (seqObj "list" vs.toArray n))(hg:∀b o,g b=some o→s.heap.get? b=some o)(hga:g a=none)(pg:PGs w g ps vs)(nd:(ps.map (·.1)).Nodup)(hz:vs.length≤1000)
  (h:∀(h':Heap) (out:List Value) (m:Nat),h'.get? a=some (seqObj "list" out.toArray m)→(∀b o,b≠a→s.heap.get? b=some o→h'.get? b=some o)→PGs w g (srt ps) out→P (.done (.ret .none)) {s with heap:=h'}):
  wpAny (model prog w) A (Builtin.«list.sort» ⟨[.ref a],[]⟩) P E s:=by
 rw[list_sort_plain]
 have hline:1000≤sizeLine:=by rw[sizeLine_eq];decide
 have ha:a<s.heap.objs.size:=Heap.lt_size ho
 refine wpAny_bind (listItems_at ho rfl ?_)
 refine wpAny_bind (listUpdate_at ho rfl ?_ (Nat.le_trans hz hline) (Nat.zero_le _))
 obtain⟨e1,ho1⟩:∃e1,(s.heap.update a (Obj.mapSeq fun q_=> #[])).get? a=some (seqObj "list" #[] e1):=⟨_,get?_update_seq ho (fun q_=> #[])⟩
 refine wpAny_bind (seqEpoch_at ho1 rfl ?_)
 refine wpAny_bind (wpAny_newTuple ?_ (Nat.le_trans hz hline))
 refine wpAny_bind (wpAny_newList ?_)
 refine wpAny_holding ?_
 show wpAny (model prog w) A _ P E {s with heap:=(((s.heap.update a (Obj.mapSeq fun q_=>(#[]:Array Value))).push (seqObj "tuple" vs.toArray 0)).push (seqObj "list" #[] 0))}
 generalize hH:(((s.heap.update a (Obj.mapSeq fun q_=>(#[]:Array Value))).push (seqObj "tuple" vs.toArray 0)).push (seqObj "list" #[] 0))=H
 have ho6:H.get? a=some (seqObj "list" #[] e1):=by
  rw[←hH];exact Heap.get?_push_of_some _ (Heap.get?_push_of_some _ ho1)
 have keep:∀b o,b≠a→s.heap.get? b=some o→H.get? b=some o:=fun b o n e=>by
  rw[←hH]
  exact Heap.get?_push_of_some _ (Heap.get?_push_of_some _ ((Heap.get?_update_ne _ _ _ _ n).trans e))
 have hgH:∀b o,g b=some o→H.get? b=some o:=fun b o e=>keep b o (fun q=>by rw[q,hga]at e;cases e) (hg b o e)
 have hv:(pairsOf vs).size=vs.length:=pairsOf_size ..
 have fin:∀st':SortSt,(arrOf st').Perm (pairsOf vs)→SR (fun p=>kv g p.1) (arrOf st') 0 (pairsOf vs).size→P (.done (.ret .none)) {s with heap:=H.update a (Obj.mapSeq fun q_=>(arrOf st').map (·.2))}:=by
  intro st' hp hs
  have e:=get?_update_seq ho6 (fun q_=>(arrOf st').map (·.2))
  refine h _ ((arrOf st').map (·.2)).toList _ (by rw[Array.toArray_toList];exact e) (fun b o n q=>?_) (Za2 pg nd hp hs)
  exact(Heap.get?_update_ne _ _ _ _ n).trans (keep b o n q)
 dsimp only
 by_cases h2:vs.toArray.size<2
 ·rw[if_pos h2,if_pos h2]
  refine wpAny_bind (wpAny_pure ?_)
  rw[StateT.run_pure]
  refine wpAny_bind (wpAny_pure ?_)
  dsimp only
  refine wpAny_bind (seqEpoch_at ho6 rfl ?_)
  refine wpAny_bind (listUpdate_at ho6 rfl ?_ (Nat.zero_le _) (by rw[Array.size_map];show(pairsOf vs).size≤_;rw[hv];exact Nat.le_succ_of_le (Nat.le_trans hz hline)))
  rw[bne_self_eq_false]
  exact wpAny_pure (fin (SortSt.mk' general' (vs.toArray.zip vs.toArray) #[] 7 none) (Array.Perm.refl _) (SR0 (by rw[hv];exact Nat.le_of_lt_succ h2)))
 ·rw[if_neg h2,if_neg h2]
  obtain⟨fs,f1,f2,f3⟩:=ZbM (s:={s with heap:=H}) hgH pg
  refine wpAny_bind (kat_kind f1 (f2.symm▸Nat.lt_of_lt_of_le Nat.two_pos (Nat.le_of_not_lt h2)) (T:=.type "int") (fun v hv=>?_) rfl ?_)
  ·obtain⟨n,t,rfl⟩:=f3 v hv
   exact .now
  rw[show(Value.type "int" !=Value.type "tuple")=true from rfl]
  have V:SV (pairsOf vs) (tuples' true) (fun p=>kv g p.1) (SortSt.mk' (tuples' true) (vs.toArray.zip vs.toArray) #[] 7 none):=by
   refine⟨Array.Perm.refl _,rfl,rfl,?_⟩
   rw[pairsOf_toList]
   have e:(vs.zip vs).map (fun p=>kv g p.1)=ps.map (·.1):=by
    have:(vs.zip vs).map (fun p=>kv g p.1)=((vs.zip vs).map Prod.fst).map (kv g):=by rw[List.map_map];rfl
    rw[this,List.map_fst_zip (Nat.le_refl _),pg.keys]
   rw[e];exact nd
  refine wpAny_bind (wpAny_mono (Zas (ZaV (s:={s with heap:=H}) hgH pg nd) V (Q:=fun q_ st'=>(arrOf st').Perm (pairsOf vs)∧failedOf st'=none∧SR (fun p=>kv g p.1) (arrOf st') 0 (pairsOf vs).size) rfl (by rw[hv];exact Nat.le_of_not_lt h2) fun st' a1 a2 a3=>⟨a1,a2,a3⟩) ?_ fun q_ q_ e=>e)
  rintro ⟨⟨⟩,st'⟩ s' ⟨rfl,hp,hf,hs⟩
  dsimp only
  refine wpAny_bind (seqEpoch_at ho6 rfl ?_)
  refine wpAny_bind (listUpdate_at ho6 rfl ?_ (Nat.zero_le _) (by rw[Array.size_map,hp.size_eq,hv];exact Nat.le_succ_of_le (Nat.le_trans hz hline)))
  rw[hf]
  rw[bne_self_eq_false]
  exact wpAny_pure (fin st' hp hs)
theorem Zdn{l:Addr}{Q:Value→Shared→Prop}(hl:s.heap.IsList l vs.toArray)(hg:∀b o,g b=some o→s.heap.get? b=some o)(pg:PGs w g ps vs)(nd:(ps.map (·.1)).Nodup)(hz:vs.length≤1000)
  (h:∀(h':Heap) (out:List Value) (m:Nat),h'.get? (s.heap.objs.size+1)=some (seqObj "list" out.toArray m)→(∀b o,s.heap.get? b=some o→h'.get? b=some o)→PGs w g (srt ps) out→Q (.ref (s.heap.objs.size+1)) {s with heap:=h'}):
  wpAny (model prog w) A (call (.builtin "sorted") [.ref l]) Q E s:=by
 have hline:1000≤sizeLine:=by rw[sizeLine_eq];decide
 refine Calls.call_function_entry kind_sorted plain_sorted entry_sorted (args_sorted1 _) ?_
 unfold Builtin.«sorted»
 refine wpAny_bind (m:=checkCount "sorted" 1 1 _) (wpAny_pure ?_)
 refine wpAny_bind (collect_list hl ?_ (Nat.le_trans hz hline))
 refine wpAny_bind (wpAny_newList ?_ (Nat.le_trans hz hline))
 generalize hH:(s.heap.push (seqObj "list" #[] 0)).update s.heap.objs.size (Obj.mapSeq (· ++vs.toArray))=H
 have hsz:H.objs.size=s.heap.objs.size+1:=by
  rw[←hH,Heap.size_update,size_push']
 have keep:∀b o,s.heap.get? b=some o→H.get? b=some o:=fun b o e=>by
  rw[←hH,Heap.get?_update_ne _ _ _ _ (Nat.ne_of_lt (Heap.lt_size e))]
  exact Heap.get?_push_of_some _ e
 have hoL:(H.push (seqObj "list" vs.toArray 0)).get? (s.heap.objs.size+1)=some (seqObj "list" vs.toArray 0):=by
  rw[←hsz];exact Heap.get?_push_size _ rfl
 have hga:g (s.heap.objs.size+1)=none:=
  JA (f:=g) s.heap (fun a x e=>⟨_,hg a x e⟩) (Nat.le_succ _)
 show wpAny _ _ _ _ _ {s with heap:=H.push (seqObj "list" vs.toArray 0)}
 rw[hsz]
 refine wpAny_bind (wpAny_holding (wpAny_call_entry slot_list_sort ⟨_,hoL,rfl⟩ entry_list_sort (OK (s:={s with heap:=H.push (seqObj "list" vs.toArray 0)}) hoL (fun b o e=>Heap.get?_push_of_some _ (keep b o (hg b o e))) hga pg nd hz fun h' out m a1 a2 a3=>⟨_,rfl,?_⟩) (args_list_sort _)))
 refine wpAny_pure ⟨_,rfl,h h' out m a1 (fun b o e=>a2 b o (fun q=>?_) (Heap.get?_push_of_some _ (keep b o e))) a3⟩
 exact Nat.not_succ_lt_self (q▸Heap.lt_size e)
end
theorem Zeg:U9:=fun {d σ Q X ps} nd hz h=>
 ⟨fun w os₀ A k g s fv xs Q' E' S rf ra rm hh fr hQ hX=>by
  obtain⟨x,r0,e0,r1,r2⟩:=ra.inv
  obtain⟨l,Vs,n,e1,e2,pg⟩:=r1.inv
  have e3:r0=[]:=r2.inv
  have e4:fv=.builtin "sorted" :=rf.inv
  rw[e0,e1,e3,e4]
  refine Zdn (ZM (S.fr _ _ e2)) (fun b o e=>S.fr b o e) pg nd (by rw[PGs.length pg];exact hz) fun h' out m e' kp pg'=>?_
  have F:=S.fresh (Nat.le_add_right s.heap.objs.size 1)
  have S1:St w os₀ none k g σ {s with heap:=h'}:=S.keep kp rfl rfl
  obtain⟨S2,l2⟩:=S1.putFrz F e' HG
  exact hQ _ _ _ _ _ l2 (.lst _ _ out m (put_self ..) (VRs.mono l2 pg')) S2 h⟩
end
section
theorem ZeE:∀P,nsIn (KK P) mainGlobals "law" =some (some (.ref 1200)):=fun P=>by kernel_rfl
noncomputable def k0(h:Heap):Frz:=fun b=>if b=sysModules then h.get? b else none
noncomputable def g0(h:Heap):Frz:=fun b=>if b=sysModules∨b∈JY then none else h.get? b
set_option tactic.hygienic true in
theorem St0{w:World}{s:Shared}(X:(KU w.params).In s.heap)(hg:s.gens= #[]):St w s.os none (k0 s.heap) (g0 s.heap) σT s where
 kp b o _ e:=by
  unfold k0 at e
  split at e
  ·exact⟨o.slots,e,fun q_=>rfl⟩
  ·cases e
 lv b e:=by cases e
 fr b o e:=by
  unfold g0 at e
  split at e
  ·cases e
  ·exact e
 ls a x e:=by cases e
 ds a x e:=by cases e
 ss a x e:=by cases e
 is a x e:=by cases e
 cs a x e:=by cases e
 ts a q e:=by
  have m:=Zb0 e
  refine⟨if_pos (.inr m),?_, #[],X a _ (Nc m),trivial,fun pos cv e=>by cases e⟩
  refine if_neg fun q=>?_
  rw[q]at m
  exact absurd m (by decide)
 sd a x e:=by cases e
 id a x e:=by cases e
 K a o e:=by
  have m:=GV e
  rw[←ZdZ]at m
  have:=List.all_eq_true.mp Zcv a m
  rw[Bool.and_eq_true,bne_iff_ne,Bool.not_eq_true']at this
  unfold g0
  rw[if_neg]
  ·exact Zaj X a o e
  ·rintro (q|q)
   ·exact this.1 q
   ·have h2:=this.2
    rw[List.contains_iff_mem.mpr q]at h2
    cases h2
 nf:=trivial
 kg a o e:=by
  unfold k0 at e
  split at e
  ·rename_i q;exact if_pos (.inl q)
  ·cases e
 m2:=by
  have:=X 1 _ (Zcu w.params)
  unfold k0
  rw[if_pos rfl]
  show(s.heap.get? 1).isSome=true
  rw[this];rfl
 gens:=hg
 os:=rfl
theorem Oh{w:World}{g:Frz}:∀{vs:List Value} {ns:List Int},IntsAre vs ns→VRs w g (ns.map V.int) vs
 |_,_,.nil=>.nil
 |_,_,.cons n t h=>.cons (.int n t) (Oh h)
theorem Zat{P:Params}{h:Heap}{a:Addr}{xs:List WData}(e:Well P h (.ref a) (.list xs)):∃vs:List Value,h.get? a=some (Zu vs 0):=by
 cases e with
 |list h1 _=>exact⟨_,h1⟩
theorem ZfW{a:Addr}(m:a∈JY):∃q,σT.ts a=some q:=by
 simp only[JY,List.mem_cons,List.not_mem_nil,or_false]at m
 rcases m with rfl|rfl|rfl|rfl|rfl|rfl<;>exact⟨_,rfl⟩
theorem Za4{w:World}{s s':Shared}{os₀:OsState}{g':Frz}{σ':Hp}(X:(KU w.params).In s.heap)(l:Le (g0 s.heap) g')(S':St w os₀ none (k0 s.heap) g' σ' s')(hle:σT.Le σ'){b:Addr}{o:Obj}(e:s.heap.get? b=some o):
  asItWas s.heap s'.heap b o∧∃o',s'.heap.get? b=some o':=by
 by_cases q:b=sysModules
 ·subst q
  obtain⟨sl,h1,h2⟩:=S'.kp sysModules o (by simp) ((if_pos rfl).trans e)
  have ho:o=H8 w.params:=Option.some.inj (e.symm.trans (X 1 _ (Zcu w.params)))
  have hs:=h2 (by rw[ho];exact fun h=>absurd (Value.type.inj h) (by decide))
  rw[hs]at h1
  exact⟨.inl h1,_,h1⟩
 ·by_cases m:b∈JY
  ·obtain⟨t,ht⟩:=ZfW m
   obtain⟨ps,h1,_⟩:=(S'.ts b t (hle.ts _ _ ht)).at_
   have ho:o=tabObj #[]:=Option.some.inj (e.symm.trans (X b _ (Nc m)))
   subst ho
   refine⟨.inr (.inl ⟨Zbz (Zaj X) m,rfl, #[],ps,rfl,?_⟩),_,h1⟩
   rw[h1,Array.empty_append]
  ·have h1:=S'.fr b o (l b o ((if_neg (not_or.mpr ⟨q,m⟩)).trans e))
   exact⟨.inl h1,_,h1⟩
set_option tactic.hygienic true in
theorem hcG(SO:U9){V:Program}{loose:List Str}{X:(Str→Option Value)→Heap→Prop}{d:DefRec}(hn:d.name=Str.ofString "law"):
  WalkO V loose X (kHook KU V0 Qv).says PySem.Challenge.rw_nn0088_01.row.toRowW d [] (fun f vs=>PySem.call f vs):=by
 intro w s₀ s₁ mg mb G Y fa o pm cd doc dV kV ho hd hcd hD hmg hg args vals as hpre hlay hrd hwl hlo
 have KX:(KU w.params).In s₁.heap:=kIn_of Y
 wrow_args hpre hlay hrd hwl hlo
 rename_i ns h1 h2 h3 h4 h5 as1 as2 L vs as3 hL ra w1 r0 hI hr hc1 hc2
 have hfa:fa=1200:=by
  have e:=mg_of (Zaj KX) (Ground.T G).g (ZeE w.params)
  rw[hn]at hmg
  have:=hmg.symm.trans e
  cases this
  rfl
 subst hfa
 have hlen:ns.length≤63:=by lia
 obtain⟨us,hus⟩:=Zat w1
 have hvs:us=vs:=by
  obtain⟨o,e1,_,m,e2⟩:=hL
  rw[hus]at e1
  cases e1
  cases e2
  rfl
 subst hvs
 have S:=St0 KX hg
 have hLm:L≠sysModules:=fun q=>by
  have:=KX 1 _ (Zcu w.params)
  rw[q]at hus
  have h:Value.type "list" =Value.type "dict" :=congrArg Obj.cls (Option.some.inj (hus.symm.trans this))
  exact absurd (Value.type.inj h) (by decide)
 have hLt:L∉JY:=fun q=>by
  have:=KX L _ (Nc q)
  have h:Value.type "list" =Value.none:=congrArg Obj.cls (Option.some.inj (hus.symm.trans this))
  cases h
 have hgL:g0 s₁.heap L=some (Zu us 0):=by
  unfold g0
  rw[if_neg (not_or.mpr ⟨hLm,hLt⟩)]
  exact hus
 refine(Zgu SO Zbt hlen).w.run w s₁.os callerA _ _ s₁ _ _ _ _ S (.ref 1200) (.cons (.lst L _ us 0 hgL (Oh hI)) .nil) ⟨by decide,by decide⟩ rfl ⟨[],rfl,fun e he=>by cases he⟩ (fun v σ' x g' s' l r S' q=>?_) fun a σ' g' s' l S' F q=>q.elim
 obtain⟨rfl,hle⟩:=q
 cases r
 refine⟨.inl ⟨.bool true,.bool true,[],rfl,fun cls=>rfl,?_,?_,fun q_=>⟨List.nodup_nil,fun a h=>by cases h⟩⟩,⟨fun b o e=>?_,fun b o e=>?_⟩,S'.os,.of_eq S'.gens⟩
 ·exact .bool true
 ·first|rfl|wrow_post
 ·exact(Za4 KX l S' hle e).1
 ·exact(Za4 KX l S' hle e).2
end
end Internal
open PySem PySem.W PyProof.Rows Internal
theorem PySem.Challenge.cw_nn0088_01_holds : PySem.Challenge.rw_nn0088_01.Holds := by
 refine holds_law Zei fun said=>?_
 refine holds_open (q:=qv) (loose:=loo) (Xt:=fun _=>true) (XP:=fun _ _=>True) (YP:=(kHook KU V0 Qv).says) (d:=dl) (kwd:=[]) (N:=7900) left (kHook KU V0 Qv).of (kHook KU V0 Qv).keeps (fun _ _=>trivial) (fun _ _ _ _ _=>trivial) (by kernel_rfl) (by kernel_rfl) (by kernel_rfl) ?_ rfl said (by decide+kernel) Zgx ?_ ?_
 ·exact fun s _=>recFacts_of rfl
 ·w_witness2
 ·exact hcG Zeg (by kernel_rfl)
