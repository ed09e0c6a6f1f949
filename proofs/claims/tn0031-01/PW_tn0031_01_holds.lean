import PyProof.Rows.All
import Wide.All
import OpenK.AllK
import Wide.FinOn
import KE.KNest
import Open.Head
import KE.KBytesCut
import KE.BytesMake
import KE.KBytesWalk
import PyProof.WalksPairs
import PyProof.EnumMake
import KE.KItem
import PyProof.CompFree
import KE.KSortTup
import PyProof.ListStr
import PyProof.Rows.SumAny
import KE.KDflt
import KE.KIsBytes
import PyProof.IsInstanceT
import PySem.Challenge.RW_tn0031_01
set_option maxHeartbeats 4000000
set_option genInjectivity false
set_option genSizeOfSpec false
set_option Elab.async false
set_option maxRecDepth 100000
set_option linter.all false
section
open PySem
namespace Mine
structure Nm where
 c:Nat
noncomputable def dig:Nat→Nat→List Nat
 |0,_=>[]
 |f+1,n=>bif n.beq 0 then[]else n%256::dig f (n/256)
noncomputable def Nm.str(n:Nm):Str:=⟨⟨dig n.c n.c⟩⟩
noncomputable def num:List Nat→Nat
 |[]=>0
 |d::r=>d+256*num r
theorem sU(f n:Nat)(h:n≤f):num (dig f n)=n:=by
 induction f generalizing n with
 |zero=>exact(Nat.le_zero.mp h).symm
 |succ f ih=>
  cases n with
  |zero=>rfl
  |succ n=>
   show(n+1)%256+256*num (dig f ((n+1)/256))=n+1
   rw[ih _ (Nat.le_of_lt_succ (Nat.lt_of_lt_of_le (Nat.div_lt_self (Nat.succ_pos n) (by decide)) h))]
   exact Nat.mod_add_div (n+1) 256
theorem str_inj{a b:Nm}(h:a.str=b.str):a=b:=by
 have:=congrArg (λs:Str=>num s.cps.toList) h
 rw[show num a.str.cps.toList=a.c from sU _ _ (Nat.le_refl _),show num b.str.cps.toList=b.c from sU _ _ (Nat.le_refl _)]at this
 cases a;cases b;cases this;rfl
theorem fp{a b:Nm}:a.c.beq b.c=true↔a=b:=⟨λh=>by cases a;cases b;cases Nat.eq_of_beq_eq_true h;rfl,λh=>h▸Nat.beq_refl _⟩
theorem Lm{a b:Nm}(h:a≠b):a.c.beq b.c=false:=Bool.eq_false_iff.mpr λq=>h (fp.mp q)
inductive Cl where
 |b8|cm|Parts|aM|aK|bI|Descriptors|Process|Table|L|S|D|B
 deriving DecidableEq
inductive MV where
 |none
 |bool(b:Bool)
 |int(i:Int)
 |str(n:Nm)
 |bytes(b:List UInt8)
 |tup(vs:List MV)
 |lst(vs:List MV)
 |ref(c:Cl)(k:Nat)
abbrev Loc:=List (Nm×MV)
inductive MO where
 |inst(fs:Loc)
 |list(vs:List MV)
 |bu(fs:Loc)
 |dy(fs:List (Int×MV))
 |dD(bs:List UInt8)
structure Hp where
 o:Cl→Nat→MO
 n:Cl→Nat
noncomputable def Hp.set(H:Hp)(c:Cl)(k:Nat)(v:MO):Hp:={H with o:=λc' a=>if c'=c∧a=k then v else H.o c' a}
noncomputable def Hp.new(H:Hp)(c:Cl)(v:MO):Hp:=⟨λc' a=>if c'=c∧a=H.n c then v else H.o c' a,λc'=>if c'=c then H.n c+1 else H.n c'⟩
noncomputable def look(n:Nm):Loc→Option MV
 |[]=>none
 |(m,v)::r=>bif m.c.beq n.c then some v else look n r
noncomputable def put(n:Nm)(v:MV):Loc→Loc
 |[]=>[(n,v)]
 |(m,u)::r=>bif m.c.beq n.c then(n,v)::r else(m,u)::put n v r
inductive Fl where
 |next
 |brk
 |cont
 |ret(v:MV)
inductive It where
 |tup(vs:List MV)
 |nC(vs:List MV)
 |yM(bs:List UInt8)
 |ny(lo hi:Int)
 |lst(k j:Nat)
 |enum(k j:Nat)
theorem p3(n m:Nm)(v:MV)(ρ:Loc):look m (put n v ρ)=bif n.c.beq m.c then some v else look m ρ:=by
 induction ρ with
 |nil=>rfl
 |cons p r ih=>
  show look m (bif p.1.c.beq n.c then(n,v)::r else p::put n v r)=bif _ then _ else bif p.1.c.beq m.c then some p.2 else look m r
  cases h:p.1.c.beq n.c with
  |true=>
   cases fp.mp h
   show(bif p.1.c.beq m.c then some v else look m r)=_
   cases p.1.c.beq m.c<;>rfl
  |false=>
   show(bif p.1.c.beq m.c then some p.2 else look m (put n v r))=_
   rw[ih]
   cases e:p.1.c.beq m.c with
   |true=>
    cases fp.mp e
    cases q:n.c.beq p.1.c with
    |true=>cases fp.mp q;rw[Nat.beq_refl]at h;cases h
    |false=>rfl
   |false=>rfl
theorem jF{n m:Nm}(h:n≠m)(v:MV)(ρ:Loc):look m (put n v ρ)=look m ρ:=by rw[p3,Lm h];rfl
theorem g9(n:Nm)(v:MV)(ρ:Loc):look n (put n v ρ)=some v:=by rw[p3,Nat.beq_refl];rfl
theorem E5(n:Nm)(v:MV)(ρ:Loc):(put n v ρ).length=if(look n ρ).isSome then ρ.length else ρ.length+1:=by
 induction ρ with
 |nil=>rfl
 |cons p r ih=>
  obtain⟨k,u⟩:=p
  show(bif k.c.beq n.c then _ else _:Loc).length=if(bif k.c.beq n.c then some u else look n r).isSome then _ else _
  cases k.c.beq n.c with
  |true=>rfl
  |false=>show(put n v r).length+1=_;rw[ih];show _=if(look n r).isSome then _ else _;split<;>rfl
end Mine
end
section
open PySem PySem.W PyProof.Rows
namespace Mine
noncomputable abbrev pw:Program:=PySem.Challenge.pw_tn0031_01
noncomputable def rh(i:Nat):Stmt:=(pw.main.body[i]?).getD (.Pass ⟨0,0,0,0⟩)
noncomputable def dM(i j:Nat):Stmt:=match rh i with
 | .ClassDef _ _ _ b _ _ _ _ _ _ _=>(b[j]?).getD (.Pass ⟨0,0,0,0⟩)
 |s=>s
noncomputable def en(P:Params)(x:Str)(t:Nat)(v:Value):DictEntry:=⟨PyData.keyHash P x,.str x t,v⟩
noncomputable def fnAt(name qual:Str)(s:Stmt)(c doc pm cd:Value):FuncData:=match s with
 | .FunctionDef _ a b _ _ _ sc _ _ _=>{name,qualname:=qual,params:=a,body:=.stmts b,scope:=sc,globals:=mainGlobals,closure:=[],defaults:=c,kwdefaults:=.none,doc,pyModule:=pm,annotations:=none,code:=cd,closureTuple:=.none,builtins:=builtinsNs}
 |_=>default
noncomputable def zv:Nat→Value
 |0=>.none
 |k+1=>.ref (k+1)
noncomputable def zl(l:List Nat)(i:Nat):Value:=zv ((l[i]?).getD 0)
noncomputable def Om:Value:=.str "__main__" 164
noncomputable def Oo:Value:=.str "pipeboard.errors" 194
noncomputable def Bq:Value:=.str "pipeboard.pipes" 288
noncomputable def rj:Value:=.str "pipeboard.calls" 442
noncomputable def nz:Value:=.str "pipeboard.files" 693
noncomputable def md5:Value:=.str "pipeboard.procs" 1014
noncomputable def uV:Value:=.str "law_tn0031_01" 1297
noncomputable def cf(a:Nat)(x q:Str)(n m l k:Nat)(r:List Nat)(s:Stmt)(d:Nat)(b:Value):Frag:=[(a,⟨.type "code",none,.fields #[.str x n,.str q (n+1),.str "/claim/cut.py" (n+2),.int l 0,.int k 0,.int 0 0,.int 0 0,.int 3 0,zl r 0,.bool true,.int 181 0,zl r 1,zl r 2,zl r 3,zl r 4,zl r 5,.int m 0,.int l 0,.str "/claim/cut.py" (m+1)], #[]⟩),(a+1,⟨.type "function",none,.func (fnAt x q s (zv d) .none b (.ref a)), #[]⟩)]
noncomputable def Kf(P:Params):Frag:=List.flatten ([
 [(3,⟨.type "dict",none,.dict #[en P "__name__" 165 (.str "law_tn0031_01" 1297),en P "__doc__" 166 (.none),en P "__package__" 167 (.none),en P "__loader__" 168 (.builtin "__main__.__loader__#opaque"),en P "__spec__" 169 (.none),en P "__annotations__" 170 (.ref 6),en P "__builtins__" 171 (.ref 4),en P "__file__" 173 (.str "/claim/cut.py" 172),en P "__cached__" 174 (.none),en P "_wall" 193 (.ref 21),en P "BoardError" 223 (.ref 39),en P "BadArgument" 239 (.ref 52),en P "NoRoom" 255 (.ref 64),en P "BadCall" 271 (.ref 76),en P "Stuck" 287 (.ref 88),en P "DONE" 291 (.int 0 290),en P "SLEEP" 293 (.int 1 292),en P "BROKEN" 295 (.int 2 294),en P "READ_CHANNEL" 297 (.int 0 296),en P "WRITE_CHANNEL" 299 (.int 1 298),en P "Pipe" 385 (.ref 150),en P "PipeTable" 441 (.ref 193),en P "TICKS" 445 (.ref 198),en P "octets_of" 451 (.ref 203),en P "Parts" 491 (.ref 221),en P "ProcessCalls" 692 (.ref 368),en P "PIPE" 696 (.str "pipe" 695),en P "NODE" 698 (.str "node" 697),en P "DEVICE" 700 (.str "device" 699),en P "OpenFile" 753 (.ref 403),en P "FileTable" 925 (.ref 527),en P "Descriptors" 1013 (.ref 594),en P "UNUSED" 1017 (.str "unused" 1016),en P "FRESH" 1019 (.str "fresh" 1018),en P "READY" 1021 (.str "ready" 1020),en P "RUNNING" 1023 (.str "running" 1022),en P "SLEEPING" 1025 (.str "sleeping" 1024),en P "ZOMBIE" 1027 (.str "zombie" 1026),en P "A0" 1029 (.int 10 1028),en P "Process" 1112 (.ref 651),en P "Table" 1296 (.ref 792),en P "_law_box" 1308 (.ref 803),en P "_law_take" 1317 (.ref 810),en P "_law_sown" 1332 (.ref 817),en P "_law_named" 1338 (.ref 822),en P "_law_seen" 1348 (.ref 829),en P "_law_member" 1361 (.ref 836),en P "_law_ring" 1378 (.ref 843),en P "_law_met" 1385 (.ref 850),en P "_law_ends" 1394 (.ref 857),en P "_law_writes" 1406 (.ref 864),en P "_law_reads" 1412 (.ref 869),en P "_law_turn_right" 1420 (.ref 876),en P "_law_ready" 1426 (.ref 881),en P "_law_held" 1432 (.ref 886),en P "_law_goes_around" 1447 (.ref 893),en P "_law_one_ends" 1457 (.ref 900),en P "_law_rest_ends" 1463 (.ref 905),en P "law" 1469 (.ref 910)] 59, #[]⟩)],
 cf 20 "_wall" "_wall" 187 191 1 1 [15,16,0,17,18,19] (rh 0) 0 Om,
 [(29,⟨.type "tuple",none,.seq #[.str "" 208] 0, #[]⟩)],
 cf 35 "__init__" "BoardError.__init__" 209 214 7 2 [30,31,0,32,33,34] (dM 2 0) 29 Oo,
 [(38,⟨.type "dict",none,.dict #[en P "__module__" 203 (.str "pipeboard.errors" 194),en P "__firstlineno__" 207 (.int 5 206),en P "__init__" 216 (.ref 36),en P "__static_attributes__" 218 (.ref 37),en P "__weakref__" 220 (.ref 40),en P "__doc__" 221 (.none)] 3, #[]⟩),
 (39,⟨.type "type",none,.cls {name:= "BoardError",bases:=[.type "ValueError"],mro:=[.ref 39,.type "ValueError",.type "Exception",.type "BaseException",.type "object"],ns:=38,qualname:= "BoardError",hasDict:=true,slotNames:=[],subclasses:=[.ref 52,.ref 64,.ref 76,.ref 88],abstract:=false,collection:=none,hasDel:=false}, #[some (.ref 22),none,some (.str "BoardError" 196),some (.str "BoardError" 204),some (.builtin "ValueError.__new__"),some (.bool true)]⟩),
 (51,⟨.type "dict",none,.dict #[en P "__module__" 231 (.str "pipeboard.errors" 194),en P "__firstlineno__" 235 (.int 10 234),en P "__static_attributes__" 236 (.ref 50),en P "__doc__" 237 (.none)] 2, #[]⟩),
 (52,⟨.type "type",none,.cls {name:= "BadArgument",bases:=[.ref 39],mro:=[.ref 52,.ref 39,.type "ValueError",.type "Exception",.type "BaseException",.type "object"],ns:=51,qualname:= "BadArgument",hasDict:=true,slotNames:=[],subclasses:=[],abstract:=false,collection:=none,hasDel:=false}, #[some (.ref 43),none,some (.str "BadArgument" 224),some (.str "BadArgument" 232),some (.builtin "ValueError.__new__"),some (.bool true)]⟩),
 (63,⟨.type "dict",none,.dict #[en P "__module__" 247 (.str "pipeboard.errors" 194),en P "__firstlineno__" 251 (.int 12 250),en P "__static_attributes__" 252 (.ref 62),en P "__doc__" 253 (.none)] 2, #[]⟩),
 (64,⟨.type "type",none,.cls {name:= "NoRoom",bases:=[.ref 39],mro:=[.ref 64,.ref 39,.type "ValueError",.type "Exception",.type "BaseException",.type "object"],ns:=63,qualname:= "NoRoom",hasDict:=true,slotNames:=[],subclasses:=[],abstract:=false,collection:=none,hasDel:=false}, #[some (.ref 55),none,some (.str "NoRoom" 240),some (.str "NoRoom" 248),some (.builtin "ValueError.__new__"),some (.bool true)]⟩),
 (75,⟨.type "dict",none,.dict #[en P "__module__" 263 (.str "pipeboard.errors" 194),en P "__firstlineno__" 267 (.int 14 266),en P "__static_attributes__" 268 (.ref 74),en P "__doc__" 269 (.none)] 2, #[]⟩),
 (76,⟨.type "type",none,.cls {name:= "BadCall",bases:=[.ref 39],mro:=[.ref 76,.ref 39,.type "ValueError",.type "Exception",.type "BaseException",.type "object"],ns:=75,qualname:= "BadCall",hasDict:=true,slotNames:=[],subclasses:=[],abstract:=false,collection:=none,hasDel:=false}, #[some (.ref 67),none,some (.str "BadCall" 256),some (.str "BadCall" 264),some (.builtin "ValueError.__new__"),some (.bool true)]⟩),
 (87,⟨.type "dict",none,.dict #[en P "__module__" 279 (.str "pipeboard.errors" 194),en P "__firstlineno__" 283 (.int 16 282),en P "__static_attributes__" 284 (.ref 86),en P "__doc__" 285 (.none)] 2, #[]⟩),
 (88,⟨.type "type",none,.cls {name:= "Stuck",bases:=[.ref 39],mro:=[.ref 88,.ref 39,.type "ValueError",.type "Exception",.type "BaseException",.type "object"],ns:=87,qualname:= "Stuck",hasDict:=true,slotNames:=[],subclasses:=[],abstract:=false,collection:=none,hasDel:=false}, #[some (.ref 79),none,some (.str "Stuck" 272),some (.str "Stuck" 280),some (.builtin "ValueError.__new__"),some (.bool true)]⟩),
 (98,⟨.type "tuple",none,.seq #[.int 512 312] 0, #[]⟩)],
 cf 104 "__init__" "Pipe.__init__" 313 319 26 3 [99,100,0,101,102,103] (dM 13 0) 98 Bq,
 cf 111 "waiting" "Pipe.waiting" 322 326 37 1 [106,107,0,108,109,110] (dM 13 1) 0 Bq,
 cf 118 "room" "Pipe.room" 329 333 40 1 [113,114,0,115,116,117] (dM 13 2) 0 Bq,
 cf 125 "channel" "Pipe.channel" 336 341 43 2 [120,121,0,122,123,124] (dM 13 3) 0 Bq,
 cf 132 "write" "Pipe.write" 344 351 46 2 [127,128,0,129,130,131] (dM 13 4) 0 Bq,
 cf 139 "read" "Pipe.read" 354 360 55 2 [134,135,0,136,137,138] (dM 13 5) 0 Bq,
 cf 146 "close" "Pipe.close" 363 368 64 2 [141,142,0,143,144,145] (dM 13 6) 0 Bq,
 [(149,⟨.type "dict",none,.dict #[en P "__module__" 307 (.str "pipeboard.pipes" 288),en P "__firstlineno__" 311 (.int 24 310),en P "__init__" 321 (.ref 105),en P "waiting" 328 (.ref 112),en P "room" 335 (.ref 119),en P "channel" 343 (.ref 126),en P "write" 353 (.ref 133),en P "read" 362 (.ref 140),en P "close" 370 (.ref 147),en P "__static_attributes__" 378 (.ref 148),en P "__dict__" 380 (.ref 151),en P "__weakref__" 382 (.ref 152),en P "__doc__" 383 (.none)] 4, #[]⟩),
 (150,⟨.type "type",none,.cls {name:= "Pipe",bases:=[.type "object"],mro:=[.ref 150,.type "object"],ns:=149,qualname:= "Pipe",hasDict:=true,slotNames:=[],subclasses:=[],abstract:=false,collection:=none,hasDel:=false}, #[none,none,some (.str "Pipe" 300),some (.str "Pipe" 308),some (.builtin "object.__new__"),some (.bool true)]⟩),
 (162,⟨.type "tuple",none,.seq #[.int 512 398] 0, #[]⟩)],
 cf 168 "__init__" "PipeTable.__init__" 399 404 74 2 [163,164,0,165,166,167] (dM 14 0) 162 Bq,
 cf 175 "make" "PipeTable.make" 407 412 79 1 [170,171,0,172,173,174] (dM 14 1) 0 Bq,
 cf 182 "close" "PipeTable.close" 415 421 85 3 [177,178,0,179,180,181] (dM 14 2) 0 Bq,
 cf 189 "count" "PipeTable.count" 424 428 89 1 [184,185,0,186,187,188] (dM 14 3) 0 Bq,
 [(192,⟨.type "dict",none,.dict #[en P "__module__" 393 (.str "pipeboard.pipes" 288),en P "__firstlineno__" 397 (.int 72 396),en P "__init__" 406 (.ref 169),en P "make" 414 (.ref 176),en P "close" 423 (.ref 183),en P "count" 430 (.ref 190),en P "__static_attributes__" 434 (.ref 191),en P "__dict__" 436 (.ref 194),en P "__weakref__" 438 (.ref 195),en P "__doc__" 439 (.none)] 4, #[]⟩),
 (193,⟨.type "type",none,.cls {name:= "PipeTable",bases:=[.type "object"],mro:=[.ref 193,.type "object"],ns:=192,qualname:= "PipeTable",hasDict:=true,slotNames:=[],subclasses:=[],abstract:=false,collection:=none,hasDel:=false}, #[none,none,some (.str "PipeTable" 386),some (.str "PipeTable" 394),some (.builtin "object.__new__"),some (.bool true)]⟩)],
 cf 202 "octets_of" "octets_of" 446 449 93 1 [199,200,0,0,0,201] (rh 17) 0 rj,
 [(211,⟨.type "tuple",none,.seq #[.none,.none,.none,.none] 0, #[]⟩)],
 cf 217 "__init__" "Parts.__init__" 464 474 103 7 [212,213,0,214,215,216] (dM 18 0) 211 rj,
 [(220,⟨.type "dict",none,.dict #[en P "__module__" 459 (.str "pipeboard.calls" 442),en P "__firstlineno__" 463 (.int 101 462),en P "__init__" 476 (.ref 218),en P "__static_attributes__" 484 (.ref 219),en P "__dict__" 486 (.ref 222),en P "__weakref__" 488 (.ref 223),en P "__doc__" 489 (.none)] 4, #[]⟩),
 (221,⟨.type "type",none,.cls {name:= "Parts",bases:=[.type "object"],mro:=[.ref 221,.type "object"],ns:=220,qualname:= "Parts",hasDict:=true,slotNames:=[],subclasses:=[],abstract:=false,collection:=none,hasDel:=false}, #[none,none,some (.str "Parts" 452),some (.str "Parts" 460),some (.builtin "object.__new__"),some (.bool true)]⟩)],
 cf 238 "__init__" "ProcessCalls.__init__" 504 509 113 2 [233,234,0,235,236,237] (dM 19 0) 0 rj,
 cf 245 "process" "ProcessCalls.process" 512 518 116 2 [240,241,0,242,243,244] (dM 19 1) 0 rj,
 cf 252 "sleep_on" "ProcessCalls.sleep_on" 521 527 122 3 [247,248,0,249,250,251] (dM 19 2) 0 rj,
 cf 259 "journaled" "ProcessCalls.journaled" 530 535 129 2 [254,255,0,256,257,258] (dM 19 3) 0 rj,
 cf 266 "getpid" "ProcessCalls.getpid" 538 543 136 2 [261,262,0,263,264,265] (dM 19 4) 0 rj,
 cf 273 "fork" "ProcessCalls.fork" 546 552 139 2 [268,269,0,270,271,272] (dM 19 5) 0 rj,
 cf 280 "let_go" "ProcessCalls.let_go" 555 564 145 2 [275,276,0,277,278,279] (dM 19 6) 0 rj,
 cf 287 "exit" "ProcessCalls.exit" 567 573 153 3 [282,283,0,284,285,286] (dM 19 7) 0 rj,
 cf 294 "wait" "ProcessCalls.wait" 576 581 161 2 [289,290,0,291,292,293] (dM 19 8) 0 rj,
 cf 301 "kill" "ProcessCalls.kill" 584 590 164 3 [296,297,0,298,299,300] (dM 19 9) 0 rj,
 cf 308 "uptime" "ProcessCalls.uptime" 593 598 170 2 [303,304,0,305,306,307] (dM 19 10) 0 rj,
 cf 315 "sleep" "ProcessCalls.sleep" 601 607 173 3 [310,311,0,312,313,314] (dM 19 11) 0 rj,
 cf 322 "close" "ProcessCalls.close" 610 617 181 3 [317,318,0,319,320,321] (dM 19 12) 0 rj,
 cf 329 "let_close" "ProcessCalls.let_close" 620 626 186 2 [324,325,0,326,327,328] (dM 19 13) 0 rj,
 cf 336 "dup" "ProcessCalls.dup" 629 635 193 3 [331,332,0,333,334,335] (dM 19 14) 0 rj,
 cf 343 "pipe" "ProcessCalls.pipe" 638 645 196 2 [338,339,0,340,341,342] (dM 19 15) 0 rj,
 cf 350 "fstat" "ProcessCalls.fstat" 648 654 202 3 [345,346,0,347,348,349] (dM 19 16) 0 rj,
 cf 357 "read" "ProcessCalls.read" 657 667 205 4 [352,353,0,354,355,356] (dM 19 17) 0 rj,
 cf 364 "write" "ProcessCalls.write" 670 681 216 4 [359,360,0,361,362,363] (dM 19 18) 0 rj,
 [(367,⟨.type "dict",none,.dict #[en P "__module__" 499 (.str "pipeboard.calls" 442),en P "__firstlineno__" 503 (.int 111 502),en P "__init__" 511 (.ref 239),en P "process" 520 (.ref 246),en P "sleep_on" 529 (.ref 253),en P "journaled" 537 (.ref 260),en P "getpid" 545 (.ref 267),en P "fork" 554 (.ref 274),en P "let_go" 566 (.ref 281),en P "exit" 575 (.ref 288),en P "wait" 583 (.ref 295),en P "kill" 592 (.ref 302),en P "uptime" 600 (.ref 309),en P "sleep" 609 (.ref 316),en P "close" 619 (.ref 323),en P "let_close" 628 (.ref 330),en P "dup" 637 (.ref 337),en P "pipe" 647 (.ref 344),en P "fstat" 656 (.ref 351),en P "read" 669 (.ref 358),en P "write" 683 (.ref 365),en P "__static_attributes__" 685 (.ref 366),en P "__dict__" 687 (.ref 369),en P "__weakref__" 689 (.ref 370),en P "__doc__" 690 (.none)] 4, #[]⟩),
 (368,⟨.type "type",none,.cls {name:= "ProcessCalls",bases:=[.type "object"],mro:=[.ref 368,.type "object"],ns:=367,qualname:= "ProcessCalls",hasDict:=true,slotNames:=[],subclasses:=[],abstract:=false,collection:=none,hasDel:=false}, #[none,none,some (.str "ProcessCalls" 492),some (.str "ProcessCalls" 500),some (.builtin "object.__new__"),some (.bool true)]⟩)],
 cf 385 "__init__" "OpenFile.__init__" 713 720 236 4 [380,381,0,382,383,384] (dM 24 0) 0 nz,
 cf 392 "side" "OpenFile.side" 723 727 246 1 [387,388,0,389,390,391] (dM 24 1) 0 nz,
 cf 399 "back" "OpenFile.back" 730 735 249 2 [394,395,0,396,397,398] (dM 24 2) 0 nz,
 [(402,⟨.type "dict",none,.dict #[en P "__module__" 708 (.str "pipeboard.files" 693),en P "__firstlineno__" 712 (.int 234 711),en P "__init__" 722 (.ref 386),en P "side" 729 (.ref 393),en P "back" 737 (.ref 400),en P "__static_attributes__" 746 (.ref 401),en P "__dict__" 748 (.ref 404),en P "__weakref__" 750 (.ref 405),en P "__doc__" 751 (.none)] 4, #[]⟩),
 (403,⟨.type "type",none,.cls {name:= "OpenFile",bases:=[.type "object"],mro:=[.ref 403,.type "object"],ns:=402,qualname:= "OpenFile",hasDict:=true,slotNames:=[],subclasses:=[],abstract:=false,collection:=none,hasDel:=false}, #[none,none,some (.str "OpenFile" 701),some (.str "OpenFile" 709),some (.builtin "object.__new__"),some (.bool true)]⟩)],
 cf 420 "__init__" "FileTable.__init__" 766 776 254 7 [415,416,0,417,418,419] (dM 25 0) 0 nz,
 cf 427 "count" "FileTable.count" 779 783 265 1 [422,423,0,424,425,426] (dM 25 1) 0 nz,
 cf 434 "need_room" "FileTable.need_room" 786 791 268 2 [429,430,0,431,432,433] (dM 25 2) 0 nz,
 cf 441 "enter" "FileTable.enter" 794 799 272 2 [436,437,0,438,439,440] (dM 25 3) 0 nz,
 cf 448 "open_pipe" "FileTable.open_pipe" 802 810 277 1 [443,444,0,445,446,447] (dM 25 4) 0 nz,
 cf 455 "open_node" "FileTable.open_node" 813 820 287 4 [450,451,0,452,453,454] (dM 25 5) 0 nz,
 cf 462 "open_device" "FileTable.open_device" 823 830 290 4 [457,458,0,459,460,461] (dM 25 6) 0 nz,
 cf 469 "share" "FileTable.share" 833 838 293 2 [464,465,0,466,467,468] (dM 25 7) 0 nz,
 cf 474 "close" "FileTable.close" 841 844 299 2 [471,472,0,0,0,473] (dM 25 8) 0 nz,
 cf 481 "device" "FileTable.device" 847 852 316 2 [476,477,0,478,479,480] (dM 25 9) 0 nz,
 cf 488 "read" "FileTable.read" 855 862 321 3 [483,484,0,485,486,487] (dM 25 10) 0 nz,
 cf 495 "piece" "FileTable.piece" 865 869 332 1 [490,491,0,492,493,494] (dM 25 11) 0 nz,
 cf 502 "write" "FileTable.write" 872 881 335 3 [497,498,0,499,500,501] (dM 25 12) 0 nz,
 cf 509 "write_piece" "FileTable.write_piece" 884 891 351 3 [504,505,0,506,507,508] (dM 25 13) 0 nz,
 cf 516 "stat" "FileTable.stat" 894 899 362 2 [511,512,0,513,514,515] (dM 25 14) 0 nz,
 cf 523 "waits_for" "FileTable.waits_for" 902 908 365 3 [518,519,0,520,521,522] (dM 25 15) 0 nz,
 [(526,⟨.type "dict",none,.dict #[en P "__module__" 761 (.str "pipeboard.files" 693),en P "__firstlineno__" 765 (.int 252 764),en P "__init__" 778 (.ref 421),en P "count" 785 (.ref 428),en P "need_room" 793 (.ref 435),en P "enter" 801 (.ref 442),en P "open_pipe" 812 (.ref 449),en P "open_node" 822 (.ref 456),en P "open_device" 832 (.ref 463),en P "share" 840 (.ref 470),en P "close" 846 (.ref 475),en P "device" 854 (.ref 482),en P "read" 864 (.ref 489),en P "piece" 871 (.ref 496),en P "write" 883 (.ref 503),en P "write_piece" 893 (.ref 510),en P "stat" 901 (.ref 517),en P "waits_for" 910 (.ref 524),en P "__static_attributes__" 918 (.ref 525),en P "__dict__" 920 (.ref 528),en P "__weakref__" 922 (.ref 529),en P "__doc__" 923 (.none)] 4, #[]⟩),
 (527,⟨.type "type",none,.cls {name:= "FileTable",bases:=[.type "object"],mro:=[.ref 527,.type "object"],ns:=526,qualname:= "FileTable",hasDict:=true,slotNames:=[],subclasses:=[],abstract:=false,collection:=none,hasDel:=false}, #[none,none,some (.str "FileTable" 754),some (.str "FileTable" 762),some (.builtin "object.__new__"),some (.bool true)]⟩),
 (539,⟨.type "tuple",none,.seq #[.int 16 938] 0, #[]⟩)],
 cf 545 "__init__" "Descriptors.__init__" 939 944 371 2 [540,541,0,542,543,544] (dM 26 0) 539 nz,
 cf 552 "put" "Descriptors.put" 947 953 377 2 [547,548,0,549,550,551] (dM 26 1) 0 nz,
 cf 557 "free" "Descriptors.free" 956 959 384 1 [554,555,0,0,0,556] (dM 26 2) 0 nz,
 cf 564 "get" "Descriptors.get" 962 967 387 2 [559,560,0,561,562,563] (dM 26 3) 0 nz,
 cf 571 "take" "Descriptors.take" 970 976 392 2 [566,567,0,568,569,570] (dM 26 4) 0 nz,
 cf 576 "all_files" "Descriptors.all_files" 979 982 397 1 [573,574,0,0,0,575] (dM 26 5) 0 nz,
 cf 583 "copy" "Descriptors.copy" 985 993 400 2 [578,579,0,580,581,582] (dM 26 6) 0 nz,
 cf 590 "close_all" "Descriptors.close_all" 996 1001 406 2 [585,586,0,587,588,589] (dM 26 7) 0 nz,
 [(593,⟨.type "dict",none,.dict #[en P "__module__" 933 (.str "pipeboard.files" 693),en P "__firstlineno__" 937 (.int 369 936),en P "__init__" 946 (.ref 546),en P "put" 955 (.ref 553),en P "free" 961 (.ref 558),en P "get" 969 (.ref 565),en P "take" 978 (.ref 572),en P "all_files" 984 (.ref 577),en P "copy" 995 (.ref 584),en P "close_all" 1003 (.ref 591),en P "__static_attributes__" 1006 (.ref 592),en P "__dict__" 1008 (.ref 595),en P "__weakref__" 1010 (.ref 596),en P "__doc__" 1011 (.none)] 4, #[]⟩),
 (594,⟨.type "type",none,.cls {name:= "Descriptors",bases:=[.type "object"],mro:=[.ref 594,.type "object"],ns:=593,qualname:= "Descriptors",hasDict:=true,slotNames:=[],subclasses:=[],abstract:=false,collection:=none,hasDel:=false}, #[none,none,some (.str "Descriptors" 926),some (.str "Descriptors" 934),some (.builtin "object.__new__"),some (.bool true)]⟩)],
 cf 611 "__init__" "Process.__init__" 1042 1047 418 2 [606,607,0,608,609,610] (dM 35 0) 0 md5,
 cf 618 "clear" "Process.clear" 1050 1054 422 1 [613,614,0,615,616,617] (dM 35 1) 0 md5,
 cf 625 "is_there" "Process.is_there" 1057 1061 442 1 [620,621,0,622,623,624] (dM 35 2) 0 md5,
 cf 632 "is_alive" "Process.is_alive" 1064 1068 445 1 [627,628,0,629,630,631] (dM 35 3) 0 md5,
 cf 639 "size" "Process.size" 1071 1075 448 1 [634,635,0,636,637,638] (dM 35 4) 0 md5,
 cf 647 "row" "Process.row" 1079 1083 452 1 [642,643,0,644,645,646] (dM 35 5) 0 md5,
 [(650,⟨.type "dict",none,.dict #[en P "__module__" 1037 (.str "pipeboard.procs" 1014),en P "__firstlineno__" 1041 (.int 416 1040),en P "__init__" 1049 (.ref 612),en P "clear" 1056 (.ref 619),en P "is_there" 1063 (.ref 626),en P "is_alive" 1070 (.ref 633),en P "size" 1078 (.ref 641),en P "row" 1085 (.ref 648),en P "__static_attributes__" 1105 (.ref 649),en P "__dict__" 1107 (.ref 652),en P "__weakref__" 1109 (.ref 653),en P "__doc__" 1110 (.none)] 4, #[]⟩),
 (651,⟨.type "type",none,.cls {name:= "Process",bases:=[.type "object"],mro:=[.ref 651,.type "object"],ns:=650,qualname:= "Process",hasDict:=true,slotNames:=[],subclasses:=[],abstract:=false,collection:=none,hasDel:=false}, #[none,none,some (.str "Process" 1030),some (.str "Process" 1038),some (.builtin "object.__new__"),some (.bool true)]⟩)],
 cf 666 "__init__" "Table.__init__" 1125 1128 456 2 [663,664,0,0,0,665] (dM 36 0) 0 md5,
 cf 673 "free_place" "Table.free_place" 1131 1136 463 1 [668,669,0,670,671,672] (dM 36 1) 0 md5,
 [(675,⟨.type "tuple",none,.seq #[.str "" 1139] 0, #[]⟩)],
 cf 681 "new" "Table.new" 1140 1146 469 2 [676,677,0,678,679,680] (dM 36 2) 675 md5,
 cf 688 "find" "Table.find" 1149 1155 480 2 [683,684,0,685,686,687] (dM 36 3) 0 md5,
 cf 693 "all" "Table.all" 1158 1161 486 1 [690,691,0,0,0,692] (dM 36 4) 0 md5,
 cf 698 "children" "Table.children" 1164 1167 489 2 [695,696,0,0,0,697] (dM 36 5) 0 md5,
 cf 705 "ready" "Table.ready" 1170 1175 492 2 [700,701,0,702,703,704] (dM 36 6) 0 md5,
 cf 712 "next" "Table.next" 1178 1185 498 1 [707,708,0,709,710,711] (dM 36 7) 0 md5,
 cf 719 "need_next" "Table.need_next" 1188 1192 510 1 [714,715,0,716,717,718] (dM 36 8) 0 md5,
 [(721,⟨.type "tuple",none,.seq #[.none] 0, #[]⟩)],
 cf 727 "fork" "Table.fork" 1195 1202 513 3 [722,723,0,724,725,726] (dM 36 9) 721 md5,
 cf 734 "reparent" "Table.reparent" 1205 1211 529 2 [729,730,0,731,732,733] (dM 36 10) 0 md5,
 cf 741 "channel_of" "Table.channel_of" 1214 1219 535 2 [736,737,0,738,739,740] (dM 36 11) 0 md5,
 cf 748 "exit" "Table.exit" 1222 1228 538 3 [743,744,0,745,746,747] (dM 36 12) 0 md5,
 cf 755 "reap" "Table.reap" 1231 1237 550 2 [750,751,0,752,753,754] (dM 36 13) 0 md5,
 cf 762 "wait" "Table.wait" 1240 1247 557 2 [757,758,0,759,760,761] (dM 36 14) 0 md5,
 cf 769 "sleep" "Table.sleep" 1250 1256 567 3 [764,765,0,766,767,768] (dM 36 15) 0 md5,
 cf 776 "wakeup" "Table.wakeup" 1259 1266 573 2 [771,772,0,773,774,775] (dM 36 16) 0 md5,
 cf 783 "kill" "Table.kill" 1269 1275 581 2 [778,779,0,780,781,782] (dM 36 17) 0 md5,
 cf 788 "rows" "Table.rows" 1278 1281 589 1 [785,786,0,0,0,787] (dM 36 18) 0 md5,
 [(791,⟨.type "dict",none,.dict #[en P "__module__" 1120 (.str "pipeboard.procs" 1014),en P "__firstlineno__" 1124 (.int 454 1123),en P "__init__" 1130 (.ref 667),en P "free_place" 1138 (.ref 674),en P "new" 1148 (.ref 682),en P "find" 1157 (.ref 689),en P "all" 1163 (.ref 694),en P "children" 1169 (.ref 699),en P "ready" 1177 (.ref 706),en P "next" 1187 (.ref 713),en P "need_next" 1194 (.ref 720),en P "fork" 1204 (.ref 728),en P "reparent" 1213 (.ref 735),en P "channel_of" 1221 (.ref 742),en P "exit" 1230 (.ref 749),en P "reap" 1239 (.ref 756),en P "wait" 1249 (.ref 763),en P "sleep" 1258 (.ref 770),en P "wakeup" 1268 (.ref 777),en P "kill" 1277 (.ref 784),en P "rows" 1283 (.ref 789),en P "__static_attributes__" 1289 (.ref 790),en P "__dict__" 1291 (.ref 793),en P "__weakref__" 1293 (.ref 794),en P "__doc__" 1294 (.none)] 4, #[]⟩),
 (792,⟨.type "type",none,.cls {name:= "Table",bases:=[.type "object"],mro:=[.ref 792,.type "object"],ns:=791,qualname:= "Table",hasDict:=true,slotNames:=[],subclasses:=[],abstract:=false,collection:=none,hasDel:=false}, #[none,none,some (.str "Table" 1113),some (.str "Table" 1121),some (.builtin "object.__new__"),some (.bool true)]⟩)],
 cf 802 "_law_box" "_law_box" 1299 1306 592 1 [797,798,0,799,800,801] (rh 38) 0 uV,
 cf 809 "_law_take" "_law_take" 1309 1315 599 2 [804,805,0,806,807,808] (rh 39) 0 uV,
 cf 816 "_law_sown" "_law_sown" 1318 1330 606 3 [811,812,0,813,814,815] (rh 40) 0 uV,
 cf 821 "_law_named" "_law_named" 1333 1336 619 1 [818,819,0,0,0,820] (rh 41) 0 uV,
 cf 828 "_law_seen" "_law_seen" 1339 1346 626 2 [823,824,0,825,826,827] (rh 42) 0 uV,
 cf 835 "_law_member" "_law_member" 1349 1359 631 5 [830,831,0,832,833,834] (rh 43) 0 uV,
 cf 842 "_law_ring" "_law_ring" 1362 1376 636 5 [837,838,0,839,840,841] (rh 44) 0 uV,
 cf 849 "_law_met" "_law_met" 1379 1383 654 1 [844,845,0,846,847,848] (rh 45) 0 uV,
 cf 856 "_law_ends" "_law_ends" 1386 1392 659 2 [851,852,0,853,854,855] (rh 46) 0 uV,
 cf 863 "_law_writes" "_law_writes" 1395 1404 663 2 [858,859,0,860,861,862] (rh 47) 0 uV,
 cf 868 "_law_reads" "_law_reads" 1407 1410 673 2 [865,866,0,0,0,867] (rh 48) 0 uV,
 cf 875 "_law_turn_right" "_law_turn_right" 1413 1418 686 2 [870,871,0,872,873,874] (rh 49) 0 uV,
 cf 880 "_law_ready" "_law_ready" 1421 1424 688 1 [877,878,0,0,0,879] (rh 50) 0 uV,
 cf 885 "_law_held" "_law_held" 1427 1430 691 1 [882,883,0,0,0,884] (rh 51) 0 uV,
 cf 892 "_law_goes_around" "_law_goes_around" 1433 1445 694 4 [887,888,0,889,890,891] (rh 52) 0 uV,
 cf 899 "_law_one_ends" "_law_one_ends" 1448 1455 706 2 [894,895,0,896,897,898] (rh 53) 0 uV,
 cf 904 "_law_rest_ends" "_law_rest_ends" 1458 1461 713 2 [901,902,0,0,0,903] (rh 54) 0 uV,
 cf 909 "law" "law" 1464 1467 730 1 [906,907,0,0,0,908] (rh 55) 0 uV]:List Frag)
end Mine
end
section
open PySem PySem.W PyProof.Rows
open Sem (wp)
namespace Mine
noncomputable def gy:Code→Bool
 | .builtin id _=>Builtin.Bytes.decodersThatHold.contains id
 |_=>false
def Clean(a:Ctx):Prop:=gy a.code=false∧∀q∈a.below,gy q.1=false
theorem Clean.enter{b:Ctx}(h:Clean b){c:Code}(hd:Option Value)(p:Pos)(d:gy c=false):Clean (b.enter c hd p):=
 ⟨d,λq a=>by
  rcases List.mem_cons.mp a with rfl|a
  ·exact h.1
  ·exact h.2 q a⟩
theorem Clean.goto{a:Ctx}(h:Clean a){c:Code}(b:gy c=false):Clean (a.goto c):=⟨b,h.2⟩
def aX{c:Type}(M:Model)(A:Around)(t:Sem c)(Q:c→Shared→Prop)(E:Value→Shared→Prop)(s:Shared):Prop:=
 ∀b p,b.In A→Clean b→wp M b t (λa _ s'=>Q a s') (λe _ s'=>E e s') p s
def cq(M:Model)(A:Around)(c:Code)(R:Result→Shared→Prop)(s:Shared):Prop:=
 ∀a p,a.code=c→a.Below A→Clean a→wpCode M a R p s
section
variable{α β:Type}{M:Model}{A:Around}{E:Value→Shared→Prop}{s:Shared}
theorem aX.of{t:Sem α}{Q:α→Shared→Prop}(h:wpAny M A t Q E s):aX M A t Q E s:=λb p a _=>h b p a
theorem cq.of{c:Code}{R:Result→Shared→Prop}(h:codeAny M A c R s):cq M A c R s:=λb p d a _=>h b p d a
theorem a9{a:α}{Q:α→Shared→Prop}(h:Q a s):aX M A (pure a) Q E s:=λ_ _ _ _=>h
theorem fu{t:Sem α}{Q d:α→Shared→Prop}{f:Value→Shared→Prop}(h:aX M A t Q E s)(i:∀a s,Q a s→d a s)(j:∀e s,E e s→f e s):aX M A t d f s:=
 λc p b g=>Sem.wp_mono M c t (λa _ s=>i a s) (λe _ s=>j e s) p s (h c p b g)
theorem bK{m:Sem α}{f:α→Sem β}{Q:β→Shared→Prop}(h:aX M A m (λa s'=>aX M A (f a) Q E s') E s):aX M A (m>>=f) Q E s:=λc p b d=>by
 rw[Sem.wp_bind']
 exact Sem.wp_mono M c m (λa p' s' h'=>h' c p' b d) (λ_ _ _ h'=>h') p s (h c p b d)
theorem bF{m:Sem α}{f:α→Sem β}{Q:β→Shared→Prop}(h:wpAny M A m (λa s'=>aX M A (f a) Q E s') E s):aX M A (m>>=f) Q E s:=bK (.of h)
theorem b0{vs:List Value}{m:Sem α}{Q:α→Shared→Prop}(h:aX M A m Q E s):aX M A (holding vs m) Q E s:=λb p a c=>by rw[Sem.wp_holding];exact h b p a c
theorem KX{vs:List Value}{m:Sem Value}{Q:Value→Shared→Prop}(h:aX M A m Q E s):aX M A (operate vs m) Q E s:=λb p a c=>by rw[Sem.wp_operate];exact h b p a c
theorem bz{pos:Pos}{f:Unit→Sem β}{Q:β→Shared→Prop}(h:aX M A (f ()) Q E s):aX M A (standAt pos>>=f) Q E s:=bF (wpAny_standAt h)
theorem MN{vs keep:List Value}{f:Unit→Sem β}{Q:β→Shared→Prop}(h:aX M A (f ()) Q E s):aX M A (release vs keep>>=f) Q E s:=bF (wpAny_release' h)
theorem bO{a:α}{f:α→Sem β}{Q:β→Shared→Prop}(h:aX M A (f a) Q E s):aX M A ((pure a:Sem α)>>=f) Q E s:=bF (wpAny_pure h)
theorem nE{m:Sem α}{k:Value→Sem Unit}{Q:α→Shared→Prop}(h:aX M A m Q (λe s'=>aX M A (k e) (λ_ c=>E e c) E s') s):aX M A (m.onRaise k) Q E s:=λb p a d=>by
 rw[Sem.wp_onRaise]
 exact Sem.wp_mono M b m (λ_ _ _ h'=>h') (λe p' s' h'=>h' b p' a d) p s (h b p a d)
theorem l9{m:Sem α}{Q:Except Value α→Shared→Prop}(h:aX M A m (λa=>Q (.ok a)) (λe=>Q (.error e)) s):aX M A m.attempt Q E s:=λc p b d=>by rw[Sem.wp_attempt];exact h c p b d
theorem Ln{c:Code}{h:Option Value}{Q:Flow→Shared→Prop}(g:cq M (A.mark h) c (λr s'=>match r with| .ok f=>Q f s'| .error e=>E e s') s)(hd:gy c=false)(b:h≠some byPass):aX M A (run c h) Q E s:=
 λi p a d=>by rw[Sem.wp_run];exact g _ p rfl (a.enter c h p b) (d.enter h p hd)
theorem z9{c:Code}{Q:Value→Shared→Prop}(d:cq M A c (λr s'=>match r with| .ok (.ret v)=>Q v s'| .ok _=>False| .error e=>E e s') s)(hd:gy c=false):aX M A (runValue c) Q E s:=
 λf p a b=>by rw[Sem.wp_runValue];exact d _ p rfl (a.enter c none p (by intro x;cases x)) (b.enter none p hd)
theorem ip{f:Value}{pos:List Value}{kw:List (Str×Value)}{Q:Value→Shared→Prop}(a:cq M A (.call f ⟨pos,kw⟩) (λr s'=>match r with| .ok (.ret v)=>Q v s'| .ok _=>False| .error e=>E e s') s):aX M A (call f pos kw) Q E s:=z9 a rfl
theorem iq{c:Code}{R:Result→Shared→Prop}(h:aX M (A.under c) (M.den c) (λfin s'=>match fin with| .done f=>R (.ok f) s'| .again c'=>c'.quiet=true∧gy c'=false∧cq M A c' R s') (λe s'=>R (.error e) s') s):cq M A c R s:=λd p g a b=>by
 rw[wpCode_iff_wp,g]
 refine Sem.wp_mono M d _ (λfin p' s' h'=>?_) (λ_ _ _ h'=>h') p s (h d p (g▸a.in) b)
 cases fin with
 |done f=>exact h'
 |again c'=>exact⟨h'.1,h'.2.2 (d.goto c') p' rfl (a.goto c') (b.goto h'.2.1)⟩
theorem rQ{c:Code}{R d:Result→Shared→Prop}(h:cq M A c R s)(g:∀r s,R r s→d r s):cq M A c d s:=λe p f a b=>wpCode_mono g (h e p f a b)
theorem Br{c:Code}{R:Result→Shared→Prop}(a:c.quiet=true)(hd:gy c=false)(I:Nat→Shared→Prop)
  (turn:∀n s,I n s→aX M (A.under c) (M.den c) (λfin s'=>match fin with| .done f=>R (.ok f) s'| .again c'=>(c'=c∧∃m,m<n∧I m s')∨(c'.quiet=true∧gy c'=false∧cq M A c' R s')) (λe s'=>R (.error e) s') s)
  (n:Nat)(h:I n s):cq M A c R s:=by
 induction n using Nat.strongRecOn generalizing s with
 |ind n ih=>
  refine iq (fu (turn n s h) (λfin s' hf=>?_) λ_ _ h'=>h')
  cases fin with
  |done f=>exact hf
  |again c'=>
   rcases hf with⟨rfl,m,b,d⟩|hf
   ·exact⟨a,hd,ih m b d⟩
   ·exact hf
end
noncomputable def z_(self:Value):Code×Pos→Bool:=λ
  |(.builtin "bytearray.__contains__" ⟨v::_,_⟩,_)|(.builtin "bytearray.__mod__" ⟨v::_,_⟩,_)
  |(.builtin "bytearray.__rmod__" ⟨_::v::_,_⟩,_)|(.builtin "_struct.pack_into.held" ⟨v::_,_⟩,_)=>Builtin.Bytes.sameRef v self
  |(.builtin "bytearray.find.held" ⟨_::_::held,_⟩,_)=>held.any (Builtin.Bytes.sameRef self)
  |(.builtin id ⟨v::_,_⟩,_)=>Builtin.Bytes.sameRef v self&&Builtin.Bytes.decodersThatHold.contains id
  |_=>false
theorem u3(self:Value):Builtin.Bytes.exported self=(do return(←stack).any (z_ self)):=by
 unfold Builtin.Bytes.exported
 congr 1
theorem jG{id n:String}{a:Args}(b:(Code.builtin id a).isGuard=false)(h:(Code.builtin n ⟨[],[]⟩).isGuard=true):id≠n:=λe=>by
 subst e
 exact Bool.noConfusion (b.symm.trans h)
theorem xh{self:Value}{q:Code×Pos}(b:q.1.isGuard=false)(h2:gy q.1=false):z_ self q=false:=by
 obtain⟨c,p⟩:=q
 cases c with
 |builtin id a=>
  obtain⟨pos,kw⟩:=a
  delta z_ z_.match_1 gy._sparseCasesOn_1
  dsimp only
  refine(dif_neg (jG b (by decide:(Code.builtin "bytearray.__contains__" ⟨[],[]⟩).isGuard=true))).trans ?_
  refine(dif_neg (jG b (by decide:(Code.builtin "bytearray.__mod__" ⟨[],[]⟩).isGuard=true))).trans ?_
  refine(dif_neg (jG b (by decide:(Code.builtin "bytearray.__rmod__" ⟨[],[]⟩).isGuard=true))).trans ?_
  refine(dif_neg (jG b (by decide:(Code.builtin "_struct.pack_into.held" ⟨[],[]⟩).isGuard=true))).trans ?_
  refine(dif_neg (jG b (by decide:(Code.builtin "bytearray.find.held" ⟨[],[]⟩).isGuard=true))).trans ?_
  cases pos with
  |nil=>rfl
  |cons v vs=>exact(congrArg (Builtin.Bytes.sameRef v self&& ·) h2).trans (Bool.and_false _)
 |_=>rfl
theorem p4{q:Code×Pos}:∀{l:List (Code×Pos)},guardsOf l=[]→q∈l→q.1.isGuard=false
 |(c,p)::l,h,a=>by
  rw[guardsOf_cons,List.append_eq_nil_iff]at h
  rcases List.mem_cons.mp a with rfl|a
  ·cases b:c.isGuard with
   |false=>rfl
   |true=>have:=h.1;simp[Code.guards,b]at this
  ·exact p4 h.2 a
theorem z'{M:Model}{A:Around}{E:Value→Shared→Prop}{s:Shared}{v:Value}{Q:Bool→Shared→Prop}(e:A.guards=some [])(h:Q false s):aX M A (Builtin.Bytes.exported v) Q E s:=λa p c d=>by
 rw[u3]
 show Q (((a.code,p)::a.below).any (z_ v)) s
 have g:guardsOf ((a.code,p)::a.below)=[]:=by rw[guardsOf_cons];exact c.2.2.2.1 _ e
 have:((a.code,p)::a.below).any (z_ v)=false:=by
  rw[List.any_eq_false]
  intro q b
  have f:=p4 g b
  have h2:gy q.1=false:=by
   rcases List.mem_cons.mp b with rfl|b
   ·exact d.1
   ·exact d.2 q b
  rw[xh f h2];exact Bool.false_ne_true
 rw[this];exact h
section
variable{α β:Type}{M:Model}{A:Around}{E:Value→Shared→Prop}{s:Shared}{env:Env}
theorem bG{m:Sem α}{f:α→Sem β}{P:α→Shared→Prop}{Q:β→Shared→Prop}(h:aX M A m P E s)(k:∀a s',P a s'→aX M A (f a) Q E s'):aX M A (m>>=f) Q E s:=bK (fu h k λ_ _ x=>x)
theorem sW{l op r pos}{Q:Value→Shared→Prop}
  (h:aX M A (eval l env) (λa d=>aX M A (eval r env) (λb c=>aX M A (binaryOp op a b) Q E c) E d) E s):
  aX M A (eval (.BinOp l op r pos) env) Q E s:=by
 rw[eval_BinOp]
 exact bG h λa d f=>bG (b0 f) λb c e=>bz (KX e)
theorem Bs{op:UnaryOp}{x:Expr}{pos:Pos}{Q:Value→Shared→Prop}(h:aX M A (eval x env) (λv a=>aX M A (unaryOp op v) Q E a) E s):
  aX M A (eval (.UnaryOp op x pos) env) Q E s:=by
 rw[arm_eval_UnaryOp]
 exact bG h λv a b=>bz (b0 b)
theorem Bt{test body orelse:Expr}{pos:Pos}{Q:Value→Shared→Prop}
  (h:aX M A (isTrue test env (eval test env)) (λb a=>if b then aX M A (eval body env) Q E a else aX M A (eval orelse env) Q E a) E s):
  aX M A (eval (.IfExp test body orelse pos) env) Q E s:=by
 rw[arm_eval_IfExp]
 refine bG h λb a c=>?_
 cases b<;>exact c
theorem Aa{op e pos}{Q:Value→Shared→Prop}(h:aX M A (eval e env) Q E s):aX M A (eval (.BoolOp op [e] pos) env) Q E s:=h
theorem rR{d b rest pos}{Q:Value→Shared→Prop}
  (h:aX M A (eval d env) (λv e=>aX M A (truthy v) (λc a=>if c then aX M A (eval (.BoolOp .And (b::rest) pos) env) Q E a else Q v a) E e) E s):
  aX M A (eval (.BoolOp .And (d::b::rest) pos) env) Q E s:=by
 show aX M A (do
  let v←eval d env
  standAt pos
  let c←holding [v] (truthy v)
  match BoolOp.And,c with
  | .And,false| .Or,true=>pure v
  |_,_=>boolOp pos .And (eval b env::evalEach rest env)) Q E s
 refine bG h λv e g=>bz (bG (b0 g) λc a f=>?_)
 cases c with
 |false=>exact a9 f
 |true=>exact f
theorem u4{d b rest pos}{Q:Value→Shared→Prop}
  (h:aX M A (eval d env) (λv e=>aX M A (truthy v) (λc a=>if c then Q v a else aX M A (eval (.BoolOp .Or (b::rest) pos) env) Q E a) E e) E s):
  aX M A (eval (.BoolOp .Or (d::b::rest) pos) env) Q E s:=by
 show aX M A (do
  let v←eval d env
  standAt pos
  let c←holding [v] (truthy v)
  match BoolOp.Or,c with
  | .And,false| .Or,true=>pure v
  |_,_=>boolOp pos .Or (eval b env::evalEach rest env)) Q E s
 refine bG h λv e g=>bz (bG (b0 g) λc a f=>?_)
 cases c with
 |false=>exact f
 |true=>exact a9 f
theorem u5{pos:Pos}{a:Value}{op:CmpOp}{r:Sem Value}{Q:Value→Shared→Prop}
  (h:aX M A r (λb c=>aX M A (compareOp op a b) Q E c) E s):aX M A (compareChain pos a [op] [r]) Q E s:=by
 show aX M A (do
  let e←holding [a] r
  standAt pos
  operate [a,e] (compareOp op a e)) Q E s
 exact bG (b0 h) λb c d=>bz (KX d)
theorem xi{pos:Pos}{a:Value}{op i:CmpOp}{ops:List CmpOp}{r m:Sem Value}{rs:List (Sem Value)}{Q:Bool→Shared→Prop}
  (h:aX M A r (λb f=>aX M A (compareOp op a b) (λc e=>aX M A (truthy c)
   (λt d=>if t then aX M A (testChain pos b (i::ops) (m::rs)) Q E d else Q false d) E e) E f) E s):
  aX M A (testChain pos a (op::i::ops) (r::m::rs)) Q E s:=by
 show aX M A (do
  let j←holding [a] r
  standAt pos
  let c←holding [a,j] (compareOp op a j)
  release [a,j] [c]
  if←holding [c,j] (truthy c)then testChain pos j (i::ops) (m::rs)else pure false) Q E s
 refine bG (b0 h) λb f l=>bz (bG (b0 l) λc e k=>MN (bG (b0 k) λt d g=>?_))
 cases t with
 |false=>exact a9 g
 |true=>exact g
theorem p5{pos:Pos}{a:Value}{op:CmpOp}{r:Sem Value}{Q:Bool→Shared→Prop}
  (h:aX M A r (λb e=>aX M A (compareOp op a b) (λc d=>aX M A (truthy c) Q E d) E e) E s):aX M A (testChain pos a [op] [r]) Q E s:=by
 show aX M A (do
  let i←holding [a] r
  standAt pos
  let c←operate [a,i] (compareOp op a i)
  holding [c] (truthy c)) Q E s
 exact bG (b0 h) λb e g=>bz (bG (KX g) λc d f=>b0 f)
theorem d9{pos:Pos}{Q:List Value→Shared→Prop}(h:Q [] s):aX M A (spliced (backTo pos (starEach [] env))) Q E s:=a9 h
theorem cK{pos:Pos}{e:Expr}{rest:List Expr}{Q:List Value→Shared→Prop}
  (h:aX M A (eval e env) (λv b=>aX M A (spliced (backTo pos (starEach rest env))) (λvs a=>Q (v::vs) a) E b) E s)
  (f:starEach (e::rest) env=(false,eval e env)::starEach rest env):aX M A (spliced (backTo pos (starEach (e::rest) env))) Q E s:=by
 rw[f]
 show aX M A (do
  let v←eval e env
  let here←(pure [v]:Sem (List Value))
  return here++(←holding here (spliced (backTo pos (starEach rest env))))) Q E s
 exact bG h λv b d=>bO (bG (b0 d) λvs a c=>a9 c)
theorem xj{elts:List Expr}{k:Nat}{pos:Pos}{Q:Value→Shared→Prop}
  (h:aX M A (spliced (backTo pos (starEach elts env)))
   (λvs a=>vs.length≤sizeLine∧Q (.ref a.heap.objs.size) {a with heap:=a.heap.push {cls:=.type "tuple",data:=.seq vs.toArray}}) E s):aX M A (eval (.Tuple elts k pos) env) Q E s:=by
 rw[arm_eval_Tuple]
 exact bz (bG h λvs a b=>.of (wpAny_newObj_type b.2 (by show vs.toArray.size≤sizeLine;rw[List.size_toArray];exact b.1)))
theorem HR{elts:List Expr}{pos:Pos}{Q:Value→Shared→Prop}
  (h:aX M A (spliced (backTo pos (starEach elts env)))
   (λvs a=>vs.length≤sizeLine∧Q (.ref a.heap.objs.size) {a with heap:=a.heap.push {cls:=.type "list",data:=.seq vs.toArray}}) E s):aX M A (eval (.List elts pos) env) Q E s:=by
 rw[arm_eval_List]
 exact bz (bG h λvs a b=>.of (wpAny_newObj_type b.2 (by show vs.toArray.size≤sizeLine;rw[List.size_toArray];exact b.1)))
theorem u6{e:Expr}{whole:Sem Value}{Q:Bool→Shared→Prop}(h:aX M A whole (λv a=>aX M A (truthy v) Q E a) E s)
  (c:isTrue e env whole=(do let v←whole;standAt e.pos;holding [v] (truthy v))):aX M A (isTrue e env whole) Q E s:=by
 rw[c]
 exact bG h λv a b=>bz (b0 b)
theorem Ab{x pos whole}{Q:Bool→Shared→Prop}(h:aX M A (isTrue x env (eval x env)) (λc s'=>Q (!c) s') E s):
  aX M A (isTrue (.UnaryOp .Not x pos) env whole) Q E s:=by
 show aX M A (do return !(←isTrue x env (eval x env))) Q E s
 exact bG h λc s' h'=>a9 h'
theorem kY{x:Expr}{rest:List Expr}{Q:Bool→Shared→Prop}
  (h:aX M A (isTrue x env (eval x env)) (λb a=>if b then aX M A (allTrue .And rest env) Q E a else Q false a) E s):aX M A (allTrue .And (x::rest) env) Q E s:=by
 show aX M A (do match BoolOp.And,←isTrue x env (eval x env)with| .And,false=>pure false| .Or,true=>pure true|_,_=>allTrue .And rest env) Q E s
 refine bG h λb a c=>?_
 cases b
 ·exact a9 c
 ·exact c
theorem l_{x:Expr}{rest:List Expr}{Q:Bool→Shared→Prop}
  (h:aX M A (isTrue x env (eval x env)) (λb a=>if b then Q true a else aX M A (allTrue .Or rest env) Q E a) E s):aX M A (allTrue .Or (x::rest) env) Q E s:=by
 show aX M A (do match BoolOp.Or,←isTrue x env (eval x env)with| .And,false=>pure false| .Or,true=>pure true|_,_=>allTrue .Or rest env) Q E s
 refine bG h λb a c=>?_
 cases b
 ·exact c
 ·exact a9 c
theorem iQ{Q:Flow→Shared→Prop}(h:Q .next s):aX M A (execs [] env) Q E s:=a9 h
theorem d4{st rest}{Q:Flow→Shared→Prop}
  (h:aX M A (exec st env) (λf s'=>match f with| .next=>aX M A (execs rest env) Q E s'|f=>Q f s') E s):
  aX M A (execs (st::rest) env) Q E s:=by
 rw[execs_cons]
 refine bG h λf s' h'=>?_
 cases f<;>first|exact h'|exact a9 h'
theorem MP{test body orelse pos}{Q:Flow→Shared→Prop}
  (h:aX M A (isTrue test env (eval test env))
   (λb a=>if b then aX M A (execs body env) Q E a else aX M A (execs orelse env) Q E a) E s):
  aX M A (exec (.If test body orelse pos) env) Q E s:=by
 rw[exec_If]
 refine bz (bG h λb a c=>?_)
 cases b<;>exact c
theorem sX{e pos}{Q:Flow→Shared→Prop}(h:aX M A (eval e env) (λv=>Q (.ret v)) E s):
  aX M A (exec (.Return (some e) pos) env) Q E s:=by
 rw[exec_Return_some]
 exact bz (bG h λv s' h'=>a9 h')
theorem HS{e pos}{Q:Flow→Shared→Prop}(h:aX M A (eval e env) (λv s'=>(∀a,v≠ .ref a)∧Q .next s') E s)
  (hi:interactive env=false)(b:swapsWith e none pos.line env=pure false):
  aX M A (exec (.Expr e pos) env) Q E s:=by
 rw[exec_Expr env e pos hi b]
 exact bz (bG h λv s' h'=>by rw[dropValue_plain h'.1];exact a9 h'.2)
def ma(M:Model)(A:Around)(env:Env)(E:Value→Shared→Prop):Value→Shared→Prop:=
 λx s'=>aX M A (noteFrame x env) (λ_ a=>E x a) E s'
theorem xk{env:Env}{m:Sem α}{Q:α→Shared→Prop}(h:aX M A m Q (ma M A env E) s):aX M A (m.onRaise λx=>do noteFrame x env;theTreesLotGoes x) Q E s:=
 nE (fu h (λ_ _ q=>q) λ_ _ a=>bG a λ_ _ e=>.of (wpAny_theTreesLotGoes e))
def oH(M:Model)(A:Around)(env:Env)(E:Value→Shared→Prop):Value→Shared→Prop:=
 λx s'=>aX M A (do
  if(←field x 1)==.none then unsupported "frame.own-activation:exception-without-traceback"
  setFlight x env.frame) (λ_ a=>E x a) E s'
theorem yN{c:Code}{h:Option Value}{Q:Flow→Shared→Prop}
  (b:cq M (A.mark h) c (λr s'=>match r with| .ok f=>Q f s'| .error e=>oH M A env E e s') s)(hd:gy c=false)(a:h≠some byPass):
  aX M A (runOwn c env h) Q E s:=by
 unfold runOwn
 exact nE (Ln b hd a)
theorem IJ{test body orelse pos}{Q:Flow→Shared→Prop}
  (h:cq M A (.whileLoop test body orelse env) (λr s'=>match r with| .ok f=>Q f s'| .error e=>oH M A env E e s') s):
  aX M A (exec (.While test body orelse pos) env) Q E s:=by
 rw[exec_While];exact bz (yN h rfl nofun)
end
section
variable{α β:Type}{prog:Program}{w:World}{A:Around}{E:Value→Shared→Prop}{R:Result→Shared→Prop}{s:Shared}{env:Env}
theorem xl{value:Expr}{attr:Str}{pos:Pos}{Q:Value→Shared→Prop}
  (h:aX (model prog w) A (eval value env) (λo a=>aX (model prog w) A (getAttr o attr true) Q E a) E s)
  (e:eval (.Attribute value attr pos) env=(do
   let o←eval value env
   standAt pos.atName
   let r←holding [o] (getAttr o attr true)
   letTemporaryGo value o r
   pure r)):
  aX (model prog w) A (eval (.Attribute value attr pos) env) Q E s:=by
 rw[e]
 exact bG h λo a c=>bz (bG (b0 c) λr d b=>bF (wpAny_letTemporaryGo (a9 b)))
noncomputable def isSlice:Expr→Bool
 | .Slice _ _ _ _=>true
 |_=>false
theorem Ac{slice:Expr}{o i:Value}(h:isSlice slice=false):subscripted slice false o i=operate [o,i] (getItem o i):=by cases slice<;>first|rfl|cases h
theorem xm{value slice:Expr}{pos:Pos}{Q:Value→Shared→Prop}(f:isSlice slice=false)
  (h:aX (model prog w) A (eval value env) (λo b=>aX (model prog w) A (eval slice env) (λi a=>SubscriptOn (model prog w) A o i Q E a) E b) E s):
  aX (model prog w) A (eval (.Subscript value slice pos) env) Q E s:=by
 rw[eval_Subscript]
 refine bG h λo b e=>bG (b0 e) λi a d=>bz ?_
 obtain⟨T,id,hl,j,k⟩:=d
 refine bK ?_
 rw[getitemInPython_of_ne j.not_modules]
 refine bF (wpAny_specialOf j hl ?_)
 refine a9 ?_
 rw[Ac f]
 exact .of (wpAny_bind (wpAny_operate' (wpAny_mono k (λr g c=>wpAny_bind (wpAny_letTemporaryGo (wpAny_pure c))) λ_ _ x=>x)))
theorem xn{value:Expr}{lo hi:Option Expr}{p pos:Pos}{Q:Value→Shared→Prop}
  (h:aX (model prog w) A (eval value env) (λo d=>aX (model prog w) A (evalPart lo env) (λl c=>aX (model prog w) A (evalPart hi env) (λu a=>
   SubscriptOn (model prog w) A o (.ref a.heap.objs.size) Q E {a with heap:=a.heap.push {cls:=.type "slice",data:=.fields #[l,u,.none]}}) E c) E d) E s):
  aX (model prog w) A (eval (.Subscript value (.Slice lo hi none p) pos) env) Q E s:=by
 rw[eval_Subscript]
 refine bG h λo d f=>?_
 refine bK (b0 ?_)
 rw[arm_eval_Slice]
 refine bG (m:=evalPart lo env) f λl c e=>?_
 refine bG (m:=holding _ (evalPart hi env)) (b0 e) λu a b=>?_
 refine bK (m:=holding _ (evalPart none env)) (b0 (a9 ?_))
 refine .of (wpAny_newObj_type ?_)
 refine bz ?_
 obtain⟨T,id,hl,g,i⟩:=b
 refine bK ?_
 rw[getitemInPython_of_ne g.not_modules]
 refine bF (wpAny_specialOf g hl ?_)
 refine a9 ?_
 show aX _ _ (operate _ (getItem _ _)>>=_) _ _ _
 exact .of (wpAny_bind (wpAny_operate' (wpAny_mono i (λr a b=>wpAny_bind (wpAny_letTemporaryGo (wpAny_pure b))) λ_ _ x=>x)))
theorem xo{test body orelse env}(I:Nat→Shared→Prop)
  (turn:∀n s,I n s→
   aX (model prog w) A (isTrue test env (eval test env)) (λb g=>
    if b then aX (model prog w) A (execs body env) (λf a=>match f with
      | .next| .cont=>∃m,m<n∧I m a
      | .brk=>R (.ok .next) a
      | .ret v=>R (.ok (.ret v)) a) (ma (model prog w) A env λe s'=>R (.error e) s') g
    else aX (model prog w) A (execs orelse env) (λf a=>R (.ok f) a) (ma (model prog w) A env λe s'=>R (.error e) s') g)
    (ma (model prog w) A env λe s'=>R (.error e) s') s)
  (n:Nat)(h:I n s):cq (model prog w) A (.whileLoop test body orelse env) R s:=by
 refine Br rfl rfl I (λn s i=>?_) n h
 show aX _ A ((whileTurn test body orelse env).onRaise (λx=>do noteFrame x env;theTreesLotGoes x)) _ _ s
 refine xk ?_
 simp only[whileTurn]
 refine bG (turn n s i) λb g d=>?_
 cases b with
 |false=>
  simp only[Bool.false_eq_true,if_false]at d⊢
  exact bG d λf a c=>a9 c
 |true=>
  simp only[if_true]at d⊢
  refine bG d λf a c=>?_
  cases f with
  |next=>exact a9 (.inl ⟨rfl,c⟩)
  |cont=>exact a9 (.inl ⟨rfl,c⟩)
  |brk=>exact a9 c
  |ret v=>exact a9 c
theorem yO{body env}
  (h:aX (model prog w) (A.deeper env) (execs body env) (λf s'=>R (.ok (.ret (match f with| .ret v=>v|_=>.none))) s')
   (λe s'=>aX (model prog w) (A.deeper env) (leaving env e) (λ_ a=>R (.error e) a) (λe' a=>R (.error e') a) s') s):
  cq (model prog w) A (.func body env) R s:=by
 refine iq ?_
 show aX _ (A.deeper env) (do point;match←(execs body env).onRaise (leaving env)with| .ret v=>ret v|_=>ret .none) _ _ s
 refine bF (wpAny_point (bK (nE (fu h (λf s' h'=>?_) λ_ _ h'=>h'))))
 cases f<;>exact a9 h'
theorem rS{a:Addr}{args:Args}{o:Obj}{fd:FuncData}{body:List Stmt}(g:A.depth<recursionLimit)
  (v:s.heap.get? a=some o)
  (p:o.data=.func fd)(q:fd.scope.isCoroutine=false)(k:fd.scope.isGenerator=false)(i:fd.body=.stmts body)(r:s.heap.CodeRec fd.code fd.qualname)
  (h:aX (model prog w) A.in1 (bindArgs fd args) (λbinds d=>
   aX (model prog w) A.in1 (newFunctionEnv fd.scope fd.globals fd.closure binds (fd.qualname++ ".<locals>.") (some a) fd.code none fd.builtins)
    (λenv b=>b.heap.NoLimit∧cq (model prog w) A (.func body env) R b) (λe s'=>R (.error e) s') d) (λe s'=>R (.error e) s') s):
  cq (model prog w) A (.call (.ref a) args) R s:=by
 refine iq ?_
 show aX _ A.in1 (callAny (.ref a) args) _ _ s
 simp only[callAny]
 refine bF (wpAny_load v ?_)
 obtain⟨c,y,vs,x,t,l,n,u⟩:=r
 simp only[p,callFunction,q,k,i,t]
 rw[t]at h
 refine bF (m:=field (.ref c) 1) (wpAny_field l n u (bO ?_))
 exact bG h λbinds d j=>bG j λenv b f=>bF (wpAny_enterFrame f.1 g (a9 ⟨rfl,rfl,f.2⟩))
theorem md{id:String}{args:Args}{b:Builtin}(hb:entryFor table id=some b)
  (h:aX (model prog w) (A.under (.builtin id args)) (b args)
   (λfin s'=>match fin with| .done f=>R (.ok f) s'| .again c'=>c'.quiet=true∧gy c'=false∧cq (model prog w) A c' R s') (λe s'=>R (.error e) s') s):
  cq (model prog w) A (.builtin id args) R s:=by
 refine iq ?_
 show aX _ _ (match entryFor table id with|some b=>b args|none=>unsupported ((withoutEnding? id "#data").getD id)) _ _ s
 rw[hb];exact h
theorem sY{id:String}{args:Args}{b:Builtin}(g:plainId id=true)(d:Builtin.Bytes.decodersThatHold.contains id=false)(hb:entryFor table id=some b)
  (h:aX (model prog w) A.in1 (checkBuiltinCall id args) (λ_ a=>aX (model prog w) A.in1 (b args)
   (λfin s'=>match fin with| .done f=>R (.ok f) s'| .again c'=>c'.quiet=true∧gy c'=false∧cq (model prog w) A c' R s') (λe s'=>R (.error e) s') a)
   (λe s'=>R (.error e) s') s):cq (model prog w) A (.call (.builtin id) args) R s:=by
 refine iq ?_
 show aX _ A.in1 (do checkBuiltinCall id args;again (.builtin id args)) _ _ s
 refine bG h λ_ a c=>a9 ⟨plainId_quiet g args,d,md hb ?_⟩
 rw[Around.under_plainId g args];exact c
end
end Mine
end
section
open PySem PySem.W PyProof.Rows
namespace Mine
noncomputable def Cl.addr:Cl→Addr
 | .b8=>150
 | .cm=>193
 | .Parts=>221
 | .aM=>368
 | .aK=>403
 | .bI=>527
 | .Descriptors=>594
 | .Process=>651
 | .Table=>792
 |_=>0
inductive Ow where
 |no
 |t
 |o(c:Cl)(k:Nat)
structure cb where
 x:Cl→Nat→Addr
 d:Cl→Nat→Addr
 own:Addr→Ow
noncomputable def ff:List Addr:=[902,866,859,276,907,819,878,696,472]
def f_(o:Obj):Prop:=o.cls=.type "frame"∧∃es n,o.data=.dict es n
inductive RV(N:cb)(h:Heap):MV→Value→Prop where
 |none:RV N h .none .none
 |bool (b:Bool):RV N h (.bool b) (.bool b)
 |int (i:Int) (t:Tok):RV N h (.int i) (.int i t)
 |str (n:Nm) (t:Tok):RV N h (.str n) (.str n.str t)
 |bytes (b:List UInt8) (t:Tok):RV N h (.bytes b) (.bytes b.toArray t)
 |ref (c:Cl) (k:Nat):N.own (N.x c k)=.o c k→RV N h (.ref c k) (.ref (N.x c k))
 |tup {vs:List MV} {a:Addr} (xs:List Value):IsTup h a xs.toArray→N.own a=.no→a∉ff→xs.length=vs.length→(∀(j:Nat) v x,vs[j]? =some v→xs[j]? =some x→RV N h v x)→RV N h (.tup vs) (.ref a)
 |lst {vs:List MV} {a:Addr} (xs:List Value) (n:Nat):h.get? a=some (listOf xs.toArray n)→N.own a=.no→a∉ff→xs.length=vs.length→(∀(j:Nat) v x,vs[j]? =some v→xs[j]? =some x→RV N h v x)→RV N h (.lst vs) (.ref a)
def dE(N:cb)(h:Heap)(vs:List MV)(xs:List Value):Prop:=xs.length=vs.length∧∀(j:Nat) v x,vs[j]? =some v→xs[j]? =some x→RV N h v x
theorem dE.nil{N:cb}{h:Heap}:dE N h [] []:=⟨rfl,λ_ _ _ q=>nomatch q⟩
theorem dE.cons{N:cb}{h:Heap}{v:MV}{x:Value}{vs:List MV}{xs:List Value}(a:RV N h v x)(r:dE N h vs xs):dE N h (v::vs) (x::xs):=
 ⟨congrArg Nat.succ r.1,λj=>Nat.casesOn j (λ_ _ p q=>Option.some.inj p▸Option.some.inj q▸a) λj=>r.2 j⟩
def aR(h:Heap)(x:Addr):Prop:=∃o,h.get? x=some o
theorem aR.ne{h:Heap}{x:Addr}(a:aR h x):x≠h.objs.size:=λq=>a.elim λ_ g=>Nat.lt_irrefl _ (q▸Heap.lt_size g)
theorem aR.push{h:Heap}{x:Addr}(a:aR h x)(o:Obj):aR (h.push o) x:=a.imp λ_ g=>Heap.get?_push_of_some _ g
theorem cj(h:Heap):¬aR h h.objs.size:=λa=>a.ne rfl
theorem aR.but{h h':Heap}{a x:Addr}(g:aR h x)(s:Heap.SameBut a h h')(al:aR h' a):aR h' x:=
 (Decidable.em (x=a)).elim (λe=>e▸al) λe=>g.imp λ_ g=>(s.2 x e).trans g
def Kept(o:Obj)(r:Option Obj):Prop:=r=some o∨(f_ o∧∃sl,r=some {o with slots:=sl})
theorem Kept.get{o:Obj}{r:Option Obj}(k:Kept o r):∃a,r=some a∧a.data=o.data∧a.cls=o.cls:=
 k.elim (λe=>⟨_,e,rfl,rfl⟩) λk=>k.2.elim λ_ e=>⟨_,e,rfl,rfl⟩
theorem Kept.exact{o:Obj}{r:Option Obj}(k:Kept o r)(a:¬f_ o):r=some o:=k.elim id λk=>absurd k.1 a
theorem Kept.trans{o:Obj}{r a:Option Obj}(k:Kept o r)(c:∀b,r=some b→Kept b a):Kept o a:=
 k.elim (c o) λk=>k.2.elim λ_ e=>(c _ e).elim (λq=>.inr ⟨k.1,_,q⟩) λq=>q.2.elim λ_ q=>.inr ⟨k.1,_,q⟩
def MQ(o:Obj):Prop:=∃vs q t,o.data=.fields vs∧vs[1]? =some (.str q t)
def NY(N:cb)(h:Heap)(v:Value):Prop:=∃c,v=.ref c∧N.own c=.no∧c∉ff∧∃o,h.get? c=some o∧MQ o
def TabAt(N:cb)(h:Heap)(P:Addr):Prop:=N.own P=.no∧∃ps,h.get? P=some (tabObj ps)∧TriplesOk ps.toList∧∀pos a,codeAmong pos ps.toList=some a→NY N h a
def nF(N:cb)(h:Heap):Prop:=∀P∈ff,TabAt N h P
theorem nF.step{N a:cb}{h h':Heap}(T:nF N h)(own:∀x,aR h x→N.own x=.no→a.own x=.no)(k:∀x o,N.own x=.no→h.get? x=some o→h'.get? x=some o):nF a h':=λP b=>
 have T:=T P b
 ⟨T.2.elim λ_ r=>own P ⟨_,r.1⟩ T.1,T.2.imp λps r=>⟨k P _ T.1 r.1,r.2.1,λpos d q=>(r.2.2 pos d q).imp λc z=>⟨z.1,z.2.2.2.elim λ_ y=>own c ⟨_,y.1⟩ z.2.1,z.2.2.1,z.2.2.2.imp λo y=>⟨k c o z.2.1 y.1,y.2⟩⟩⟩⟩
structure Ext(Y:Addr→Prop)(N N':cb)(h h':Heap):Prop where
 own:∀x,aR h x→¬Y x→N'.own x=N.own x
 al:∀x,aR h x→¬Y x→aR h' x
 kept:∀x,N.own x≠ .no→¬Y x→N'.own x=N.own x
 uW:∀c k,N.own (N.x c k)=.o c k→N'.x c k=N.x c k∧N'.d c k=N.d c k
 same:∀x o,h.get? x=some o→N.own x=.no→x∉ff→h'.get? x=some o
 oI:∀x o,h.get? x=some o→N.own x=.t→¬Y x→Kept o (h'.get? x)
 Bu:∀x,Y x→N.own x=.t∨(N.own x=.no∧h.get? x=none)
 tab:nF N h→nF N' h'
theorem Ext.MB{Y:Addr→Prop}{N b:cb}{h h':Heap}(own:∀x,aR h x→¬Y x→b.own x=N.own x)(al:∀x,aR h x→¬Y x→aR h' x)(kept:∀x,N.own x≠ .no→¬Y x→b.own x=N.own x)
  (uW:∀c k,N.own (N.x c k)=.o c k→b.x c k=N.x c k∧b.d c k=N.d c k)(same:∀x o,h.get? x=some o→(∀c k,N.own x≠ .o c k)→¬Y x→h'.get? x=some o)(Bu:∀x,Y x→N.own x=.t∨(N.own x=.no∧h.get? x=none)):Ext Y N b h h':=by
 have e:∀x o,h.get? x=some o→N.own x=.no→¬Y x:=λx o g q z=>(Bu x z).elim (λr=>nomatch q.symm.trans r) λr=>nomatch g.symm.trans r.2
 have sm:∀x o,N.own x=.no→h.get? x=some o→h'.get? x=some o:=λx o q g=>same x o g (λc k r=>nomatch q.symm.trans r) (e x o g q)
 exact⟨own,al,kept,uW,λx o g q _=>sm x o q g,λx o g q f=>.inl (same x o g (λc k r=>nomatch q.symm.trans r) f),Bu,λT=>T.step (λx a q=>a.elim λo g=>(own x a (e x o g q)).trans q) sm⟩
abbrev YN:Addr→Prop:=λ_=>False
section
variable{Y Z:Addr→Prop}{N N' N1 N2:cb}{h h' h0 h1 h2:Heap}
theorem Ext.refl(N:cb)(h:Heap):Ext YN N N h h:=.MB (λ_ _ _=>rfl) (λ_ a _=>a) (λ_ _ _=>rfl) (λ_ _ _=>⟨rfl,rfl⟩) (λ_ _ g _ _=>g) λ_ q=>q.elim
theorem Ext.IK(e:Ext Y N N' h h'){x:Addr}{c:Cl}{k:Nat}(q:N.own x=.o c k):¬Y x:=λz=>(e.Bu x z).elim (λr=>nomatch q.symm.trans r) λr=>nomatch q.symm.trans r.1
theorem Ext.Lo(e:Ext Y N N' h h'){x:Addr}{o:Obj}(g:h.get? x=some o)(q:N.own x=.no):¬Y x:=λz=>(e.Bu x z).elim (λr=>nomatch q.symm.trans r) λr=>nomatch g.symm.trans r.2
theorem Ext.yP(e:Ext Y N N' h h'){x:Addr}{c:Cl}{k:Nat}(q:N.own x=.o c k):N'.own x=.o c k:=(e.kept x (λr=>nomatch q.symm.trans r) (e.IK q)).trans q
theorem Ext.u7(e:Ext Y N N' h h'){c:Cl}{k:Nat}(q:N.own (N.x c k)=.o c k):N'.own (N'.x c k)=.o c k:=(e.uW c k q).1▸e.yP q
theorem Ext.xp(e:Ext Y N N' h h'){x:Addr}{o:Obj}(g:h.get? x=some o)(q:N.own x=.t)(a:¬Y x)(b:¬f_ o):h'.get? x=some o:=(e.oI x o g q a).exact b
theorem Ext.u9(e:Ext Y N N' h h'){x:Addr}{o:Obj}(g:h.get? x=some o)(q:N.own x=.no):N'.own x=.no:=(e.own x ⟨o,g⟩ (e.Lo g q)).trans q
theorem Ext.comp(a:Ext Y N N1 h h1)(b:Ext Z N1 N2 h1 h2)(l:∀x,Z x→Y x∨¬aR h x)(lt:∀x,N.own x≠ .no→aR h x):Ext Y N N2 h h2:=by
 have i:∀x,aR h x→¬Y x→¬Z x:=λx f d q=>(l x q).elim d λr=>r f
 exact⟨λx f d=>(b.own x (a.al x f d) (i x f d)).trans (a.own x f d),λx f d=>b.al x (a.al x f d) (i x f d),λx e d=>(b.kept x (a.kept x e d▸e) (i x (lt x e) d)).trans (a.kept x e d),
  λc k q=>⟨(b.uW c k (a.u7 q)).1.trans (a.uW c k q).1,(b.uW c k (a.u7 q)).2.trans (a.uW c k q).2⟩,
  λx o g q ht=>b.same x o (a.same x o g q ht) (a.u9 g q) ht,
  λx o g q d=>(a.oI x o g q d).trans λj m=>b.oI x j m ((a.own x ⟨o,g⟩ d).trans q) (i x ⟨o,g⟩ d),a.Bu,λT=>b.tab (a.tab T)⟩
theorem Ext.trans(a:Ext Y N N1 h h1)(b:Ext Y N1 N2 h1 h2):Ext Y N N2 h h2:=
 ⟨λx f d=>(b.own x (a.al x f d) d).trans (a.own x f d),λx f d=>b.al x (a.al x f d) d,λx e d=>(b.kept x (a.kept x e d▸e) d).trans (a.kept x e d),
  λc k q=>⟨(b.uW c k (a.u7 q)).1.trans (a.uW c k q).1,(b.uW c k (a.u7 q)).2.trans (a.uW c k q).2⟩,
  λx o g q ht=>b.same x o (a.same x o g q ht) (a.u9 g q) ht,
  λx o g q d=>(a.oI x o g q d).trans λi j=>b.oI x i j ((a.own x ⟨o,g⟩ d).trans q) d,a.Bu,λT=>b.tab (a.tab T)⟩
theorem Ext.wk{Y':Addr→Prop}(a:Ext Y N N' h h')(k:∀x,Y x→Y' x)(Bu:∀x,Y' x→N.own x=.t∨(N.own x=.no∧h.get? x=none)):Ext Y' N N' h h':=
 ⟨λx c b=>a.own x c λq=>b (k x q),λx c b=>a.al x c λq=>b (k x q),λx e b=>a.kept x e λq=>b (k x q),a.uW,a.same,λx o e d b=>a.oI x o e d λq=>b (k x q),Bu,a.tab⟩
theorem rT(e:Ext Y N N' h h'){a:Addr}{xs:Array Value}(t:IsTup h a xs)(b:N.own a=.no)(ht:a∉ff):IsTup h' a xs:=t.imp λo r=>⟨e.same a o r.1 b ht,r.2⟩
theorem RV.ext(e:Ext Y N N' h h'){v:MV}{x:Value}(r:RV N h v x):RV N' h' v x:=by
 induction r with
 |none=>exact .none
 |bool b=>exact .bool b
 |int i t=>exact .int i t
 |str n t=>exact .str n t
 |bytes b t=>exact .bytes b t
 |ref c k q=>exact(e.uW c k q).1▸ .ref c k (e.u7 q)
 |tup xs t a ht hl _ ih=>exact .tup xs (rT e t a ht) (t.elim λ_ r=>e.u9 r.1 a) ht hl ih
 |lst xs n t a ht hl _ ih=>exact .lst xs n (e.same _ _ t a ht) (e.u9 t a) ht hl ih
theorem dE.ext(e:Ext Y N N' h h'){vs:List MV}{xs:List Value}(r:dE N h vs xs):dE N' h' vs xs:=⟨r.1,λj v x p q=>(r.2 j v x p q).ext e⟩
end
def MR(N:cb)(h:Heap)(x:Value):MV→Prop
 | .none=>x=.none
 | .bool b=>x=.bool b
 | .int i=>∃t,x=.int i t
 | .str n=>∃t,x=.str n.str t
 | .bytes b=>∃t,x=.bytes b.toArray t
 | .tup vs=>∃a xs,x=.ref a∧IsTup h a xs.toArray∧N.own a=.no∧a∉ff∧dE N h vs xs
 | .lst vs=>∃a xs n,x=.ref a∧h.get? a=some (listOf xs.toArray n)∧N.own a=.no∧a∉ff∧dE N h vs xs
 | .ref c k=>x=.ref (N.x c k)∧N.own (N.x c k)=.o c k
theorem RV.d{N:cb}{h:Heap}{v:MV}{x:Value}(r:RV N h v x):MR N h x v:=by
 cases r with
 |none=>exact rfl
 |bool b=>exact rfl
 |int i t=>exact⟨t,rfl⟩
 |str n t=>exact⟨t,rfl⟩
 |bytes b t=>exact⟨t,rfl⟩
 |ref c k q=>exact⟨rfl,q⟩
 |tup xs t a ht hl r=>exact⟨_,xs,rfl,t,a,ht,hl,r⟩
 |lst xs n t a ht hl r=>exact⟨_,xs,n,rfl,t,a,ht,hl,r⟩
structure GC where
 w:World
 h₀:Heap
 mg:Str→Option Value
 mb:Str→Option Value
 Lp:OsState
structure GC.Ok(G:GC):Prop where
 jH:(Kf G.w.params).In G.h₀
 g:G.h₀.Ns mainGlobals G.mg
 b:G.h₀.Ns builtinsNs G.mb
 nolimit:G.h₀.NoLimit
 blt:∀x:Str,x≠"__name__"→G.mb x=bootBuiltins x
 bmod:∃bm o,G.mg "__builtins__" =some (.ref bm)∧bm≠builtinsNs∧bm≠mainGlobals∧bm∉ff∧G.h₀.get? bm=some o∧o.cls=.type "module"∧o.dict=some builtinsNs∧o.data=.plain
def E6(N:cb)(h:Heap)(m:Str→Option Value)(fs:Loc):Prop:=∀n:Nm,(∀v,look n fs=some v→∃u,m n.str=some u∧RV N h v u)∧(look n fs=none→m n.str=none)
theorem E6.ext{Y:Addr→Prop}{N N':cb}{h h':Heap}(e:Ext Y N N' h h'){m:Str→Option Value}{fs:Loc}(r:E6 N h m fs):E6 N' h' m fs:=λn=>⟨λv q=>((r n).1 v q).imp λ_ z=>⟨z.1,z.2.ext e⟩,(r n).2⟩
def cM{b a:Type}(N:cb)(h:Heap)(k:a→b)(kvs:List (b×Value))(fs:List (a×MV)):Prop:=kvs.map (·.1)=fs.map (λe=>k e.1)∧dE N h (fs.map (·.2)) (kvs.map (·.2))
def E7(h:Heap)(a:Addr)(m:Str→Option Value)(b:Nat):Prop:=∃o,h.get? a=some o∧∃es c,o.data=.dict es c∧StrKeys es∧(∀name,nsFind es name=m name)∧es.size≤b
theorem E7.ns{h:Heap}{a:Addr}{m:Str→Option Value}{b:Nat}(x:E7 h a m b):h.Ns a m:=x.imp λ_ x=>x.2.imp λ_ y=>y.imp λ_ y=>⟨x.1,y.1,y.2.1,y.2.2.1⟩
theorem rU{a:Type}[DecidableEq a]{p:Program}{w:World}{K:PySem.KeyKind p w a}{h h':Heap}{x:Addr}{kvs:List (a×Value)}(D:h.DictOf K x kvs)(k:∀o,h.get? x=some o→h'.get? x=some o):h'.DictOf K x kvs:=D.imp λo q=>q.imp λ_ q=>q.imp λ_ q=>⟨k o q.1,q.2⟩
def xq(w:World)(N:cb)(h:Heap)(c:Cl)(k:Nat)(x d:Addr):MO→Prop
 | .inst fs=>N.own d=.o c k∧h.get? x=some (instObj c.addr d)∧∃m,E7 h d m fs.length∧E6 N h m fs
 | .list vs=>∃xs n,h.get? x=some (listOf xs.toArray n)∧dE N h vs xs
 | .bu fs=>(x==sysModules)=false∧∃kvs,h.DictOf (strKind pw w) x kvs∧cM N h Nm.str kvs fs
 | .dy fs=>(x==sysModules)=false∧∃kvs,h.DictOf (intKind pw w) x kvs∧cM N h (λx:Int=>x) kvs fs
 | .dD bs=>h.get? x=some {cls:=.type "bytearray",data:=.bytearray bs.toArray 0}
def At(w:World)(N:cb)(h:Heap)(c:Cl)(k:Nat)(v:MO):Prop:=N.own (N.x c k)=.o c k∧xq w N h c k (N.x c k) (N.d c k) v
structure uX(w:World)(N:cb)(H:Hp)(h:Heap):Prop where
 o:∀c k,k<H.n c→At w N h c k (H.o c k)
 t:nF N h
 lt:∀x,N.own x≠ .no→aR h x
 E0:∀x c k,N.own x=.o c k→k<H.n c
structure aO(G:GC)(N:cb)(H:Hp)(s:Shared):Prop where
 old:∀b o,G.h₀.get? b=some o→b∉ff→s.heap.get? b=some o
 iR:∀b o,G.h₀.get? b=some o→N.own b=.no
 hp:uX G.w N H s.heap
 gens:s.gens= #[]
 os:s.os=G.Lp
theorem aO.tok{G:GC}{N:cb}{H:Hp}{s:Shared}(I:aO G N H s)(t:Nat):aO G N H {s with toks:=t}:=⟨I.old,I.iR,I.hp,I.gens,I.os⟩
theorem At.keep{w:World}{Y:Addr→Prop}{N N':cb}{h h':Heap}(e:Ext Y N N' h h'){c:Cl}{k:Nat}{v:MO}(a:∀x o,N.own x=.o c k→h.get? x=some o→h'.get? x=some o)(r:At w N h c k v):At w N' h' c k v:=by
 have n:=e.uW c k r.1
 refine⟨e.u7 r.1,?_⟩
 rw[n.1,n.2]
 have z:=r.2
 have b:=r.1
 cases v with
 |inst fs=>exact⟨e.yP z.1,a _ _ b z.2.1,z.2.2.imp λm q=>⟨q.1.imp λo q=>⟨a _ _ z.1 q.1,q.2⟩,q.2.ext e⟩⟩
 |list vs=>exact z.imp λxs r=>r.imp λn r=>⟨a _ _ b r.1,r.2.ext e⟩
 |bu fs=>exact⟨z.1,z.2.imp λkvs q=>⟨rU q.1 λ_=>a _ _ b,q.2.1,q.2.2.ext e⟩⟩
 |dy fs=>exact⟨z.1,z.2.imp λkvs q=>⟨rU q.1 λ_=>a _ _ b,q.2.1,q.2.2.ext e⟩⟩
 |dD bs=>exact a _ _ b z
theorem uX.grow{w:World}{Y:Addr→Prop}{N:cb}{H:Hp}{h h':Heap}(R:uX w N H h)(e:Ext Y N N h h')(k:∀x c a o,N.own x=.o c a→h.get? x=some o→h'.get? x=some o)(al:∀x,N.own x=.t→aR h' x):uX w N H h':=
 ⟨λc j q=>(R.o c j q).keep e λx o a g=>k x c j o a g,e.tab R.t,λx q=>match z:N.own x with
  | .no=>absurd z q
  | .t=>al x z
  | .o c j=>(R.lt x q).imp λo g=>k x c j o z g,R.E0⟩
theorem uX.fresh{w:World}{N:cb}{H:Hp}{h:Heap}(R:uX w N H h):N.own h.objs.size=.no:=Classical.byContradiction λq=>(R.lt _ q).ne rfl
theorem Ext.push(N:cb)(h:Heap)(o:Obj):Ext YN N N h (h.push o):=.MB (λ_ _ _=>rfl) (λ_ a _=>a.push o) (λ_ _ _=>rfl) (λ_ _ _=>⟨rfl,rfl⟩) (λ_ _ g _ _=>Heap.get?_push_of_some _ g) λ_ q=>q.elim
theorem aO.push{G:GC}{N:cb}{H:Hp}{s:Shared}(I:aO G N H s)(o:Obj)(t:Nat):aO G N H {s with heap:=s.heap.push o,toks:=t}:=
 ⟨λb a e hb=>Heap.get?_push_of_some _ (I.old b a e hb),I.iR,I.hp.grow (Ext.push N _ o) (λ_ _ _ _ _ e=>Heap.get?_push_of_some _ e) λx q=>(I.hp.lt x λr=>nomatch q.symm.trans r).push o,I.gens,I.os⟩
noncomputable def qv:Program:={pw with main:={pw.main with body:=[rh 55]}}
noncomputable def lv:List Str:=pw.boundNames.filter λn=>n !=("law" :Str)&&n !=("__name__" :Str)
noncomputable abbrev R0:OpenRow:=(PySem.Challenge.rw_tn0031_01).row
noncomputable def Kt(P:Params):Frag:=Kf P++(6,{cls:=.type "dict",data:=.dict #[]})::ff.map λa=>(a,tabObj #[])
section
set_option maxHeartbeats 0
noncomputable def Ad:Env:={scope:=pw.main.scope,locals:=mainNs,globals:=mainNs,cells:=[],code:=.ref 13,frame:=some 14}
noncomputable def q0:Pos:=⟨0,0,0,0⟩
noncomputable def pEnd:Pos:=⟨730,0,751,67⟩
noncomputable def cE:Code:=.body (behindTheImports pw) Ad
noncomputable def xr:List Obj→Nat→BT→BT
 |[],_,t=>t
 |o::r,i,t=>xr r (i+1) (t.ins i o)
noncomputable def Sa(w:World)(os:OsState):Shared:=match topGo treeTable pw w 11 (some (.ref 6)) 12 ⟨boot_heap w.params, #[],boot_drawn,boot_toks,os⟩ (topStub pw)with
 |some (s,_)=>s
 |none=>⟨{}, #[],{},1,os⟩
noncomputable def IL(w:World)(os:OsState):SharedT:=⟨xr (Sa w os).heap.objs.toList 0 .nil,15,(Sa w os).heap.life, #[],boot_drawn,187,os⟩
theorem pre(w:World)(os:OsState):topGo treeTable pw w 11 (some (.ref 6)) 12 ⟨boot_heap w.params, #[],boot_drawn,boot_toks,os⟩ (topStub pw)=some ((IL w os).abs,⟨denote treeTable cE,cE,q0,[topFrame q0]⟩):=by kernel_rfl
noncomputable def Bv:Frag→BT→BT
 |[],t=>t
 |p::r,t=>Bv r (t.set p.1 λ_=>p.2)
noncomputable def o3(P:Params):Obj:=match Kf P with
 |(_,⟨c,z,.dict es _,l⟩)::_=>⟨c,z,.dict ⟨en P "__name__" 165 nz::(es.toList.take 26).tail⟩ 26,l⟩
 |_=>default
noncomputable def Oq:Obj:=⟨.none,none,.fields ⟨[(1,20),(5,27),(10,48),(12,60),(14,72),(16,84),(24,96),(72,160),(93,202),(101,209),(111,231)].flatMap λp=>[.int p.1 0,.int 0 0,.ref p.2]⟩, #[]⟩
noncomputable def ST(w:World)(os:OsState)(x:Nat→Obj):SharedT:=
 ⟨Bv ((Kt w.params).filter (λp=>Nat.blt p.1 373)++(List.range 15).map (λi=>(i,((IL w os).tree.get i).getD default))++[(3,o3 w.params),(12,Oq)]) (xr ((List.range 373).map x) 0 .nil),
  373,(Sa w os).heap.life, #[],boot_drawn,695,os⟩
noncomputable def pM:Pos:=⟨230,0,230,8⟩
noncomputable def IM(w:World)(os:OsState):Option (Flow×SharedT×Code×Pos):=
 Fast.tw10110043849684766642 Fast.tw14364793385576792824 pw w 11 (some (.ref 6)) 1 3100 (IL w os) (piecesOf ((behindTheImports pw).take 21) Ad cE q0 [topFrame q0])
theorem E8(w:World)(os:OsState):IM w os=segRunT treeTable pw w 11 (some (.ref 6)) 1 3100 (IL w os) (piecesOf ((behindTheImports pw).take 21) Ad cE q0 [topFrame q0]):=by
 rw[Fast.te10110043849684766642,Fast.te14364793385576792824];rfl
noncomputable def Xo(w:World)(os:OsState)(i:Nat):Obj:=match IM w os with
 |some r=>(r.2.1.tree.get i).getD default
 |none=>default
theorem MS(w:World)(os:OsState):IM w os=some (.next,ST w os (Xo w os),cE,pM):=by kernel_rfl
noncomputable def IP(w:World)(os:OsState)(x:Nat→Obj):Option (Flow×SharedT×Code×Pos):=
 Fast.tw10110043849684766642 Fast.tw14364793385576792824 pw w 11 (some (.ref 6)) 1 3500 (ST w os x) (piecesOf ((behindTheImports pw).drop 21) Ad cE pM [topFrame q0])
theorem E9(w:World)(os:OsState)(x:Nat→Obj):IP w os x=segRunT treeTable pw w 11 (some (.ref 6)) 1 3500 (ST w os x) (piecesOf ((behindTheImports pw).drop 21) Ad cE pM [topFrame q0]):=by
 rw[Fast.te10110043849684766642,Fast.te14364793385576792824];rfl
noncomputable abbrev MC:Shared→Bool:=λs=>xlAt qv [] s&&recOk R0.records s
noncomputable def Bw(w:World)(r:Flow×SharedT×Code×Pos):=
 (r.1,r.2.2.1,r.2.2.2,(staticsOk (importedModules pw.main.body) (boot_heap w.params) r.2.1.abs.heap&&namesBound pw r.2.1.abs.heap&&gensDone r.2.1.abs&&laidKept (boot_heap w.params) r.2.1.abs.heap),
  openSeen qv lv (importedModules pw.main.body) MC true r.2.1.abs,r.2.1.n,(Kt w.params).map λp=>(r.2.1.tree.get p.1).bind alive)
theorem all(w:World)(os:OsState)(x:Nat→Obj):(IP w os x).map (Bw w)=some (.next,cE,pEnd,true,openGood qv lv,911,(Kt w.params).map λp=>some p.2):=by kernel_rfl
end
end Mine
end
section
open PySem PySem.W PyProof.Rows PySem.Calls
namespace Mine
theorem sZ:Clean (⟨.builtin "claim.caller" {},none,none,[],none⟩:Ctx):=⟨by decide,λq a=>by cases a⟩
theorem IQ{prog:Program}{w:World}{t:Sem Fin}{s:Shared}{R:Result→Shared→Prop}(d:s.asleep)
  (h:aX (model prog w) callerA t (λfin s'=>∃f,fin=.done f∧(R (.ok f) s'∧leftWithCleanup s'.gens=false)) (λe s'=>R (.error e) s'∧leftWithCleanup s'.gens=false) s):
  ∃n r s' c,runN (denote table) prog w n s ⟨t,.builtin "claim.caller" {},default,[]⟩=.halted (outcomeOf r) s'∧
   schedN (denote table) prog w n (.single s ⟨t,.builtin "claim.caller" {},default,[]⟩)=.halted (outcomeOf r) s'∧s'.forget=c.forget∧R r c:=by
 have hw:Sem.wp (model prog w) ⟨.builtin "claim.caller" {},none,none,[],none⟩ t (Sem.finPost (model prog w) ⟨.builtin "claim.caller" {},none,none,[],none⟩ λr s'=>R r s'∧leftWithCleanup s'.gens=false)
   (λe _ s'=>R (.error e) s'∧leftWithCleanup s'.gens=false) default s:=by
  refine Sem.wp_mono _ _ t (λfin p' s' h'=>?_) (λ_ _ _ h'=>h') default s (h ⟨.builtin "claim.caller" {},none,none,[],none⟩ default caller_in sZ)
  obtain⟨f,rfl,hf⟩:=h'
  exact hf
 obtain⟨n,r,b,a,i,j,g,k⟩:=wp_halts_full (M:=model prog w) (R:=R) d hw
 exact⟨n,r,a,b,j,i,g,k⟩
theorem xt{c:ClaimW}{tree:List Value→Sem Fin}{w:World}{s:Shared}{free:Addr→Prop}{gens:Prop}{kept:Heap→Prop}(F:s.asleep)(j:s.gens= #[])
  (d:∀args,c.pre args=true→WData.layableAll args=true→
   ∀ord:List DictEntry→List DictEntry,(∀l,(ord l).Perm l)→
   ∃vs a,layAllW c.records (classAt s.heap) w.params ord args s=some (vs,a)∧
    aX (model c.prog w) callerA (tree vs) (λfin s'=>∃f,fin=.done f∧(c.Ends s args vs a (.ok f) s'∧s'.os=s.os∧AllBare s'.gens∧kept s'.heap))
     (λe s'=>c.Ends s args vs a (.error e) s'∧s'.os=s.os∧AllBare s'.gens∧kept s'.heap) a):
  c.CallFrom (λvs=>⟨tree vs,.builtin "claim.caller" {},default,[]⟩) w free gens kept s:=λargs n u ord p=>
 (d args n u ord p).elim λvs z=>z.elim λa z=>
 have A:=layAllW_rest _ _ _ z.1
 (IQ (prog:=c.prog) (w:=w) (t:=tree vs) (s:=a) (R:=λr s'=>c.Ends s args vs a r s'∧s'.os=s.os∧kept s'.heap) (Shared.asleep_of_life A.2.2.2 F)
  (fu z.2 (λfin s' h=>h.elim λf h=>⟨f,h.1,⟨h.2.1,h.2.2.1,h.2.2.2.2⟩,leftWithCleanup_false_of_bare h.2.2.2.1⟩) λe s' h=>⟨⟨h.1,h.2.1,h.2.2.2⟩,leftWithCleanup_false_of_bare h.2.2.1⟩)).elim λk y=>y.elim λr y=>y.elim λs' y=>y.elim λD y=>
 have e:=Shared.forget_eq y.2.2.1
 have m:=y.2.2.2.1.congr e.1
 have g:s'.heap.life=s.heap.life:=(runN_life _ _ _ y.1).trans A.2.2.2
 have B:kept s'.heap:=e.1▸y.2.2.2.2.2
 ⟨vs,a,z.1,k,_,s',y.2.1,m.elim (λq=>q.elim λv q=>.inl ⟨v,congrArg outcomeOf q.1,q.2.1,q.2.2.1,q.2.2.2.1,λb o y _=>q.2.2.2.2.1 b o y,q.2.2.2.2.2⟩)
   (λq=>q.elim λG q=>q.elim λE q=>q.elim λcls q=>.inr ⟨G,E,cls,congrArg outcomeOf q.1,q.2.1,q.2.2.1,q.2.2.2.1,q.2.2.2.2.1,λb o y _=>q.2.2.2.2.2 b o y⟩),
  (λ_ i x C=>by rw[j]at C;exact nomatch C),B,by rw[g],Shared.rest_eq (e.2.2.2.1▸y.2.2.2.2.1)⟩
theorem IS{r:RowW}{run:Value→List Value→Sem Value}{tree:List Value→Sem Fin}{q:Program}{loose defs x:List Str}{writes:Bool}{Xt:Shared→Bool}{XP:(Str→Option Value)→Heap→Prop}{α:Type}{Yf:Shared→α}{Ya:World→α}{YP:World→Heap→Prop}{N:Nat}
  (left:LeftO r.prog q loose Xt Yf Ya N)(hY:∀w s,Yf s=Ya w→YP w s.heap)(Y:∀w h h',YP w h→(∀b o,h.get? b=some o→h'.get? b=some o)→YP w h')(hX:∀s,Xt s=true→XP (s.heap.nsMap mainGlobals) s.heap)(Z:∀mg h h',XP mg h→(∀b o,h.get? b=some o→h'.get? b=some o)→XP mg h')
  (Ot:∀s,Xt s=true→RecFacts r.records s.heap)(A:(!writes||r.records.isEmpty)=true)(ok:(chainsOk q&&opensWell r.prog&&(frees r&&r.within.isEmpty))=true)(hb:r.prog.bare)(hw:r.promised)
  (ht:∀vs(w:World)(s:Shared) mg f(Q:Fin→Shared→Prop)(E:Value→Shared→Prop),s.heap.Ns mainGlobals mg→mg r.name=some f→aX (model r.prog w) callerA (run f vs) (λv s'=>Q (.done (.ret v)) s') E s→aX (model r.prog w) callerA (tree vs) Q E s)
  (pin:∀w s,s.heap.isNs mainGlobals=true→Ground q loose [] XP w s (s.heap.nsMap mainGlobals) (s.heap.nsMap builtinsNs) s.heap→∀n∈defs,isTheDefsW r.prog s.heap n)
  (call:∀(w:World)(d a:Shared)(mg mb:Str→Option Value),Ground q loose r.records XP w d mg mb a.heap→YP w a.heap→∀(args:List WData)(vs:List Value)(as:List Addr),
   r.claim.pre args=true→WData.layableAll args=true→Laid r.records w d a args vs as→sysModules<d.heap.objs.size→∃f,mg r.name=some f∧
    aX (model r.prog w) callerA (run f vs) (λv s'=>GoodWG r.claim (classAt d.heap) (ExcName.means d.heap) args a (.ok (.ret v)) s')
     (λe s'=>GoodWG r.claim (classAt d.heap) (ExcName.means d.heap) args a (.error e) s') a):r.claim.HoldsOpenBy (λvs=>⟨tree vs,.builtin "claim.caller" {},default,[]⟩) defs x writes:=by
 obtain⟨ok,J⟩:=Bool.and_eq_true_iff.mp ok
 obtain⟨F,o1⟩:=Bool.and_eq_true_iff.mp ok
 obtain⟨J,k6⟩:=Bool.and_eq_true_iff.mp J
 obtain⟨l,hu,ha,V,hm⟩:=frees_parts J
 refine⟨⟨hb,o1,by show r.makers.map _=[];rw[hm];rfl⟩,hw.witness,λw=>⟨(left.behind hX F w).1,λs' M=>?_⟩⟩
 obtain⟨d,hf,S,s,hT,hz,k,U,i,y⟩:=(left.behind (XP:=λmg h=>XP mg h∧RecFacts r.records h) (λs hs=>⟨hX s hs,Ot s hs⟩) F w).2 s' M
 have G0:Ground q loose [] XP w s (s.heap.nsMap mainGlobals) (s.heap.nsMap builtinsNs) s.heap:=⟨i.T,i.B,i.D,i.TE,i.TD,i.W,i.X.1,i.cls,i.has,i.apart,i.once,i.K⟩
 have RF:=i.X.2
 have I:=hT
 refine⟨d,hf,S,s,hT,pin w s U G0,RF.1,RF.2.1,?_⟩
 have k:s.gens= #[]:=Array.eq_empty_of_size_eq_zero (beq_iff_eq.mp k)
 have G:Ground q loose r.records XP w s _ _ s.heap:=RF.ground G0
 refine xt (c:=r.claim) hz k λargs m t ord p=>?_
 obtain⟨⟨vs,a⟩,j⟩:=Option.isSome_iff_exists.mp (layAllW_isSome (P:=w.params) (ord:=ord) G.has args r.args s (pre_splitW m).1)
 have keeps:=layAllW_keeps _ _ _ j
 have H:=layAllW_rest _ _ _ j
 obtain⟨as,O,R,hold⟩:=reads_layAllW p _ _ _ j t a.heap (λ_ _ e=>e)
 have L:Laid r.records w s a args vs as:=⟨⟨ord,p,j⟩,O,R,hold,keeps,H.1.trans k,H.2.2.1⟩
 have u:=G.keeps Z keeps
 obtain⟨f,hf,h⟩:=call w s a _ _ u (Y _ _ _ (hY w s y) keeps) args vs as m t L G.low
 have hi:=ident_freeW hu ha V
 have C:r.claim.within=[]:=List.isEmpty_iff.mp k6
 exact⟨vs,a,j,ht vs w a _ f _ _ u.T.g hf (fu h (λv s' g=>⟨_,rfl,have z:=g.laid (c:=r.claim) l C hi L;⟨z.1,z.2.1,z.2.2,λq=>⟨namesKept_of I U x keeps g.2.1.old,noTable A q⟩⟩⟩) λe s' g=>have z:=g.laid (c:=r.claim) l C hi L;⟨z.1,z.2.1,z.2.2,λq=>⟨namesKept_of I U x keeps g.2.1.old,noTable A q⟩⟩)⟩
abbrev Bx(q:Program)(loose:List Str)(XP:(Str→Option Value)→Heap→Prop)(YP:World→Heap→Prop)(r:RowW)(d:DefRec)(f:List (Str×Expr))(run:Value→List Value→Sem Value):Prop:=
 ∀(w:World)(c b:Shared)(mg mb:Str→Option Value),Ground q loose r.records XP w c mg mb b.heap→YP w b.heap→∀(a:Addr)(o:Obj)(pm cd doc h g:Value),b.heap.get? a=some o→
  o.data=.func {docDef d.name d.params d.body d.scope pm cd doc with defaults:=h,kwdefaults:=g}→b.heap.CodeRec cd d.name→Dflts mg b.heap d.params f h g→mg d.name=some (.ref a)→b.gens= #[]→
  ∀(args:List WData)(vals:List Value)(as:List Addr),r.claim.pre args=true→WData.layableAll args=true→ReadsAllW r.records (classAt c.heap) b.heap vals args as→WellAll w.params b.heap vals args→(∀a∈as,(a==sysModules)=false)→
   aX (model r.prog w) callerA (run (.ref a) vals) (λv s'=>GoodWG r.claim (classAt c.heap) (ExcName.means c.heap) args b (.ok (.ret v)) s')
    (λe s'=>GoodWG r.claim (classAt c.heap) (ExcName.means c.heap) args b (.error e) s') b
theorem E_{r:OpenRow}{q:Program}{loose:List Str}{Xt:Shared→Bool}{XP:(Str→Option Value)→Heap→Prop}{v:Type}{Yf:Shared→v}{Ya:World→v}{YP:World→Heap→Prop}{d:DefRec}{e:List (Str×Expr)}{N:Nat}
  (left:LeftO r.prog q loose Xt Yf Ya N)(C:∀w s,Yf s=Ya w→YP w s.heap)(p:∀w h h',YP w h→(∀b o,h.get? b=some o→h'.get? b=some o)→YP w h')
  (D:∀s,Xt s=true→XP (s.heap.nsMap mainGlobals) s.heap)(t:∀mg h h',XP mg h→(∀b o,h.get? b=some o→h'.get? b=some o)→XP mg h')
  (c:defOf q r.name=some (d,e))(hp:r.prog.theDef r.name=some (d.params,d.body,d.scope))(hk:kwWritten? d.params.kwonlyargs d.params.kw_defaults=some e)(u:∀s,Xt s=true→RecFacts r.records s.heap)(l:(!r.writes||r.records.isEmpty)=true)
  (A:r.wellSaid=true)(ok:(chainsOk q&&opensWell r.prog&&(frees r.toRowW&&r.within.isEmpty))=true)(hb:r.prog.bare)(hw:r.toRowW.promised)
  (call:Bx q loose XP YP r.toRowW d e λf vs=>PySem.call f vs):r.Holds:=by
 refine⟨A,hw,IS (r:=r.toRowW) (run:=λf vs=>PySem.call f vs) (tree:=λvs=>do match←nsGet mainNs r.name with
   |some f=>do ret (←PySem.call f vs)
   |none=>unsupported "claim.caller:no-such-global") left C p D t u l ok hb hw
  (λvs w s mg f Q E m hf h=>bF (wpAny_nsGet m (by rw[hf];exact bK (fu h (λ_ _ x=>a9 x) λ_ _ x=>x))))
  (λw s m G n B=>?_) λw i g mg mb G Y args vs as j k L low=>?_⟩
 ·obtain rfl:n=r.name:=by split at B<;>simp_all
  exact pinned_of_view m G c hp hk
 ·obtain⟨a,o,pm,cd,doc,J,z,y,h2,I,H,F⟩:=G.fn c
  exact⟨.ref a,y,call w i g mg mb G Y a o pm cd doc J z h2 I H F (defOf_name c▸y) L.gens args vs as j k L.reads L.well (L.low low)⟩
end Mine
end
section
open PySem PySem.W PyProof.Rows
namespace Mine
section
set_option maxHeartbeats 0
noncomputable def Ks:List Addr:=(Kt {strHash:=λ_=>0,shareClass:=λ_=>0,mergeTok:=id,idOf:=λ_=>0,idOfShared:=λ_ _=>0,followText:=λ_=>false,idOfImm:=λ_=>0}).map (·.1)
theorem By(P:Params):Ks=(Kt P).map (·.1):=by kernel_rfl
theorem Lq:Ks.all (λa=>Nat.blt a 911)=true:=by decide+kernel
theorem xu{x:Option Obj}{o:Obj}(h:x.bind alive=some o):∃y,x=some y∧alive y=some o:=by
 cases x with
 |none=>cases h
 |some y=>exact⟨y,rfl,h⟩
theorem Bz{T:BT}{life:Life}:∀(K:Frag),K.all (λp=>Nat.blt p.1 911)=true→K.map (λp=>(T.get p.1).bind alive)=K.map (λp=>some p.2)→
  (K.map (·.1)).map (absHeap T 911 life).get? =K.map λp=>some p.2
 |[],_,_=>rfl
 |p::K,hl,e=>by
  simp only[List.all_cons,Bool.and_eq_true]at hl
  simp only[List.map_cons,List.cons.injEq]at e⊢
  obtain⟨y,a,b⟩:=xu e.1
  exact⟨(abs_get (Nat.le_of_ble_eq_true hl.1) a).trans b,Bz K hl.2 e.2⟩
theorem Lr:∀w:World,(fencedOpening treeTable pw w 13000).map (λs=>(s.heap,s.gens,s.drawn,s.toks))=some (boot_heap w.params,Array.mk [],boot_drawn,boot_toks):=
 boot_open (by kernel_rfl) (by decide) (λs=>by kernel_rfl)
theorem Ls:∀w:World,((boot_heap w.params).isNs mainGlobals&&(Array.mk ([]:List GenState)).size==0,(boot_heap w.params).objs.size,(boot_heap w.params).nsMap mainGlobals "__annotations__")=(true,11,some (.ref 6)):=λw=>by kernel_rfl
theorem MT(w:World):∀(s:Shared),topRun treeTable pw w 11 (some (.ref 6)) 2 s ⟨doneF .next,cE,pEnd,[topFrame q0]⟩=some s
 |⟨heap,gens,drawn,toks,os⟩=>by kernel_rfl
noncomputable abbrev Yo:Shared→List (Option Obj):=λs=>Ks.map s.heap.get?
noncomputable abbrev Yv:World→List (Option Obj):=λw=>(Kt w.params).map λp=>some p.2
theorem BA{p q:Program}{loose:List Str}{Xt:Shared→Bool}{v:Type}{Yf:Shared→v}{Ya:World→v}{w:World}{N g n1 n2 n3 n5 n4:Nat}{E:Bool}{a:Params→Heap}{j:Drawn}{i:Nat}{ann:Option Value}
  {env:Env}{c:Code}{b b1 b2:List Stmt}{m pa pm x:Pos}{SA SM:OsState→SharedT}{R:OsState→Option (Flow×SharedT×Code×Pos)}{u:Type}{seen:Flow×SharedT×Code×Pos→u}{good:u}
  (L:c=.body b env)(hb:b1++b2=b)
  (l:(fencedOpening treeTable p w N).map (λs=>(s.heap,s.gens,s.drawn,s.toks))=some (a w.params,Array.mk [],j,i))
  (size:((a w.params).isNs mainGlobals&&(Array.mk ([]:List GenState)).size==0,(a w.params).objs.size,(a w.params).nsMap mainGlobals "__annotations__")=(true,g,ann))
  (pre:∀os,topGo treeTable p w g ann n1 ⟨a w.params,Array.mk [],j,i,os⟩ (topStub p)=some ((SA os).abs,⟨denote treeTable c,c,pa,[topFrame m]⟩))
  (o:∀os,segRun treeTable p w g ann 1 n2 (SA os).abs (blockOf b env c pa [topFrame m])=some (.next,(SA os).abs,c,pa))
  (hA:∀os,segRunT treeTable p w g ann 1 n3 (SA os) (piecesOf b1 env c pa [topFrame m])=some (.next,SM os,c,pm))
  (M:∀os,R os=segRunT treeTable p w g ann 1 n5 (SM os) (piecesOf b2 env c pm [topFrame m]))
  (fin:∀s,topRun treeTable p w g ann n4 s ⟨doneF .next,c,x,[topFrame m]⟩=some s)
  (le:n1+(n2+(n3+(n5+n4)))≤N)
  (all:∀os,(R os).map seen=some good)
  (says:∀r,seen r=good→r.1=.next∧r.2.2.1=c∧r.2.2.2=x∧(staticsOk (importedModules p.main.body) (a w.params) r.2.1.abs.heap&&namesBound p r.2.1.abs.heap&&gensDone r.2.1.abs&&laidKept (a w.params) r.2.1.abs.heap)=true∧
   openSeen q loose (importedModules p.main.body) Xt E r.2.1.abs=openGood q loose∧Yf r.2.1.abs=Ya w):
  (openEnds treeTable p w N).map (λs=>(openSeen q loose (importedModules p.main.body) Xt E s,Yf s))=some (openGood q loose,Ya w):=by
 subst L
 obtain⟨⟨h,O,d,k,os⟩,e,e'⟩:=Option.map_eq_some_iff.mp l
 obtain⟨rfl,rfl,rfl,rfl⟩:h=a w.params∧O=Array.mk []∧d=j∧k=i:=by simpa using e'
 obtain⟨H,G,F⟩:_∧_∧_:=by simpa only[Prod.mk.injEq]using size
 obtain⟨⟨f,S,c',p'⟩,D,K⟩:=Option.map_eq_some_iff.mp (all os)
 obtain⟨C,B,A,z,l4,y⟩:=says _ K
 dsimp only at C B A z l4 y
 subst C B A
 rw[M os]at D
 have n:=piece_app (rest:=[]) (segRun_of D) (piece_nil (fin S.abs))
 rw[List.append_nil]at n
 have n:=piece_app (segRun_of (hA os)) n
 rw[hb]at n
 have J:=piece_block (q:=m) (o os) n
 have I:=go_top (pre os) J
 have r:=topRun_mono (N-(n1+(n2+(n3+(n5+n4))))) _ _ _ _ I
 rw[Nat.add_sub_cancel' le]at r
 have t:topFrom treeTable p w N ⟨a w.params,Array.mk [],d,k,os⟩=some S.abs:=by
  unfold topFrom
  dsimp only
  rw[H,G,F,r]
  dsimp only[Option.bind_some]
  rw[z]
 unfold openEnds
 rw[e]
 show(topFrom treeTable p w N _).map _=_
 rw[t]
 exact congrArg some (Prod.ext l4 y)
theorem MU(w:World)(os:OsState):segRun treeTable pw w 11 (some (.ref 6)) 1 1 (IL w os).abs (blockOf (behindTheImports pw) Ad cE q0 [topFrame q0])=some (.next,(IL w os).abs,cE,q0):=by kernel_rfl
theorem Lu(w:World)(r:Flow×SharedT×Code×Pos)(h:Bw w r=(.next,cE,pEnd,true,openGood qv lv,911,(Kt w.params).map λp=>some p.2)):
  r.1=.next∧r.2.2.1=cE∧r.2.2.2=pEnd∧(staticsOk (importedModules pw.main.body) (boot_heap w.params) r.2.1.abs.heap&&namesBound pw r.2.1.abs.heap&&gensDone r.2.1.abs&&laidKept (boot_heap w.params) r.2.1.abs.heap)=true∧
   openSeen qv lv (importedModules pw.main.body) MC true r.2.1.abs=openGood qv lv∧Yo r.2.1.abs=Yv w:=by
 obtain⟨f,⟨T,n,life,gens,drawn,toks,a⟩,c,p⟩:=r
 unfold Bw at h
 simp only[Prod.mk.injEq]at h
 obtain⟨j,h2,i,g,e,d,b⟩:=h
 refine⟨j,h2,i,g,e,?_⟩
 subst d
 show Ks.map (absHeap T 911 life).get? =_
 rw[By w.params]
 refine Bz (Kt w.params) ?_ b
 have q:=Lq
 rw[By w.params,List.all_map]at q
 exact q
theorem Lv:LeftO R0.prog qv lv MC Yo Yv 13000:=λw=>
 BA (SA:=IL w) (SM:=λos=>ST w os (Xo w os)) (R:=λos=>IP w os (Xo w os)) (n1:=12) (n2:=1) (n3:=3100) (n5:=3500) (n4:=2) rfl (List.take_append_drop 21 _) (Lr w) (Ls w) (pre w) (MU w) (λos=>(E8 w os).symm.trans (MS w os)) (λos=>E9 w os _) (MT w) (by decide) (λos=>all w os _) (Lu w)
theorem Ou:(sreFenced pw.main&&((moduleNames pw.main.body).isEmpty||lookedIntoSs (moduleNames pw.main.body) pw.main.body))=true:=by kernel_rfl
theorem Ov:(namesMeet pw pw.main.body λ_ n=>attrL n)=true:=by kernel_rfl
theorem Ox:noRoadLSs {strict:= !(importedModules pw.main.body).all cThrough.contains,foot:=none,bare:=(["vars","dir","locals"]:List Str).filter (readsOut pw pw.main.body)} pw.main.body=true:=by
 rw[Fast.te8326940854005059898];kernel_rfl
theorem Oy:namesResolve pw=true:=(congrFun Fast.te8377067652309620493 _).trans (by kernel_rfl)
theorem Oz:looksOpen pw=true:=by
 unfold looksOpen;rw[Ou,Ov,Ox,Oy];kernel_rfl
theorem OA:PySem.Challenge.rw_tn0031_01.row.partSaid=true:=by
 unfold OpenRow.partSaid;rw[show looksOpen PySem.Challenge.rw_tn0031_01.row.prog=true from Oz];kernel_rfl
theorem wellSaid:PySem.Challenge.rw_tn0031_01.wellSaid=true:=by
 unfold OpenLaw.wellSaid OpenRow.wellSaid;rw[OA];kernel_rfl
theorem head(call:∀d a,defOf qv R0.name=some (d,a)→Bx qv lv (XL qv []) (λw h=>(Kt w.params).In h) R0.toRowW d a λf vs=>PySem.call f vs):PySem.Challenge.rw_tn0031_01.Holds:=by
 refine holds_law wellSaid λb=>?_
 refine E_ (q:=qv) (loose:=lv) (Xt:=MC) (XP:=XL qv []) (Yf:=Yo) (Ya:=Yv) (YP:=λw h=>(Kt w.params).In h) (N:=13000) Lv (λw s e=>InK.of By w s e) (λw h h' x k=>x.keeps k)
  (λs e=>xl_of s (Bool.and_eq_true_iff.mp e).1) XL.keeps (by rfl) (by rfl) (by rfl) (λs e=>recFacts_of (Bool.and_eq_true_iff.mp e).2) (by rfl) (by assumption) (by decide+kernel) ⟨rfl,rfl,rfl,rfl,rfl,by decide+kernel⟩ ?hw (call _ _ (by rfl))
 case hw=>exact⟨[.list []],by kernel_rfl,by kernel_rfl⟩
end
end Mine
end
section
namespace Mine
noncomputable def BC:Hp:=⟨λ_ _=>.dD [],λ_=>0⟩
end Mine
end
section
open PySem PySem.W PyProof.Rows
namespace Mine
theorem gR{h:Heap}{c:Addr}{v:Option Value}(g:h.IsCell c v):aR h c:=g.imp λ_ g=>g.1
theorem f'{h:Heap}{c:Addr}{m:Str→Option Value}(g:h.Ns c m):aR h c:=g.imp λ_ g=>g.elim λ_ g=>g.elim λ_ g=>g.1
theorem rV{h:Heap}{L:Addr}{m:Str→Option Value}(n:h.Ns L m)(v:Option Value):¬h.IsCell L v:=λ⟨o,g,d⟩=>n.elim λ_ n=>n.elim λ_ n=>n.elim λ_ n=>nomatch d.symm.trans ((congrArg Obj.data (Option.some.inj (g.symm.trans n.1))).trans n.2.1)
noncomputable def ba(sc:Scope)(x:Str):Option NameKind:=sc.names.lookup x
structure FC where
 G:GC
 env:Env
 sc:Scope
 fr:List Env
 A:Around
structure FC.Ok(C:FC)(d:Nat):Prop where
 G:C.G.Ok
 hA:C.A.frames=some C.fr
 hd:C.A.handled=none
 guards:C.A.guards=some []
 kind:C.env.scope.kind=.function
 scope:∀n:Nm,match ba C.sc n.str with
  |some .local=>C.env.kindOf n.str=some .local
  |some .cell=>C.env.kindOf n.str=some .cell
  |some .free=>C.env.kindOf n.str=some .cell∨C.env.kindOf n.str=some .free
  |some .globalImplicit=>C.env.kindOf n.str=some .globalImplicit
  |_=>True
 glob:C.env.globals=mainGlobals
 blt:C.env.builtins=builtinsNs
 room:C.A.depth+10*d+30<recursionLimit
 units:C.A.units+60*d+200<cLine
 lb:∀(n m:Nm) c,C.env.cells.lookup n.str=some c→C.env.cells.lookup m.str=some c→n=m
 gr:∀n:Nm,C.env.kindOf n.str=some .cell∨C.env.kindOf n.str=some .free→(C.env.cells.lookup n.str).isSome=true
 code:C.sc.names.any (λx=>x.2==.cell)=true→∃c P,C.env.code=.ref c∧c∉ff∧P∈ff∧CodeHd C.G.h₀ c P
def lg(C:FC)(x:Addr):Prop:=x=C.env.locals∨(∃n:Nm,C.env.cells.lookup n.str=some x)∨∃e∈C.fr,e.frame=some x
structure dU(C:FC)(N:cb)(ρ:Loc)(h:Heap):Prop where
 ok:∀x,lg C x→N.own x=.t∧x∉ff∧C.G.h₀.get? x=none
 ns:∃m,h.Ns C.env.locals m∧∀n v,look n ρ=some v→C.env.kindOf n.str=some .local→∃u,m n.str=some u∧RV N h v u
 cells:∀(n:Nm) c,C.env.cells.lookup n.str=some c→∃ov,h.IsCell c ov∧∀v,look n ρ=some v→C.env.kindOf n.str=some .cell∨C.env.kindOf n.str=some .free→∃u,ov=some u∧RV N h v u
 frames:∀e∈C.fr,e.scope.kind≠ .module∧∃L,e.frame=some L∧∃o,h.get? L=some o∧f_ o
section
variable{C:FC}{Y Z:Addr→Prop}{N N':cb}{ρ:Loc}{h h':Heap}
theorem jI(e:Ext Y N N' h h'){c:Addr}{v:Option Value}(g:h.IsCell c v)(b:N.own c=.t)(a:¬Y c):h'.IsCell c v:=
 g.imp λo g=>⟨e.xp g.1 b a λq=>q.2.elim λ_ q=>q.elim λ_ q=>(nomatch g.2.symm.trans q),g.2⟩
theorem s_(e:Ext Y N N' h h'){L:Addr}{m:Str→Option Value}(n:h.Ns L m)(b:N.own L=.t)(a:¬Y L):h'.Ns L m:=
 n.elim λo n=>n.elim λes n=>n.elim λc n=>(e.oI L o n.1 b a).get.imp λd g=>⟨es,c,g.1,g.2.1.trans n.2.1,n.2.2⟩
theorem IT(e:Ext Y N N' h h'){L:Addr}{o:Obj}(g:h.get? L=some o)(d:f_ o)(c:N.own L=.t)(b:¬Y L):∃a,h'.get? L=some a∧f_ a:=
 (e.oI L o g c b).get.imp λa g=>⟨g.1,g.2.2.trans d.1,d.2.imp λes d=>d.imp λn d=>g.2.1.trans d⟩
theorem dU.al(F:dU C N ρ h)(x:Addr)(q:lg C x):aR h x:=
 q.elim (λe=>e▸F.ns.elim λ_ n=>f' n.1) λq=>q.elim (λq=>q.elim λn q=>(F.cells n x q).elim λ_ g=>gR g.1) λq=>q.elim λe q=>(F.frames e q.1).2.elim λL g=>Option.some.inj (g.1.symm.trans q.2)▸g.2.imp λ_ g=>g.1
theorem dU.moved(F:dU C N ρ h)(e:Ext Z N N' h h')(d:∀x,lg C x→¬Z x):dU C N' ρ h':=
 ⟨λx q=>⟨(e.own x (F.al x q) (d x q)).trans (F.ok x q).1,(F.ok x q).2⟩,
  F.ns.imp λm n=>⟨s_ e n.1 (F.ok _ (.inl rfl)).1 (d _ (.inl rfl)),λk v a b=>(n.2 k v a b).imp λu z=>⟨z.1,z.2.ext e⟩⟩,
  λn c q=>(F.cells n c q).imp λov g=>⟨jI e g.1 (F.ok c (.inr (.inl ⟨n,q⟩))).1 (d c (.inr (.inl ⟨n,q⟩))),λv a b=>(g.2 v a b).imp λu z=>⟨z.1,z.2.ext e⟩⟩,
  λv f=>⟨(F.frames v f).1,(F.frames v f).2.imp λL g=>⟨g.1,g.2.elim λo z=>IT e z.1 z.2 (F.ok L (.inr (.inr ⟨v,f,g.1⟩))).1 (d L (.inr (.inr ⟨v,f,g.1⟩)))⟩⟩⟩
theorem dU.ext(F:dU C N ρ h)(e:Ext YN N N' h h'):dU C N' ρ h':=F.moved e λ_ _ q=>q
end
noncomputable def ta:Addr:=76
def td(c:Heap)(e:Value)(h':Heap):Prop:=
 (∀b o,c.get? b=some o→h'.get? b=some o)∧∃x a vs d,e=.ref x∧h'.get? x=some a∧a.cls=.ref ta∧a.data=.fields vs∧vs[1]? =some .none∧vs[0]? =some d∧c.get? x=none
def u_(l:List Env)(N:cb)(a:Heap)(e:Value)(h':Heap):Prop:=
 ∃(x:Addr)(b:Value)(B:Heap),e=.ref x∧Heap.FlyingW B l x (.ref ta) b h'∧(∀y o,a.get? y=some o→B.get? y=some o∨(N.own y=.t∧f_ o))∧a.UpToSlots h'
def u'(Y:Addr→Prop)(C:FC)(N:cb)(b:Hp)(h:Heap)(e:Value)(s':Shared):Prop:=
 ∃a N',aO C.G N' b {s' with heap:=a}∧Ext Y N N' h a∧(td a e s'.heap∨u_ C.fr N' a e s'.heap)
theorem u'.before{Y:Addr→Prop}{C:FC}{N b:cb}{c:Hp}{h a:Heap}{e:Value}{s':Shared}(x:Ext Y N b h a)(p:u' Y C b c a e s'):u' Y C N c h e s':=
 p.imp λd p=>p.imp λN' p=>⟨p.1,x.trans p.2.1,p.2.2⟩
def KY{c d:Type}(P:cb→Heap→d→c→Prop)(C:FC)(t:Sem c)(ρ:Loc)(H:Hp)(b:d)(e:Hp):Prop:=
 ∀N s(Q:c→Shared→Prop)(E:Value→Shared→Prop),aO C.G N H s→dU C N ρ s.heap→(∀a s' N',aO C.G N' e s'→Ext YN N N' s.heap s'.heap→P N' s'.heap b a→Q a s')→aX (model pw C.G.w) C.A t Q E s
def MW{a:Type}(C:FC)(t:Sem a)(ρ:Loc)(H b:Hp):Prop:=
 ∀N s(Q:a→Shared→Prop)(E:Value→Shared→Prop),aO C.G N H s→dU C N ρ s.heap→(∀e s',u' YN C N b s.heap e s'→E e s')→aX (model pw C.G.w) C.A t Q E s
def BB(_:cb)(_:Heap)(b v:Bool):Prop:=v=b
section
variable{C:FC}{d:Nat}{N:cb}{H:Hp}{s:Shared}
theorem yQ(P:Params):(Kf P).all (λp=> !ff.contains p.1)=true:=by kernel_rfl
theorem jH(O:C.Ok d)(I:aO C.G N H s):(Kf C.G.w.params).In s.heap:=λa o e=>I.old a o (O.G.jH a o e) λb=>by
 have:=List.all_eq_true.mp (yQ C.G.w.params) (a,o) (mem_of_lookupK e)
 rw[show ff.contains (a,o).1=true from List.contains_iff_mem.mpr b]at this
 cases this
theorem p6(O:C.Ok d)(I:aO C.G N H s){a:Addr}{m:Str→Option Value}(g:C.G.h₀.Ns a m)(ht:a∉ff):s.heap.Ns a m:=
 g.imp λo g=>g.imp λes g=>g.imp λb g=>⟨I.old _ _ g.1 ht,g.2⟩
theorem p7(O:C.Ok d)(I:aO C.G N H s):s.heap.NoLimit:=O.G.nolimit.imp λ_ q=>⟨p6 O I q.1 (by decide),q.2⟩
theorem Lw(P:Params):((Kf P).lookup 910).isSome=true:=by kernel_rfl
theorem me(O:C.Ok d)(I:aO C.G N H s):910<s.heap.objs.size:=(Option.isSome_iff_exists.mp (Lw C.G.w.params)).elim λ_ q=>Heap.lt_size (jH O I _ _ q)
theorem Lx:∀x∈ff,x≤910:=by decide
theorem dB(O:C.Ok d)(I:aO C.G N H s){x:Addr}(a:s.heap.objs.size≤x):x∉ff:=λq=>absurd (Lx x q) (Nat.not_le.mpr (Nat.lt_of_lt_of_le (me O I) a))
theorem gS(O:C.Ok d)(I:aO C.G N H s):s.heap.objs.size∉ff:=dB O I (Nat.le_refl _)
theorem yR{a:Addr}(h:910<a):(a==sysModules)=false:=beq_eq_false_iff_ne.mpr λq=>absurd h (q▸(by decide:¬910<sysModules))
theorem FC.Ok.less{m:Nat}(O:C.Ok (m+1)):C.Ok m:={O with room:=Nat.lt_of_le_of_lt (Nat.add_le_add_right (Nat.add_le_add_left (Nat.mul_le_mul_left 10 (Nat.le_succ m)) _) 30) O.room,units:=Nat.lt_of_le_of_lt (Nat.add_le_add_right (Nat.add_le_add_left (Nat.mul_le_mul_left 60 (Nat.le_succ m)) _) 200) O.units}
end
noncomputable def cb.add(N:cb)(c:Cl)(k:Nat)(a d:Addr):cb:=⟨λc' e=>if c'=c∧e=k then a else N.x c' e,λc' e=>if c'=c∧e=k then d else N.d c' e,λb=>if b=a∨b=d then .o c k else N.own b⟩
noncomputable def cb.upd(N:cb)(Z:Addr→Prop)[DecidablePred Z](v:Ow):cb:=⟨N.x,N.d,λb=>if Z b then v else N.own b⟩
section
variable{w:World}{Z:Addr→Prop}{N N':cb}{H:Hp}{h h':Heap}{a d:Addr}{c:Cl}{k:Nat}{v:MO}
theorem Ext.KZ(own:∀x,¬Z x→N'.own x=N.own x)(uW:∀c k,N.own (N.x c k)=.o c k→N'.x c k=N.x c k∧N'.d c k=N.d c k)(e:∀x o,¬Z x→h.get? x=some o→h'.get? x=some o)(Bu:∀x,Z x→N.own x=.t∨(N.own x=.no∧h.get? x=none)):Ext Z N N' h h':=
 .MB (λx _ b=>own x b) (λx a b=>a.imp λo=>e x o b) (λx _ b=>own x b) uW (λx o g _ b=>e x o b g) Bu
theorem Ext.dead(e:Ext Z N N' h h')(b:∀x,Z x→¬aR h x)(lt:∀x,N.own x≠ .no→aR h x):Ext YN N N' h h':=(Ext.refl N h).comp e (λx q=>.inr (b x q)) lt
theorem uX.step(R:uX w N H h)(e:Ext Z N N' h h')(lt:∀x,Z x→N'.own x≠ .no→aR h' x)(E0:∀x c k,Z x→N'.own x=.o c k→k<H.n c)(own:∀x,¬Z x→N'.own x=N.own x)(b:∀x o,¬Z x→h.get? x=some o→h'.get? x=some o):uX w N' H h':=
 ⟨λc j q=>(R.o c j q).keep e λx o a g=>b x o (e.IK a) g,e.tab R.t,λx q=>(Classical.em (Z x)).elim (λz=>lt x z q) λz=>(R.lt x (own x z▸q)).imp λo g=>b x o z g,λx c j q=>(Classical.em (Z x)).elim (λz=>E0 x c j z q) λz=>R.E0 x c j ((own x z).symm.trans q)⟩
theorem ew(e:N.own a=.o c k)(al:aR h' a)(b:Heap.SameBut a h h'):Ext YN N N h h':=
 .MB (λ_ _ _=>rfl) (λx g _=>g.but b al) (λ_ _ _=>rfl) (λ_ _ _=>⟨rfl,rfl⟩) (λx o g f _=>(b.2 x λq=>f c k (q▸e)).trans g) λ_ q=>q.elim
theorem Hp.b4{c':Cl}{b:Nat}(q:¬(c'=c∧b=k)):(H.set c k v).o c' b=H.o c' b:=if_neg q
theorem Hp.bQ:(H.set c k v).o c k=v:=if_pos ⟨rfl,rfl⟩
theorem uX.set(R:uX w N H h)(i:N.own a=.o c k)(al:aR h' a)(b:Heap.SameBut a h h')(new:At w N h' c k v):uX w N (H.set c k v) h':=by
 have e:=ew i al b
 refine⟨λc' f q=>?_,e.tab R.t,λx q=>(R.lt x q).but b al,R.E0⟩
 by_cases z:c'=c∧f=k
 ·rw[z.1,z.2,Hp.bQ];exact new
 ·rw[Hp.b4 z]
  exact(R.o c' f q).keep e λx o r g=>(b.2 x λy=>z (by rw[y,i]at r;cases r;exact⟨rfl,rfl⟩)).trans g
theorem Hp.eh{c':Cl}{b:Nat}(q:¬(c'=c∧b=H.n c)):(H.new c v).o c' b=H.o c' b:=if_neg q
theorem Hp.dN:(H.new c v).o c (H.n c)=v:=if_pos ⟨rfl,rfl⟩
theorem Hp.IU{c':Cl}{b:Nat}(q:b<(H.new c v).n c')(z:¬(c'=c∧b=H.n c)):b<H.n c':=by
 have q:b<if c'=c then H.n c+1 else H.n c':=q
 by_cases e:c'=c
 ·cases e
  rw[if_pos rfl]at q
  exact(Nat.lt_succ_iff_lt_or_eq.mp q).elim id λr=>absurd ⟨rfl,r⟩ z
 ·rw[if_neg e]at q;exact q
theorem Hp.IV{c':Cl}{b:Nat}(q:b<H.n c'):b<(H.new c v).n c':=by
 show b<if c'=c then H.n c+1 else H.n c'
 by_cases e:c'=c
 ·cases e;rw[if_pos rfl];exact Nat.lt_succ_of_lt q
 ·rw[if_neg e];exact q
theorem Hp.BD:H.n c<(H.new c v).n c:=by show _<if c=c then _ else _;rw[if_pos rfl];exact Nat.lt_succ_self _
theorem cb.rW:(N.add c k a d).x c k=a:=if_pos ⟨rfl,rfl⟩
theorem cb.Ly:(N.add c k a d).d c k=d:=if_pos ⟨rfl,rfl⟩
theorem cb.yS:(N.add c k a d).own a=.o c k:=if_pos (.inl rfl)
theorem cb.E':(N.add c k a d).own d=.o c k:=if_pos (.inr rfl)
theorem mf(R:uX w N H h)(g:N.own a=.t∨(N.own a=.no∧h.get? a=none))(f:N.own d=.t∨(N.own d=.no∧h.get? d=none))(i:∀x o,¬(x=a∨x=d)→h.get? x=some o→h'.get? x=some o):Ext (λx=>x=a∨x=d) N (N.add c (H.n c) a d) h h':=
 .KZ (λx q=>if_neg q) (λc' b q=>have z:¬(c'=c∧b=H.n c):=λz=>Nat.lt_irrefl b (Nat.lt_of_lt_of_eq (R.E0 _ c' b q) ((congrArg H.n z.1).trans z.2.symm));⟨if_neg z,if_neg z⟩) i λx q=>q.elim (λe=>e▸g) λe=>e▸f
theorem uX.add(R:uX w N H h)(i:N.own a=.t∨(N.own a=.no∧h.get? a=none))(g:N.own d=.t∨(N.own d=.no∧h.get? d=none))(f:∀x o,¬(x=a∨x=d)→h.get? x=some o→h'.get? x=some o)(j:aR h' a)(ld:aR h' d)
  (new:∀N',N'=N.add c (H.n c) a d→xq w N' h' c (H.n c) a d v):uX w (N.add c (H.n c) a d) (H.new c v) h':=by
 have e:=mf R i g f (c:=c)
 refine⟨λc' b q=>?_,e.tab R.t,λx q=>?_,λx c' b q=>?_⟩
 ·by_cases z:c'=c∧b=H.n c
  ·rw[z.1,z.2,Hp.dN]
   exact⟨cb.rW.symm▸cb.yS,cb.rW.symm▸cb.Ly.symm▸new _ rfl⟩
  ·rw[Hp.eh z]
   exact(R.o c' b (Hp.IU q z)).keep e λx o r=>f x o (e.IK r)
 ·by_cases z:x=a∨x=d
  ·exact z.elim (λe=>e▸j) λe=>e▸ld
  ·exact(R.lt x λr=>q ((if_neg z).trans r)).imp λo=>f x o z
 ·by_cases z:x=a∨x=d
  ·cases(if_pos z).symm.trans q;exact Hp.BD
  ·exact Hp.IV (R.E0 x c' b ((if_neg z).symm.trans q))
end
section
variable{G:GC}{Z:Addr→Prop}{N N':cb}{H H':Hp}{s:Shared}
theorem aO.step(I:aO G N H s){h':Heap}(R:uX G.w N' H' h')(c:∀x o,¬Z x→s.heap.get? x=some o→h'.get? x=some o)(own:∀x,¬Z x→N'.own x=N.own x)(a:∀x o,Z x→G.h₀.get? x≠some o)(t:Nat):aO G N' H' {s with heap:=h',toks:=t}:=
 ⟨λb o e hb=>c b o (λz=>a b o z e) (I.old b o e hb),λb o e=>(own b λz=>a b o z e).trans (I.iR b o e),R,I.gens,I.os⟩
theorem aO.BE(I:aO G N H s){a:Addr}(q:N.own a≠ .no)(o:Obj):G.h₀.get? a≠some o:=λe=>q (I.iR a o e)
theorem aO.yT(I:aO G N H s){a:Addr}(q:¬aR s.heap a)(t:a∉ff)(o:Obj):G.h₀.get? a≠some o:=λe=>q ⟨o,I.old a o e t⟩
theorem Ext.ir(N:cb){h h':Heap}(k:∀b o,h.get? b=some o→h'.get? b=some o):Ext YN N N h h':=.KZ (λ_ _=>rfl) (λ_ _ _=>⟨rfl,rfl⟩) (λx o _=>k x o) λ_ q=>q.elim
theorem aO.ir(I:aO G N H s){h':Heap}(k:∀b o,s.heap.get? b=some o→h'.get? b=some o)(t:Nat):aO G N H {s with heap:=h',toks:=t}:=
 I.step (Z:=YN) (I.hp.step (Ext.ir N k) (λ_ q=>q.elim) (λ_ _ _ q=>q.elim) (λ_ _=>rfl) λx o _=>k x o) (λx o _=>k x o) (λ_ _=>rfl) (λ_ _ q=>q.elim) t
theorem aO.set(I:aO G N H s){a:Addr}{c:Cl}{k:Nat}{v:MO}{h':Heap}(d:N.own a=.o c k)(al:aR h' a)(b:Heap.SameBut a s.heap h')(new:At G.w N h' c k v)(t:Nat):aO G N (H.set c k v) {s with heap:=h',toks:=t}:=
 I.step (Z:=(· =a)) (I.hp.set d al b new) (λx o q g=>(b.2 x q).trans g) (λ_ _=>rfl) (λx o q=>q▸I.BE (λr=>nomatch d.symm.trans r) o) t
theorem gO{h h':Heap}{a:Addr}(c:N.own a=.t)(b:Heap.SameBut a h h'):Ext (· =a) N N h h':=.KZ (λ_ _=>rfl) (λ_ _ _=>⟨rfl,rfl⟩) (λx o q g=>(b.2 x q).trans g) λx q=>q▸ .inl c
theorem aO.va(I:aO G N H s){a:Addr}{h':Heap}(d:N.own a=.t)(b:Heap.SameBut a s.heap h')(al:aR h' a)(t:Nat):aO G N H {s with heap:=h',toks:=t}:=
 I.step (Z:=(· =a)) (I.hp.step (gO d b) (λx q _=>q▸al) (λx c k q r=>nomatch (q▸d).symm.trans r) (λ_ _=>rfl) λx o q g=>(b.2 x q).trans g) (λx o q g=>(b.2 x q).trans g) (λ_ _=>rfl) (λx o q=>q▸I.BE (λr=>nomatch d.symm.trans r) o) t
theorem Ext.mark{w:World}(R:uX w N H s.heap)(Z:Addr→Prop)[DecidablePred Z]{h':Heap}(k:∀b o,s.heap.get? b=some o→h'.get? b=some o)(a:∀x,Z x→¬aR s.heap x):Ext Z N (N.upd Z .t) s.heap h':=
 .KZ (λx q=>if_neg q) (λ_ _ _=>⟨rfl,rfl⟩) (λx o _=>k x o) λx q=>.inr ⟨Classical.byContradiction λr=>a x q (R.lt x r),match z:s.heap.get? x with
  |none=>rfl
  |some o=>absurd ⟨o,z⟩ (a x q)⟩
theorem aO.mark(I:aO G N H s)(Z:Addr→Prop)[DecidablePred Z]{h':Heap}(k:∀b o,s.heap.get? b=some o→h'.get? b=some o)(a:∀x,Z x→¬aR s.heap x∧x∉ff∧aR h' x)(t:Nat):aO G (N.upd Z .t) H {s with heap:=h',toks:=t}:=
 I.step (Z:=Z) (I.hp.step (Ext.mark I.hp Z k λx q=>(a x q).1) (λx q _=>(a x q).2.2) (λx c j q r=>nomatch (if_pos q).symm.trans r) (λx q=>if_neg q) λx o _=>k x o) (λx o _=>k x o) (λx q=>if_neg q) (λx o q=>I.yT (a x q).1 (a x q).2.1 o) t
theorem Ext.yU(I:aO G N H s)(Z:Addr→Prop)[DecidablePred Z]{h':Heap}(k:∀b o,s.heap.get? b=some o→h'.get? b=some o)(a:∀x,Z x→¬aR s.heap x):Ext YN N (N.upd Z .t) s.heap h':=(Ext.mark I.hp Z k a).dead a I.hp.lt
theorem aO.add(I:aO G N H s){c:Cl}{v:MO}{a d:Addr}{h':Heap}(f:N.own a=.t∨(N.own a=.no∧s.heap.get? a=none∧a∉ff))(b:N.own d=.t∨(N.own d=.no∧s.heap.get? d=none∧d∉ff))(g:∀x o,¬(x=a∨x=d)→s.heap.get? x=some o→h'.get? x=some o)(h:aR h' a)(ld:aR h' d)
  (new:∀N',N'=N.add c (H.n c) a d→xq G.w N' h' c (H.n c) a d v)(t:Nat):aO G (N.add c (H.n c) a d) (H.new c v) {s with heap:=h',toks:=t}:=
 I.step (Z:=λx=>x=a∨x=d) (I.hp.add (f.imp_right λq=>⟨q.1,q.2.1⟩) (b.imp_right λq=>⟨q.1,q.2.1⟩) g h ld new) g (λx q=>if_neg q) (λx o q e=>
  have no:∀y,(N.own y=.t∨(N.own y=.no∧s.heap.get? y=none∧y∉ff))→G.h₀.get? y≠some o:=λy z=>z.elim (λz=>I.BE (λr=>nomatch z.symm.trans r) o) λz=>I.yT (λq=>q.elim λ_ q=>nomatch z.2.1.symm.trans q) z.2.2 o
  q.elim (λr=>no a f (r▸e)) λr=>no d b (r▸e)) t
end
end Mine
end
section
open PySem PySem.W PyProof.Rows PySem.Calls
namespace Mine
structure NZ where
 e:Expr
 ss:List Stmt
abbrev PT:=List Nat→NZ
noncomputable def e0:Expr:=.Constant .none 0 ⟨0,0,0,0⟩
noncomputable def kids:Expr→List Expr
 | .BoolOp _ vs _=>vs
 | .BinOp l _ r _=>[l,r]
 | .UnaryOp _ e _=>[e]
 | .Lambda _ b _ _=>[b]
 | .IfExp t a b _=>[t,a,b]
 | .Dict ks vs _=>ks.filterMap id++vs
 | .ListComp e [⟨t,i,ifs,_⟩] _ _=>e::t::i::ifs
 | .Compare l _ rs _=>l::rs
 | .Call f args _ _=>f::args
 | .Attribute o _ _=>[o]
 | .Subscript o i _=>[o,i]
 | .List es _=>es
 | .Tuple es _ _=>es
 | .Slice lo hi _ _=>[lo.getD e0,hi.getD e0]
 |_=>[]
noncomputable def nd(a:NZ)(l:List PT):PT
 |[]=>a
 |i::q=>(l.getD i λ_=>a) q
noncomputable def Ae:Nat→Expr→PT
 |0,e=>nd ⟨e,[]⟩ []
 |n+1,e=>nd ⟨e,[]⟩ ((kids e).map (Ae n))
noncomputable def K0:Nat→Stmt→PT
 |0,s=>nd ⟨e0,[s]⟩ []
 |n+1,s=>nd ⟨e0,[s]⟩ (match s with
  | .Expr e _=>[Ae 20 e]
  | .Return (some e) _=>[Ae 20 e]
  | .Assign [t] e _=>[Ae 20 t,Ae 20 e]
  | .AugAssign t _ e _=>[Ae 20 t,Ae 20 e]
  | .For t i b _ _=>[Ae 20 t,Ae 20 i,nd ⟨e0,b⟩ (b.map (K0 n))]
  | .While t b _ _=>[Ae 20 t,nd ⟨e0,b⟩ (b.map (K0 n))]
  | .If t a b _=>[Ae 20 t,nd ⟨e0,a⟩ (a.map (K0 n)),nd ⟨e0,b⟩ (b.map (K0 n))]
  | .Raise (some e) _ _=>[Ae 20 e]
  | .Try b _ _ _ _=>[nd ⟨e0,b⟩ (b.map (K0 n))]
  | .Delete [t] _=>[Ae 20 t]
  |_=>[])
noncomputable def BF(b:List Stmt):PT:=nd ⟨e0,b⟩ (b.map (K0 10))
noncomputable def sub(p:PT)(i:Nat):PT:=λl=>p (i::l)
structure XE where
 b:PT→Expr
 ok:Scope→PT→Bool
 st:∀p r env,starEach (b p::r) env=(false,eval (b p) env)::starEach r env:=by intros;rfl
 sl:∀p,isSlice (b p)=false:=by intros;rfl
 fo:∀p env x,foldedSetIterable (b p) env x=pure x:=by intros;rfl
 cp:Bool:=true
 sw:cp=true→∀p t l env,swapsWith (b p) t l env=pure false:=by first|(intros;rfl)|exact nofun
 sa:∀p o a q l env,swapsWith (b p) (some (.Attribute o a q)) l env=pure false:=by intros;rfl
 pb:Bool:=true
 ab:pb=true→∀p s env t,attributeBase (b p) s env t=t:=by first|(intros;rfl)|exact nofun
 tv:Bool:=true
 tr:tv=true→∀p env t,isTrue (b p) env t=(do let v←t;standAt (b p).pos;holding [v] (truthy v)):=by first|(intros;rfl)|exact nofun
noncomputable def bL:List XE→PT→Nat→List Expr
 |[],_,_=>[]
 |x::r,p,i=>x.b (sub p i)::bL r p (i+1)
noncomputable def xe:List XE→Scope→PT→Nat→Bool
 |[],_,_,_=>true
 |x::r,sc,p,i=>x.ok sc (sub p i)&&xe r sc p (i+1)
noncomputable def pE(p:PT):Pos:=(p []).e.pos
def Ev(d:Nat)(x:XE)(ρ:Loc)(H:Hp)(v:MV)(a:Hp):Prop:=∀C p,FC.Ok C d→x.ok C.sc p=true→KY RV C (eval (x.b p) C.env) ρ H v a
def K9(d:Nat)(x:XE)(ρ:Loc)(H a:Hp):Prop:=∀C p,FC.Ok C d→x.ok C.sc p=true→MW C (eval (x.b p) C.env) ρ H a
def ik(d:Nat)(x:XE)(ρ:Loc)(H:Hp)(b:Bool)(a:Hp):Prop:=∀C p,FC.Ok C d→x.ok C.sc p=true→KY BB C (isTrue (x.b p) C.env (eval (x.b p) C.env)) ρ H b a
def p8(d:Nat)(xs:List XE)(ρ:Loc)(H:Hp)(vs:List MV)(a:Hp):Prop:=∀C p i pos,FC.Ok C d→xe xs C.sc p i=true→KY dE C (spliced (backTo pos (starEach (bL xs p i) C.env))) ρ H vs a
theorem aV{a b:Bool}(h:(a&&b)=true):a=true:=by cases a<;>first|rfl|cases h
theorem aF{a b:Bool}(h:(a&&b)=true):b=true:=by cases a<;>first|exact h|cases h
noncomputable def N4:Expr→Nat
 | .Constant _ k _=>k
 | .Tuple _ k _=>k
 |_=>0
noncomputable def pK(p:PT):Nat:=N4 (p []).e
noncomputable def xC(c:Const):XE:={b:=λp=>.Constant c (pK p) (pE p),ok:=λ_ _=>true}
noncomputable abbrev bj:XE:=xC .none
noncomputable abbrev cw(b:Bool):XE:=xC (.bool b)
noncomputable abbrev av(i:Int):XE:=xC (.int i)
noncomputable abbrev a5(n:Nm):XE:=xC (.str n.str)
noncomputable abbrev nG(b:List UInt8):XE:=xC (.bytes b)
section
variable{d:Nat}{ρ:Loc}{H:Hp}
theorem a3:Ev d bj ρ H .none H:=λC p _ _ N s Q E I F k=>aX.of (show wpAny _ _ (constValue _ _) _ _ _ from wpAny_pure (k _ _ N I (.refl _ _) .none))
theorem dV{b:Bool}:Ev d (cw b) ρ H (.bool b) H:=λC p _ _ N s Q E I F k=>aX.of (show wpAny _ _ (constValue _ _) _ _ _ from wpAny_pure (k _ _ N I (.refl _ _) (.bool b)))
theorem ar{i:Int}:Ev d (av i) ρ H (.int i) H:=λC p _ _ N s Q E I F k=>aX.of (show wpAny _ _ (constValue _ _) _ _ _ from wpAny_mkInt (k _ _ N (I.tok _) (.refl _ _) (.int i _)))
theorem a7{n:Nm}:Ev d (a5 n) ρ H (.str n) H:=λC p _ _ N s Q E I F k=>aX.of (show wpAny _ _ (constValue _ _) _ _ _ from wpAny_mkText (k _ _ N (I.tok _) (.refl _ _) (.str n _)))
theorem gb{b:List UInt8}{bs:ByteArray}:Ev d (xC (.bytes b)) ρ H (.bytes b) H:=λC p _ _ N s Q E I F k=>aX.of (show wpAny _ _ (constValue _ _) _ _ _ from wpAny_mkTextBytes (k _ _ N (I.tok _) (.refl _ _) (.bytes b _)))
end
noncomputable def HT:Option NameKind→Bool
 |some .local|some .cell|some .free=>true
 |_=>false
noncomputable def gT:Option NameKind→Bool
 |some .globalImplicit=>true
 |_=>false
noncomputable def te(n:Nm):Bool:= !(n.str==("__debug__" :Str))&& !(n.str==("__classdict__" :Str))
noncomputable def aa(n:Nm):XE:={b:=λp=>.Name n.str (pE p),ok:=λsc _=>HT (ba sc n.str)&&te n}
noncomputable def eP(n:Nm):XE:={b:=λp=>.Name n.str (pE p),ok:=λsc _=>gT (ba sc n.str)&&te n}
theorem BG{n:Nm}(h:te n=true):(n.str==("__debug__" :Str))=false:=by have:=aV h;simpa using this
theorem Lz{n:Nm}(h:te n=true):(n.str==("__classdict__" :Str))=false:=by have:=aF h;simpa using this
section
variable{d:Nat}{ρ:Loc}{H:Hp}{C:FC}
theorem FC.Ok.loc(O:C.Ok d){n:Nm}(h:HT (ba C.sc n.str)=true):C.env.kindOf n.str=some .local∨C.env.kindOf n.str=some .cell∨C.env.kindOf n.str=some .free:=by
 have o:=O.scope n
 cases e:ba C.sc n.str with
 |none=>rw[e]at h;cases h
 |some k=>
  rw[e]at h o
  cases k with
  |«local»=>exact .inl o
  |cell=>exact .inr (.inl o)
  |free=>exact .inr o
  |_=>cases h
theorem FC.Ok.gl(O:C.Ok d){n:Nm}(h:gT (ba C.sc n.str)=true):C.env.kindOf n.str=some .globalImplicit:=by
 have o:=O.scope n
 cases e:ba C.sc n.str with
 |none=>rw[e]at h;cases h
 |some k=>
  rw[e]at h o
  cases k with
  |globalImplicit=>exact o
  |_=>cases h
theorem ae{n:Nm}{v:MV}(l:look n ρ=some v):Ev d (aa n) ρ H v H:=λC p O z N s Q E I F k=>.of (wpAny_Name ((O.loc (aV z)).elim
 (λq=>F.ns.elim λm r=>(r.2 n v l q).elim λu y=>wpAny_loadName_local O.kind q r.1 y.1 (k u s N I (.refl _ _) y.2))
 λq=>(Option.isSome_iff_exists.mp (O.gr n q)).elim λc a=>(F.cells n c a).elim λov g=>(g.2 v l q).elim λu y=>
  have b:=y.1▸g.1
  q.elim (λq=>wpAny_loadName_cell O.kind q a b (k u s N I (.refl _ _) y.2)) λq=>wpAny_loadName_free O.kind q a b (k u s N I (.refl _ _) y.2) (Lz (aF z))) (BG (aF z)))
def vb(n:Nm):MV→Prop
 | .int i=>∀P,∃t,nsIn (Kf P) mainGlobals n.str=some (some (.int i t))
 | .str m=>∀P,∃t,nsIn (Kf P) mainGlobals n.str=some (some (.str m.str t))
 |_=>False
theorem mh(O:C.Ok d){N:cb}{s:Shared}(I:aO C.G N H s){n:Nm}(z:(gT (ba C.sc n.str)&&te n)=true){u:Value}(g:nsIn (Kf C.G.w.params) mainGlobals n.str=some (some u)){p:Pos}{Q:Value→Shared→Prop}{E:Value→Shared→Prop}(k:Q u s):wpAny (model pw C.G.w) C.A (eval (.Name n.str p) C.env) Q E s:=
 Calls.Name_function_global O.kind (O.gl (aV z)) (Calls.loadGlobal_global (mg:=C.G.mg) (O.glob.symm▸p6 O I O.G.g (by decide)) (mg_of O.G.jH O.G.g g) k) (BG (aF z))
theorem dg{n:Nm}{i:Int}(g:vb n (.int i)):Ev d (eP n) ρ H (.int i) H:=λC p O z N s Q E I F k=>.of ((g C.G.w.params).elim λt g=>mh O I z g (k _ _ N I (.refl _ _) (.int i t)))
theorem ey{n m:Nm}(g:vb n (.str m)):Ev d (eP n) ρ H (.str m) H:=λC p O z N s Q E I F k=>.of ((g C.G.w.params).elim λt g=>mh O I z g (k _ _ N I (.refl _ _) (.str m t)))
end
end Mine
end
section
open PySem
namespace Mine
noncomputable abbrev Nm.kk:Nm:=⟨107⟩
noncomputable abbrev Nm.ai:Nm:=⟨1718379891⟩
noncomputable abbrev Nm.eQ:Nm:=⟨30518462483030338⟩
noncomputable abbrev Nm.rX:Nm:=⟨1162760004⟩
noncomputable abbrev Nm.p_:Nm:=⟨344759553107⟩
noncomputable abbrev Nm.th:Nm:=⟨86059523199554⟩
noncomputable abbrev Nm.cH:Nm:=⟨23604646416111420105044346194⟩
noncomputable abbrev Nm.c8:Nm:=⟨6042789482524523546895966622295⟩
noncomputable abbrev Nm.HU:Nm:=⟨1701865808⟩
noncomputable abbrev Nm.hN:Nm:=⟨500068344937⟩
noncomputable abbrev Nm.dc:Nm:=⟨1702521203⟩
noncomputable abbrev Nm.bC:Nm:=⟨1701865840⟩
noncomputable abbrev Nm.b7:Nm:=⟨1836019570⟩
noncomputable abbrev Nm.qa:Nm:=⟨1735289202⟩
noncomputable abbrev Nm.gU:Nm:=⟨2239077833450519296354⟩
noncomputable abbrev Nm.d5:Nm:=⟨549832115952473105065330⟩
noncomputable abbrev Nm.dF:Nm:=⟨140757021683833119510721143⟩
noncomputable abbrev Nm.fP:Nm:=⟨2036451312758769673586⟩
noncomputable abbrev Nm.d6:Nm:=⟨521331536066249650434679⟩
noncomputable abbrev Nm.gc:Nm:=⟨29113321804882295⟩
noncomputable abbrev Nm.bM:Nm:=⟨30510822457436259⟩
noncomputable abbrev Nm.iu:Nm:=⟨1701079411⟩
noncomputable abbrev Nm.eN:Nm:=⟨435744764535⟩
noncomputable abbrev Nm.bl:Nm:=⟨126943755527023⟩
noncomputable abbrev Nm.iS:Nm:=⟨474147938676⟩
noncomputable abbrev Nm.qb:Nm:=⟨7235949⟩
noncomputable abbrev Nm.cn:Nm:=⟨7234924⟩
noncomputable abbrev Nm.nH:Nm:=⟨499918332783⟩
noncomputable abbrev Nm.jk:Nm:=⟨1684104562⟩
noncomputable abbrev Nm.cD:Nm:=⟨500069396323⟩
noncomputable abbrev Nm.jJ:Nm:=⟨474148661607⟩
noncomputable abbrev Nm.dx:Nm:=⟨110425311047777⟩
noncomputable abbrev Nm.iT:Nm:=⟨495623371106⟩
noncomputable abbrev Nm.dz:Nm:=⟨435728378979⟩
noncomputable abbrev Nm.iU:Nm:=⟨1870931063163585587536⟩
noncomputable abbrev Nm.qc:Nm:=⟨1701077357⟩
noncomputable abbrev Nm.b9:Nm:=⟨495623104880⟩
noncomputable abbrev Nm.HV:Nm:=⟨1701536109⟩
noncomputable abbrev Nm.kE:Nm:=⟨7628135⟩
noncomputable abbrev Nm.ti:Nm:=⟨495722916212⟩
noncomputable abbrev Nm.iV:Nm:=⟨1889593155523127305071⟩
noncomputable abbrev Nm.nI:Nm:=⟨435761734006⟩
noncomputable abbrev Nm.gd:Nm:=⟨478793196199587447665513⟩
noncomputable abbrev Nm.IW:Nm:=⟨7500915⟩
noncomputable abbrev Nm.qd:Nm:=⟨1852270963⟩
noncomputable abbrev Nm.LA:Nm:=⟨6582895⟩
noncomputable abbrev Nm.tj:Nm:=⟨495874892112⟩
noncomputable abbrev Nm.bH:Nm:=⟨435610083700⟩
noncomputable abbrev Nm.aZ:Nm:=⟨495622842726⟩
noncomputable abbrev Nm.eX:Nm:=⟨495622319982⟩
noncomputable abbrev Nm.jK:Nm:=⟨495673696624⟩
noncomputable abbrev Nm.dd:Nm:=⟨30506424479346538⟩
noncomputable abbrev Nm.dp:Nm:=⟨32481099967260004⟩
noncomputable abbrev Nm.fX:Nm:=⟨35721851927747743227887710800⟩
noncomputable abbrev Nm.bc:Nm:=⟨119182900487531⟩
noncomputable abbrev Nm.ah:Nm:=⟨32496501618864752⟩
noncomputable abbrev Nm.dS:Nm:=⟨6580592⟩
noncomputable abbrev Nm.cN:Nm:=⟨431349919590⟩
noncomputable abbrev Nm.rY:Nm:=⟨1684957542⟩
noncomputable abbrev Nm.nJ:Nm:=⟨7957684002929077363⟩
noncomputable abbrev Nm.kn:Nm:=⟨110386773518699⟩
noncomputable abbrev Nm.di:Nm:=⟨8319104478719472240⟩
noncomputable abbrev Nm.lh:Nm:=⟨482737482867⟩
noncomputable abbrev Nm.BH:Nm:=⟨474214786402⟩
noncomputable abbrev Nm.qe:Nm:=⟨1802661734⟩
noncomputable abbrev Nm.bB:Nm:=⟨431315576931⟩
noncomputable abbrev Nm.mi:Nm:=⟨6584163⟩
noncomputable abbrev Nm.tm:Nm:=⟨435710683251⟩
noncomputable abbrev Nm.yV:Nm:=⟨122489773778284⟩
noncomputable abbrev Nm.a4:Nm:=⟨125779768604014⟩
noncomputable abbrev Nm.aN:Nm:=⟨1701603686⟩
noncomputable abbrev Nm.lj:Nm:=⟨2128683900660322430049⟩
noncomputable abbrev Nm.qf:Nm:=⟨1701080942⟩
noncomputable abbrev Nm.IX:Nm:=⟨7632240⟩
noncomputable abbrev Nm.vc:Nm:=⟨1953069157⟩
noncomputable abbrev Nm.eG:Nm:=⟨126948300911731⟩
noncomputable abbrev Nm.aC:Nm:=⟨500153084262⟩
noncomputable abbrev Nm.rZ:Nm:=⟨1935961701⟩
noncomputable abbrev Nm.jL:Nm:=⟨1953063287⟩
noncomputable abbrev Nm.r1:Nm:=⟨1819044203⟩
noncomputable abbrev Nm.HW:Nm:=⟨1701536116⟩
noncomputable abbrev Nm.qg:Nm:=⟨1871439137655500334444⟩
noncomputable abbrev Nm.dG:Nm:=⟨123649515020663⟩
noncomputable abbrev Nm.BI:Nm:=⟨1701147238⟩
noncomputable abbrev Nm.yW:Nm:=⟨125779801367922⟩
noncomputable abbrev Nm.yX:Nm:=⟨125780070330999⟩
noncomputable abbrev Nm.qh:Nm:=⟨1871221280404643606639⟩
noncomputable abbrev Nm.bR:Nm:=⟨435744240755⟩
noncomputable abbrev Nm.eY:Nm:=⟨2110956032738202313079⟩
noncomputable abbrev Nm.iv:Nm:=⟨1701736292⟩
noncomputable abbrev Nm.IY:Nm:=⟨7105633⟩
noncomputable abbrev Nm.kZ:Nm:=⟨1162889552⟩
noncomputable abbrev Nm.yY:Nm:=⟨76155295515972⟩
noncomputable abbrev Nm.tn:Nm:=⟨111477645534564⟩
noncomputable abbrev Nm.nK:Nm:=⟨7308332046536241231⟩
noncomputable abbrev Nm.cR:Nm:=⟨1684957547⟩
noncomputable abbrev Nm.cG:Nm:=⟨7308324465750926706⟩
noncomputable abbrev Nm.ee:Nm:=⟨7308324466019889783⟩
noncomputable abbrev Nm.dq:Nm:=⟨32495402123816808⟩
noncomputable abbrev Nm.dO:Nm:=⟨435459026032⟩
noncomputable abbrev Nm.qi:Nm:=⟨491495514477⟩
noncomputable abbrev Nm.iW:Nm:=⟨1870931063163585325382⟩
noncomputable abbrev Nm.ea:Nm:=⟨1953722221⟩
noncomputable abbrev Nm.lp:Nm:=⟨461229747298⟩
noncomputable abbrev Nm.fv:Nm:=⟨1852141679⟩
noncomputable abbrev Nm.iX:Nm:=⟨2018724866448997836142⟩
noncomputable abbrev Nm.bJ:Nm:=⟨2037277037⟩
noncomputable abbrev Nm.xv:Nm:=⟨491328400997⟩
noncomputable abbrev Nm.c9:Nm:=⟨491327616111⟩
noncomputable abbrev Nm.Fb:Nm:=⟨7889261⟩
noncomputable abbrev Nm.HX:Nm:=⟨1953653104⟩
noncomputable abbrev Nm.tq:Nm:=⟨122570892781710546909622903⟩
noncomputable abbrev Nm.ko:Nm:=⟨7310584035479090025⟩
noncomputable abbrev Nm.fw:Nm:=⟨139566875013643722212730180⟩
noncomputable abbrev Nm.ei:Nm:=⟨495874698355⟩
noncomputable abbrev Nm.eZ:Nm:=⟨435526984050⟩
noncomputable abbrev Nm.lq:Nm:=⟨1871507261205758963301⟩
noncomputable abbrev Nm.oJ:Nm:=⟨2037411683⟩
noncomputable abbrev Nm.kp:Nm:=⟨75064541531733⟩
noncomputable abbrev Nm.bf:Nm:=⟨110386891550325⟩
noncomputable abbrev Nm.BJ:Nm:=⟨310634697286⟩
noncomputable abbrev Nm.cO:Nm:=⟨448612627046⟩
noncomputable abbrev Nm.BK:Nm:=⟨383397217618⟩
noncomputable abbrev Nm.aT:Nm:=⟨521375147378⟩
noncomputable abbrev Nm.cC:Nm:=⟨29113321704551794⟩
noncomputable abbrev Nm.fQ:Nm:=⟨5138124833984695379⟩
noncomputable abbrev Nm.cY:Nm:=⟨7453010364803148915⟩
noncomputable abbrev Nm.g_:Nm:=⟨76180947291994⟩
noncomputable abbrev Nm.gI:Nm:=⟨111503297310586⟩
noncomputable abbrev Nm.LB:Nm:=⟨12353⟩
noncomputable abbrev Nm.mj:Nm:=⟨32496501618864720⟩
noncomputable abbrev Nm.tu:Nm:=⟨491260308579⟩
noncomputable abbrev Nm.bq:Nm:=⟨128017497219440⟩
noncomputable abbrev Nm.fx:Nm:=⟨435459027059⟩
noncomputable abbrev Nm.cJ:Nm:=⟨2129618691208608441714⟩
noncomputable abbrev Nm.Fc:Nm:=⟨25456⟩
noncomputable abbrev Nm.ml:Nm:=⟨1701667182⟩
noncomputable abbrev Nm.kin_call:Nm:=⟨30518463019576937⟩
noncomputable abbrev Nm.bY:Nm:=⟨1684828020⟩
noncomputable abbrev Nm.xw:Nm:=⟨495622775159⟩
noncomputable abbrev Nm.IZ:Nm:=⟨6451050⟩
noncomputable abbrev Nm.nM:Nm:=⟨495774233972⟩
noncomputable abbrev Nm.bP:Nm:=⟨7310016644479153001⟩
noncomputable abbrev Nm.d2:Nm:=⟨7827314⟩
noncomputable abbrev Nm.tw:Nm:=⟨435610083668⟩
noncomputable abbrev Nm.dH:Nm:=⟨126879296220272⟩
noncomputable abbrev Nm.iw:Nm:=⟨7235437831625663854⟩
noncomputable abbrev Nm.BL:Nm:=⟨1953718636⟩
noncomputable abbrev Nm.oK:Nm:=⟨478792262542605601305190⟩
noncomputable abbrev Nm.BM:Nm:=⟨7824750⟩
noncomputable abbrev Nm.dX:Nm:=⟨7954890092460992611⟩
noncomputable abbrev Nm.g':Nm:=⟨1885697139⟩
noncomputable abbrev Nm.r3:Nm:=⟨1953720684⟩
noncomputable abbrev Nm.nN:Nm:=⟨8389754697773245810⟩
noncomputable abbrev Nm.d7:Nm:=⟨483735845827141632616547⟩
noncomputable abbrev Nm.vd:Nm:=⟨1885431154⟩
noncomputable abbrev Nm.a_:Nm:=⟨1937207154⟩
noncomputable abbrev Nm.nO:Nm:=⟨8678263169130523743⟩
noncomputable abbrev Nm.dh:Nm:=⟨128026154263411⟩
noncomputable abbrev Nm.hO:Nm:=⟨499850244711⟩
noncomputable abbrev Nm.mm:Nm:=⟨1684366707⟩
noncomputable abbrev Nm.fy:Nm:=⟨1819043171⟩
noncomputable abbrev Nm.ve:Nm:=⟨7561825⟩
noncomputable abbrev Nm.a6:Nm:=⟨1870858745032837524575⟩
noncomputable abbrev Nm.bW:Nm:=⟨7892834⟩
noncomputable abbrev Nm.BN:Nm:=⟨499984591204⟩
noncomputable abbrev Nm.lr:Nm:=⟨2037748072374840945759⟩
noncomputable abbrev Nm.gf:Nm:=⟨1952867692⟩
noncomputable abbrev Nm.vf:Nm:=⟨7630441⟩
noncomputable abbrev Nm.cA:Nm:=⟨1701995880⟩
noncomputable abbrev Nm.de:Nm:=⟨1684825448⟩
noncomputable abbrev Nm.jM:Nm:=⟨474107651140588364983391⟩
noncomputable abbrev Nm.BO:Nm:=⟨1853321075⟩
noncomputable abbrev Nm.iY:Nm:=⟨2036448220932391136351⟩
noncomputable abbrev Nm.cc:Nm:=⟨1684627820⟩
noncomputable abbrev Nm.cP:Nm:=⟨29793⟩
noncomputable abbrev Nm.fz:Nm:=⟨138296318114583763193261151⟩
noncomputable abbrev Nm.aS:Nm:=⟨495740281187⟩
noncomputable abbrev Nm.dP:Nm:=⟨491328007785⟩
noncomputable abbrev Nm.fk:Nm:=⟨7632239⟩
noncomputable abbrev Nm.hh:Nm:=⟨126935164810351⟩
noncomputable abbrev Nm.jH:Nm:=⟨28265⟩
noncomputable abbrev Nm.dW:Nm:=⟨110386891415920⟩
noncomputable abbrev Nm.mn:Nm:=⟨1953722220⟩
noncomputable abbrev Nm.lu:Nm:=⟨1907970655563160841311⟩
noncomputable abbrev Nm.jN:Nm:=⟨1885693291⟩
noncomputable abbrev Nm.pH:Nm:=⟨128034677157481⟩
noncomputable abbrev Nm.pI:Nm:=⟨111550524584053⟩
noncomputable abbrev Nm.el:Nm:=⟨1684955496⟩
noncomputable abbrev Nm.jO:Nm:=⟨474416112994⟩
noncomputable abbrev Nm.kq:Nm:=⟨8387230137839610975⟩
noncomputable abbrev Nm.gV:Nm:=⟨1819042147⟩
noncomputable abbrev Nm.dY:Nm:=⟨28259044236354930⟩
noncomputable abbrev Nm.iZ:Nm:=⟨2128612401588528573535⟩
noncomputable abbrev Nm.aB:Nm:=⟨431316168567⟩
noncomputable abbrev Nm.b6:Nm:=⟨6647407⟩
noncomputable abbrev Nm.mq:Nm:=⟨139505575691031512801700959⟩
noncomputable abbrev Nm.qj:Nm:=⟨431130765409⟩
noncomputable abbrev Nm.oM:Nm:=⟨544923838078728831855711⟩
noncomputable abbrev Nm.hj:Nm:=⟨110425377629538⟩
noncomputable abbrev Nm.HY:Nm:=⟨1953391987⟩
noncomputable abbrev Nm.LC:Nm:=⟨6649188⟩
noncomputable abbrev Nm.dm:Nm:=⟨604423999323752984743047135687175263⟩
noncomputable abbrev Nm.ez:Nm:=⟨573258036975946703137887⟩
noncomputable abbrev Nm.i0:Nm:=⟨1852485171258933210207⟩
noncomputable abbrev Nm.Fd:Nm:=⟨7173491⟩
noncomputable abbrev Nm.fA:Nm:=⟨133496334104579092335936707673460927583⟩
noncomputable abbrev Nm.e3:Nm:=⟨2019158317048315996279⟩
noncomputable abbrev Nm.hq:Nm:=⟨126875185804403⟩
noncomputable abbrev Nm.eK:Nm:=⟨1852994932⟩
noncomputable abbrev Nm.gW:Nm:=⟨9142320650681455297876908403807⟩
noncomputable abbrev Nm.gs:Nm:=⟨2340434086574729614911602627275871⟩
noncomputable abbrev Nm.lx:Nm:=⟨7628141⟩
noncomputable abbrev Nm.pJ:Nm:=⟨110386908131187⟩
noncomputable abbrev Nm.cB:Nm:=⟨7812726576295932777⟩
noncomputable abbrev Nm.fR:Nm:=⟨0⟩
open Nm
noncomputable def fields:Cl→List Nm
 | .b8=>[.hN,.dc,.qa,.d5,.dF,.fP,.d6]
 | .cm=>[.dc,.qc,.b9]
 | .Parts=>[.bH,.aZ,.eX,.jK,.dd,.dp,.ti]
 | .aM=>[.bc]
 | .aK=>[.cR,.cG,.ee,.dq,.dO,.bC,.qf,.qi]
 | .bI=>[.ea,.b9,.eX,.dd,.dp,.lp,.fv]
 | .Descriptors=>[.ea,.ei]
 | .Process=>[.dO,.dS,.bR,.bq,.fx,.cJ,.Fc,.aZ,.mi,.ml,.bM,.kn,.eG,.kin_call,.di,.bY,.xw,.IZ,.nM]
 | .Table=>[.dH,.iw,.BL,.aC,.cC]
 |_=>[]
noncomputable def mr(c:Cl)(a:Nm):Bool:=(fields c).any λn=>n.c.beq a.c
end Mine
end
section
open PySem PySem.W PyProof.Rows PySem.Calls Builtin Builtin.ObjectAttr
namespace Mine
open Nm
noncomputable def LF(P:Params)(c:Cl):Bool:=hasDictIn (Kf P) c.addr&&(plainOver (Kf P) c.addr&&(findIn (Kf P) (.ref c.addr) "__getattribute__" ==some (some (.builtin "object.__getattribute__"))&&
 (findIn (Kf P) (.ref c.addr) "__setattr__" ==some (some (.builtin "object.__setattr__"))&&(findIn (Kf P) (.ref c.addr) "__getattr__" ==some none&&(fields c).all λn=>findIn (Kf P) (.ref c.addr) n.str==some none))))
noncomputable def Cl.own:Cl→Bool
 | .L| .S| .D| .B=>false
 |_=>true
theorem nP(P:Params)(c:Cl)(h:c.own=true):LF P c=true:=by cases c<;>first|exact absurd h Bool.false_ne_true|kernel_rfl
section
variable{P:Params}{c:Cl}
theorem qk(h:c.own=true):hasDictIn (Kf P) c.addr=true:=aV (nP P c h)
theorem BP(h:c.own=true):plainOver (Kf P) c.addr=true:=aV (aF (nP P c h))
theorem tx(h:c.own=true):findIn (Kf P) (.ref c.addr) "__getattribute__" =some (some (.builtin "object.__getattribute__")):=beq_iff_eq.mp (aV (aF (aF (nP P c h))))
theorem Fe(h:c.own=true):findIn (Kf P) (.ref c.addr) "__setattr__" =some (some (.builtin "object.__setattr__")):=beq_iff_eq.mp (aV (aF (aF (aF (nP P c h)))))
theorem I0(h:c.own=true):findIn (Kf P) (.ref c.addr) "__getattr__" =some none:=beq_iff_eq.mp (aV (aF (aF (aF (aF (nP P c h))))))
theorem nQ{a:Nm}(q:mr c a=true):c.own=true:=by cases c<;>first|rfl|exact q
theorem nR{a:Nm}(q:mr c a=true):findIn (Kf P) (.ref c.addr) a.str=some none:=by
 obtain⟨n,b,e⟩:=List.any_eq_true.mp q
 cases fp.mp e
 exact beq_iff_eq.mp (List.all_eq_true.mp (aF (aF (aF (aF (aF (nP P c (nQ q))))))) _ b)
end
theorem Af{h:Heap}{a:Addr}{m:Str→Option Value}(g:h.Ns a m):∃o,h.get? a=some o∧∀x,lookIn x o=some (m x):=by
 obtain⟨o,es,f,d,hd,hk,hf⟩:=g
 refine⟨o,d,λx=>?_⟩
 unfold lookIn
 rw[hd]
 dsimp only
 have e:=hf x
 unfold nsFind findBy at e
 rw[←Array.find?_toList]at e
 cases q:es.toList.find? (λe=>e.key.isStr x)with
 |some en=>rw[q]at e;simp only[Option.map_some]at e;rw[←e]
 |none=>
  rw[q]at e
  simp only[Option.map_none]at e
  have:es.toList.any (·.refKey)=false:=by
   rw[List.any_eq_false]
   intro en b
   obtain⟨n,t,hk⟩:=hk en (by simpa using b)
   unfold DictEntry.refKey
   rw[hk]
   simp
  rw[←e,this]
  rfl
theorem r4{N:cb}{h:Heap}{v:MV}{u:Value}(r:RV N h v u):handedIn u=true:=
 RV.casesOn (motive:=λ_ u _=>handedIn u=true) r rfl (λ_=>rfl) (λ_ _=>rfl) (λ_ _=>rfl) (λ_ _=>rfl) (λ_ _ _=>rfl) (λ_ _ _ _ _ _=>rfl) (λ_ _ _ _ _ _ _=>rfl)
section
variable{C:FC}{d:Nat}{N:cb}{H:Hp}{s:Shared}{ρ:Loc}{H1 H2:Hp}
theorem pL(I:aO C.G N H s){c:Cl}{k:Nat}{fs:Loc}(q:H.o c k=.inst fs){u:Value}(r:RV N s.heap (.ref c k) u):u=.ref (N.x c k)∧N.own (N.x c k)=.o c k∧N.own (N.d c k)=.o c k∧s.heap.get? (N.x c k)=some (instObj c.addr (N.d c k))∧
  ∃m,E7 s.heap (N.d c k) m fs.length∧E6 N s.heap m fs∧∃a,(∀x,lookIn x a=some (m x))∧InstAt s.heap (N.x c k) (instObj c.addr (N.d c k)) c.addr (some a):=by
 have r:=r.d
 have z:=I.hp.o c k (I.hp.E0 _ _ _ r.2)
 rw[q]at z
 exact⟨r.1,r.2,z.2.1,z.2.2.1,z.2.2.2.imp λm y=>⟨y.1,y.2,(Af y.1.ns).imp λa l=>⟨l.2,z.2.2.1,rfl,rfl,l.1⟩⟩⟩
noncomputable def aq(o:XE)(a:Nm):XE:={b:=λp=>.Attribute (o.b (sub p 0)) a.str (pE p),ok:=λsc p=>o.ok sc (sub p 0)&&o.pb}
theorem au{o:XE}{a:Nm}{c:Cl}{k:Nat}{fs:Loc}{v:MV}(h:Ev d o ρ H (.ref c k) H1)(q:H1.o c k=.inst fs)(hf:mr c a=true)(l:look a fs=some v):Ev d (aq o a) ρ H v H1:=λC p O z N s Q E I F K=>
 xl (h C _ O (aV z) N s _ _ I F λu t n g i j=>.of ((pL g q j).elim λe r=>r.2.2.2.elim λm r=>((r.2.1 a).1 v l).elim λy f=>r.2.2.elim λw J=>e▸
  get_value (jH O g) J.2 (tx (nQ hf)) (findObj_own (qk (nQ hf)) (nR hf) rfl ((J.1 _).trans (congrArg some f.1))) (r4 f.2) (K _ _ n (g.tok _) i f.2)))
  (show(do let ov←attributeBase (o.b (sub p 0)) a.str C.env (eval (o.b (sub p 0)) C.env);standAt (Expr.Attribute (o.b (sub p 0)) a.str (pE p)).pos.atName;let r←holding [ov] (getAttr ov a.str true);letTemporaryGo (o.b (sub p 0)) ov r;pure r)=_ by rw[o.ab (aF z)];rfl)
end
theorem tA{c:Value}{q:Option Addr}{sl:Array (Option Value)}{es:Array DictEntry}{l:Nat}{m:Str→Option Value}{b:Nat}{p:Int}{name:Str}{key v:Value}(g:∃n t,key=.str n t∧n=name)(hk:StrKeys es)(j:∀x,nsFind es x=m x)(o:es.size≤b):
  ∃f k,Obj.putNameByArray name p key v ⟨c,q,.dict es l,sl⟩=⟨c,q,.dict f k,sl⟩∧StrKeys f∧(∀x,nsFind f x=if x=name then some v else m x)∧f.size≤if(m name).isSome then b else b+1:=by
 obtain⟨_,t,rfl,rfl⟩:=g
 rename_i name
 have a:=j name
 unfold nsFind at a
 rw[findBy_of_findIdx?]at a
 cases hi:es.findIdx? (·.key.isStr name)with
 |some i=>
  refine⟨es.modify i λe=>{e with val:=v},l,by simp only[Obj.putNameByArray,hi],hk.modify _ _,λx=>?_,?_⟩
  ·rw[←j];exact findBy_modify (λn v=>v.isStr n) Value.isStr_inj es name x v i hi
  ·have h:(m name).isSome=true:=by
    rw[←a,hi]
    simp[(Array.findIdx?_eq_some_iff_findIdx_eq.mp hi).1]
   rw[if_pos h,Array.size_modify];exact o
 |none=>
  refine⟨es.push ⟨p,.str name t,v⟩,l+1,by simp only[Obj.putNameByArray,hi],hk.push _ _ _ _,λx=>?_,?_⟩
  ·rw[←j]
   exact findBy_push (λn v=>v.isStr n) es name x _ _ v (λy=>Bool.eq_iff_iff.mpr (by show(name==y)=true↔_;rw[beq_iff_eq,decide_eq_true_eq];exact eq_comm)) hi
  ·have h:(m name).isSome=false:=by rw[←a,hi];rfl
   rw[h,Array.size_push];exact Nat.succ_le_succ o
theorem i3{M:Model}{A:Around}{s:Shared}{a:Addr}{m:Str→Option Value}{b:Nat}{name:Str}{v:Value}{Q:Unit→Shared→Prop}{E:Value→Shared→Prop}(q:E7 s.heap a m b)
  (y:∀h',E7 h' a (λx=>if x=name then some v else m x) (if(m name).isSome then b else b+1)→Heap.SameBut a s.heap h'→(∀o,s.heap.get? a=some o→∃l,h'.get? a=some l∧l.cls=o.cls)→Q () {s with heap:=h',toks:=s.toks+1}):wpAny M A (nsSet a name v) Q E s:=by
 obtain⟨⟨c,D,B,sl⟩,i,es,z,hd,hk,u,p⟩:=q
 subst hd
 unfold nsSet
 refine wpAny_bind (wpAny_bind (wpAny_askSetting (wpAny_pure (wpAny_bind (wpAny_mkText (wpAny_bind (wpAny_loadPart i ?_)))))))
 have f:es.any (·.refKey)=false:=by
  rw[Array.any_eq_false'];intro e w;obtain⟨n,t,h⟩:=hk e w;simp[DictEntry.refKey,h]
 simp only[aRefKeyMayBeTheName_eq,aRefKeyMayBeTheNameByArray,f,Bool.and_false,Bool.false_eq_true,if_false,Obj.putName_eq]
 exact wpAny_updatePart i ((tA ⟨name,s.toks,rfl,rfl⟩ hk u p).elim λj r=>r.elim λk r=>
  have g:=(Heap.get?_update_self _ i (r.1▸rfl)).trans (congrArg some r.1)
  y _ ⟨_,g,j,k,rfl,r.2⟩ (Heap.SameBut.update ..) λo go=>⟨_,g,Option.some.inj (i.symm.trans go)▸rfl⟩)
end Mine
end
section
open PySem PySem.W PyProof.Rows PySem.Calls Builtin
open Sem (wp)
namespace Mine
open Nm
theorem ix:Manifest.owners.lookup (String.ofList ['y','a','r','r','a','e','t','y','b'].reverse)=some Manifest.sig_bytearray:=by kernel_rfl
theorem oN:Slot "bytearray" "__len__" "bytearray.__len__" :=
 .of (owner:= "bytearray") (n:= "__len__") (by rw[typeLookup_type,builtinLookup_eq_fast];kernel_rfl) (by decide+kernel) (by decide+kernel) (by decide+kernel)
  (by first|exact .inl (by decide+kernel)|exact .inr (by decide+kernel)) (by rw[isSubtype_type];kernel_rfl)
theorem tB:entryFor table "bytearray.__len__" =some Builtin.«bytearray.__len__»:=entryFor_of_tree (by kernel_rfl)
theorem vg(a:Value):argsOk "bytearray.__len__" ⟨[a],[]⟩:=by
 unfold argsOk;rw[signature?_of (id:= "bytearray.__len__") (n:=['_','_','n','e','l','_','_']) (o:=['y','a','r','r','a','e','t','y','b']) (by kernel_rfl) ix];kernel_rfl
theorem gu:Slot "bytearray" "__getitem__" "bytearray.__getitem__" :=
 .of (owner:= "bytearray") (n:= "__getitem__") (by rw[typeLookup_type,builtinLookup_eq_fast];kernel_rfl) (by decide+kernel) (by decide+kernel) (by decide+kernel)
  (by first|exact .inl (by decide+kernel)|exact .inr (by decide+kernel)) (by rw[isSubtype_type];kernel_rfl)
theorem nS:entryFor table "bytearray.__getitem__" =some Builtin.«bytearray.__getitem__»:=entryFor_of_tree (by kernel_rfl)
theorem o_(a b:Value):argsOk "bytearray.__getitem__" ⟨[a,b],[]⟩:=by
 unfold argsOk;rw[signature?_of (id:= "bytearray.__getitem__") (n:=['_','_','m','e','t','i','t','e','g','_','_']) (o:=['y','a','r','r','a','e','t','y','b']) (by kernel_rfl) ix];kernel_rfl
theorem jl:Slot "bytearray" "__setitem__" "bytearray.__setitem__" :=
 .of (owner:= "bytearray") (n:= "__setitem__") (by rw[typeLookup_type,builtinLookup_eq_fast];kernel_rfl) (by decide+kernel) (by decide+kernel) (by decide+kernel)
  (by first|exact .inl (by decide+kernel)|exact .inr (by decide+kernel)) (by rw[isSubtype_type];kernel_rfl)
theorem nT:entryFor table "bytearray.__setitem__" =some Builtin.«bytearray.__setitem__»:=entryFor_of_tree (by kernel_rfl)
theorem o'(a b c:Value):argsOk "bytearray.__setitem__" ⟨[a,b,c],[]⟩:=by
 unfold argsOk;rw[signature?_of (id:= "bytearray.__setitem__") (n:=['_','_','m','e','t','i','t','e','s','_','_']) (o:=['y','a','r','r','a','e','t','y','b']) (by kernel_rfl) ix];kernel_rfl
theorem jP:Slot "bytearray" "append" "bytearray.append" :=
 .of (owner:= "bytearray") (n:= "append") (by rw[typeLookup_type,builtinLookup_eq_fast];kernel_rfl) (by decide+kernel) (by decide+kernel) (by decide+kernel)
  (by first|exact .inl (by decide+kernel)|exact .inr (by decide+kernel)) (by rw[isSubtype_type];kernel_rfl)
theorem ql:typeOf (.builtin "bytearray.append")=pure (.type "method_descriptor"):=by show builtinType _=_;rw[builtinType_eq_fast];kernel_rfl
theorem pd:entryFor table "bytearray.append" =some Builtin.«bytearray.append»:=entryFor_of_tree (by kernel_rfl)
theorem qm(a b:Value):argsOk "bytearray.append" ⟨[a,b],[]⟩:=by
 unfold argsOk;rw[signature?_of (id:= "bytearray.append") (n:=['d','n','e','p','p','a']) (o:=['y','a','r','r','a','e','t','y','b']) (by kernel_rfl) ix];kernel_rfl
theorem tC:Slot "bytearray" "__init__" "bytearray.__init__" :=
 .of (owner:= "bytearray") (n:= "__init__") (by rw[typeLookup_type,builtinLookup_eq_fast];kernel_rfl) (by decide+kernel) (by decide+kernel) (by decide+kernel)
  (by first|exact .inl (by decide+kernel)|exact .inr (by decide+kernel)) (by rw[isSubtype_type];kernel_rfl)
theorem rk:entryFor table "bytearray.__init__" =some Builtin.«bytearray.__init__»:=entryFor_of_tree (by kernel_rfl)
theorem rm(a:Value):argsOk "bytearray.__init__" ⟨[a],[]⟩:=by
 unfold argsOk;rw[signature?_of (id:= "bytearray.__init__") (n:=['_','_','t','i','n','i','_','_']) (o:=['y','a','r','r','a','e','t','y','b']) (by kernel_rfl) ix];kernel_rfl
theorem rn(a b:Value):argsOk "bytearray.__init__" ⟨[a,b],[]⟩:=by
 unfold argsOk;rw[signature?_of (id:= "bytearray.__init__") (n:=['_','_','t','i','n','i','_','_']) (o:=['y','a','r','r','a','e','t','y','b']) (by kernel_rfl) ix];kernel_rfl
theorem BQ:mroOf (.type "bytearray")=pure [.type "bytearray",.type "object"]:=by rw[mroOf_type];kernel_rfl
theorem rp:typeLookup (.type "bytearray") "__new__" =pure (some (.builtin "bytearray.__new__")):=by rw[typeLookup_type,builtinLookup_eq_fast];kernel_rfl
theorem hy:isSubtype (.type "bytearray") (.type "bytearray")=pure true:=by rw[isSubtype_type];kernel_rfl
theorem Ag:TypeCalled "bytearray" "bytearray.__new__" "bytearray.__init__" :=
 ⟨by decide+kernel,by decide+kernel,⟨_,_,BQ⟩,madeBy_type BQ rp (by decide+kernel),by decide+kernel,hy,tC⟩
theorem tD:checkTypeCall "bytearray" ⟨[],[]⟩=pure ():=by kernel_rfl
theorem tE(a:Value):checkTypeCall "bytearray" ⟨[a],[]⟩=pure ():=by kernel_rfl
theorem vh:checkBuiltinCall "bytearray.__new__" ⟨[.type "bytearray"],[]⟩=pure ():=by kernel_rfl
theorem vi(a:Value):checkBuiltinCall "bytearray.__new__" ⟨[.type "bytearray",a],[]⟩=pure ():=by kernel_rfl
theorem tF:entryFor table "bytearray.__new__" =some Builtin.«list.__new__»:=entryFor_alias (id':= "list.__new__") (by kernel_rfl) (by decide+kernel) (by decide+kernel) (by kernel_rfl)
theorem mu:plainId "bytearray.__new__" =true:=by decide+kernel
set_option maxRecDepth 1000000 in
set_option maxHeartbeats 4000000 in
theorem tG:("bytearray.__new__".splitOn ".__new__").headD "" = "bytearray" :=by simp+decide [String.splitOn,String.splitOnAux]
theorem BR:Builtin.Bytes.bindOptional "bytearray.__init__" "bytearray" ["source","encoding","errors"] [] []=pure [none,none,none]:=by kernel_rfl
theorem BS(v:Value):Builtin.Bytes.bindOptional "bytearray.__init__" "bytearray" ["source","encoding","errors"] [v] []=pure [some v,none,none]:=by kernel_rfl
section
variable{prog:Program}{w:World}{A:Around}{E:Value→Shared→Prop}{s:Shared}{a:Addr}{b:Array UInt8}
noncomputable abbrev d8(b:Array UInt8):Obj:={cls:=.type "bytearray",data:=.bytearray b 0}
theorem cZ(g:s.heap.get? a=some (d8 b)):s.TypeIs (.ref a) "bytearray" :=⟨_,g,rfl⟩
theorem eH{M:Model}{Q:Array UInt8→Shared→Prop}(g:s.heap.get? a=some (d8 b))(h:Q b s):wpAny M A (Builtin.Bytes.payload (.ref a)) Q E s:=by
 unfold Builtin.Bytes.payload Builtin.Bytes.payload?
 refine wpAny_bind (wpAny_bind (wpAny_load g ?_))
 exact wpAny_pure (wpAny_pure h)
theorem eA{M:Model}{f:Array UInt8→Array UInt8}{Q:Unit→Shared→Prop}(g:s.heap.get? a=some (d8 b))(d:(f b).size≤sizeLine)
  (h:∀h',h'.get? a=some (d8 (f b))→Heap.SameBut a s.heap h'→Q () {s with heap:=h'}):wpAny M A (Builtin.Bytes.write (.ref a) f) Q E s:=by
 show wpAny M A (updateBytearray a f) Q E s
 unfold updateBytearray
 refine wpAny_bind (wpAny_load g ?_)
 show wpAny _ _ (update a (Obj.mapBytearray f)>>=λ_=>lookBehind a) _ _ _
 refine wpAny_bind (wpAny_update g ?_)
 have c:(s.heap.update a (Obj.mapBytearray f)).get? a=some (d8 (f b)):=Heap.get?_update_self (Obj.mapBytearray f) g rfl
 refine wpAny_lookBehind c ?_ (h _ c (Heap.SameBut.update ..))
 show(if(f b).size>sizeLine then some "bytearray:memory"else none)=none
 rw[if_neg (Nat.not_lt.mpr d)]
theorem gz{M:Model}{k:Int}{t:Tok}{Q:Option Int→Shared→Prop}(hf:Bytes.fitsIndex k=true)(h:Q (some k) s):wpAny M A (Bytes.subscript? (.int k t)) Q E s:=by
 unfold Bytes.subscript?
 refine wpAny_bind (wpAny_specialOf (typeIs_int s k t) F.slot_int_index.lookup ?_)
 show wpAny M A (if(!Bytes.fitsIndex k)=true then _ else pure (some k)) _ E s
 rw[hf]
 exact wpAny_pure h
theorem I_{Q:Value→Shared→Prop}(g:s.heap.get? a=some (d8 b))(c:b.size≤1000000)(h:Q (.int b.size (s.toks+1)) {s with toks:=s.toks+1+1}):
  wpAny (model prog w) A (call (.builtin "len") [.ref a]) Q E s:=by
 refine Calls.call_function_entry kind_len plain_len entry_len (args_len1 _) ?_
 unfold Builtin.«len»
 refine wpAny_bind (m:=oneArg "len" _) (wpAny_pure ?_)
 refine wpAny_bind (m:=callSpecial? _ (Str.ofString "__len__")) (wpAny_callSpecial?_slot (name:=Str.ofString "__len__") (cZ g) oN
  (wpAny_call_entry oN (cZ g) tB ?_ (vg _)))
 unfold Builtin.«bytearray.__len__»
 refine wpAny_bind (m:=Bytes.payload (.ref a)) (eH g ?_)
 show wpAny _ _ (mkInt _>>=λv=>ret v) _ _ _
 refine wpAny_bind (wpAny_mkInt (wpAny_pure ⟨_,rfl,?_⟩))
 show wpAny _ _ _ _ _ {s with toks:=s.toks+1}
 refine wpAny_bind (wpAny_holding (wpAny_pure ?_))
 refine wpAny_bind (wpAny_letGo ?_)
 show wpAny _ _ (if(b.size:Int)<0 then _ else _) _ _ _
 rw[if_neg (by lia)]
 show wpAny _ _ (if(b.size:Int)≥2^63 then _ else _) _ _ _
 rw[if_neg (by lia)]
 exact wpAny_bind (wpAny_mkInt (wpAny_pure ⟨_,rfl,h⟩))
theorem xy{k:Int}{t:Tok}{x:UInt8}{Q:Value→Shared→Prop}(g:s.heap.get? a=some (d8 b))(j:0≤k)(d:k<2^63)(c:b[k.toNat]? =some x)
  (h:Q (.int x.toNat s.toks) {s with toks:=s.toks+1}):wpAny (model prog w) A (getItem (.ref a) (.int k t)) Q E s:=by
 unfold getItem
 try with_reducible refine wpAny_holding ?_
 first|refine wpAny_bind (wpAny_pure ?_)|skip
 refine wpAny_bind (wpAny_sequenceKey (cZ g) (by decide) ?_)
 refine wpAny_bind (wpAny_callSpecial?_slot (name:=Str.ofString "__getitem__") (cZ g) gu
  (wpAny_call_entry gu (cZ g) nS ?_ (o_ _ _)))
 unfold Builtin.«bytearray.__getitem__»
 refine wpAny_bind (m:=Bytes.subscript? _) (gz (by simp only[Bytes.fitsIndex,Bool.and_eq_true,decide_eq_true_eq];lia) ?_)
 refine wpAny_bind (eH g ?_)
 have e:¬k<0:=by lia
 have f:k.toNat<b.size:=by
  rcases Nat.lt_or_ge k.toNat b.size with h2|h2
  ·exact h2
  ·rw[Array.getElem?_eq_none h2]at c;cases c
 have:(seqIndex? k b.size).bind (b[·]?)=some x:=by
  have i:k<(b.size:Int):=by lia
  simp only[seqIndex?,e,if_false,j,i,and_self,if_true,decide_true,Bool.and_self,Option.bind_some]
  exact c
 show wpAny _ _ (match(seqIndex? k b.size).bind (b[·]?)with|some x=>retInt x.toNat|none=>_) _ _ _
 rw[this]
 exact wpAny_bind (wpAny_mkInt (wpAny_pure ⟨_,rfl,wpAny_pure h⟩))
theorem xA{k x:Int}{t u:Tok}{Q:Unit→Shared→Prop}(g:s.heap.get? a=some (d8 b))(o:0≤k)(c:k<2^63)(hk:k.toNat<b.size)(f:0≤x)(e:x<256)(d:b.size≤sizeLine)
  (l:∀h',h'.get? a=some (d8 (b.setIfInBounds k.toNat x.toNat.toUInt8))→Heap.SameBut a s.heap h'→Q () {s with heap:=h'}):
  wpAny (model prog w) A (setItem (.ref a) (.int k t) (.int x u)) Q E s:=by
 unfold setItem
 try with_reducible refine wpAny_holding ?_
 first|refine wpAny_bind (wpAny_pure ?_)|skip
 refine wpAny_bind (wpAny_sequenceKey (cZ g) (by decide) ?_)
 refine wpAny_bind (wpAny_callSpecial?_slot (name:=Str.ofString "__setitem__") (cZ g) jl
  (wpAny_call_entry jl (cZ g) nT ?_ (o' _ _ _)))
 unfold Builtin.«bytearray.__setitem__»
 refine wpAny_bind (m:=Bytes.subscript? _) (gz (by simp only[Bytes.fitsIndex,Bool.and_eq_true,decide_eq_true_eq];lia) ?_)
 have hb:∀{Q:UInt8→Shared→Prop}{A:Around}{E:Value→Shared→Prop},Q x.toNat.toUInt8 s→wpAny (model prog w) A (Bytes.byteValue (.int x u)) Q E s:=λh=>by
  unfold Bytes.byteValue
  refine wpAny_bind (wpAny_of_eq (a:=x) rfl ?_)
  rw[if_neg (by simp only[Bool.or_eq_true,decide_eq_true_eq];lia)]
  exact wpAny_pure h
 refine wpAny_bind (hb ?_)
 refine wpAny_bind (eH g ?_)
 have j:¬k<0:=by lia
 have:seqIndex? k b.size=some k.toNat:=by
  have n:k<(b.size:Int):=by lia
  simp[seqIndex?,j,o,n]
 rw[this]
 refine wpAny_bind (eA g ?_ λh' p i=>?_)
 ·simpa using d
 ·exact wpAny_pure ⟨.none,rfl,wpAny_pure (l h' p i)⟩
end
theorem rq:typeLookup (.type "bytearray") "__release_buffer__" =pure (some (.builtin "bytearray.__release_buffer__")):=by rw[typeLookup_type,builtinLookup_eq_fast];kernel_rfl
section
variable{prog:Program}{w:World}{A:Around}{E:Value→Shared→Prop}{s:Shared}{a:Addr}{b:Array UInt8}
theorem qn{T:String}{name:Str}{id:String}{B:Builtin}{self:Value}{rest:List Value}{Q:Value→Shared→Prop}(slot:Slot T name id)(c:Builtin.Bytes.decodersThatHold.contains id=false)(d:s.TypeIs self T)
  (entry:entryFor table id=some B)(ok:argsOk id ⟨self::rest,[]⟩)
  (h:aX (model prog w) A.in1 (B ⟨self::rest,[]⟩) (λfin s'=>∃v,fin=.done (.ret v)∧Q v s') E s):aX (model prog w) A (call (.builtin id) (self::rest)) Q E s:=
 ip (sY slot.plain c entry (.of (slot.check _ _ _ _ _ _ _ _ d ok (fu h (λfin s' h'=>by obtain⟨v,rfl,q⟩:=h';exact q) λ_ _ x=>x))))
theorem ly{Q:Bool→Shared→Prop}(c:A.guards=some [])(g:s.heap.get? a=some (d8 b))(h:Q false s):
  aX (model prog w) A (Builtin.Bytes.exported (.ref a)<||>(do return(←Builtin.Bytes.exportsOf (.ref a))>0)) Q E s:=by
 refine bK (z' c ?_)
 show aX _ _ (do return decide ((←Builtin.Bytes.exportsOf (.ref a))>0)) _ _ _
 unfold Builtin.Bytes.exportsOf
 refine .of (wpAny_bind (wpAny_bind (wpAny_load g (wpAny_pure (wpAny_pure h)))))
theorem Ah{x:Int}{t:Tok}{Q:Value→Shared→Prop}(i:A.guards=some [])(g:s.heap.get? a=some (d8 b))(e:0≤x)(d:x<256)(c:b.size+1≤sizeLine)
  (j:∀h',h'.get? a=some (d8 (b.push x.toNat.toUInt8))→Heap.SameBut a s.heap h'→Q .none {s with heap:=h'}):
  aX (model prog w) A (call (.builtin "bytearray.append") [.ref a,.int x t]) Q E s:=by
 refine qn jP (by decide) (cZ g) pd (qm _ _) ?_
 unfold Builtin.«bytearray.append»
 refine bF (m:=selfAndOne _ _) (wpAny_pure ?_)
 have hb:∀{Q:UInt8→Shared→Prop}{A:Around}{E:Value→Shared→Prop},Q x.toNat.toUInt8 s→wpAny (model prog w) A (Bytes.byteValue (.int x t)) Q E s:=λh=>by
  unfold Bytes.byteValue
  refine wpAny_bind (wpAny_of_eq (a:=x) rfl ?_)
  rw[if_neg (by simp only[Bool.or_eq_true,decide_eq_true_eq];lia)]
  exact wpAny_pure h
 refine bF (hb ?_)
 unfold Bytes.checkResize
 refine bK (bK (ly (a:=a) (b:=b) i g ?_))
 show aX _ _ (pure ()) _ _ _
 refine a9 ?_
 refine bF (eA g (by simpa using c) λh' k f=>?_)
 exact a9 ⟨.none,rfl,j h' k f⟩
theorem vj(args:List Value)(c:checkBuiltinCall "bytearray.__new__" ⟨.type "bytearray" ::args,[]⟩=pure ()){Q₁:Value→Shared→Prop}
  (h:Q₁ (.ref s.heap.objs.size) {s with heap:=s.heap.push (d8 #[])}):
  codeAny (model prog w) A (.call (.builtin "bytearray.__new__") ⟨.type "bytearray" ::args,[]⟩) (wants Q₁ E) s:=by
 refine codeAny_of_tree ?_
 show wpAny _ A.in1 (do checkBuiltinCall "bytearray.__new__" ⟨.type "bytearray" ::args,[]⟩;again (.builtin "bytearray.__new__" ⟨.type "bytearray" ::args,[]⟩)) _ _ s
 refine wpAny_bind (wpAny_of_eq c (wpAny_pure ⟨plainId_quiet mu _,codeAny_builtin_stack tF rfl λp st=>?_⟩))
 rw[Around.under_plainId mu _]
 have f:=hy
 have e:=tG
 obtain⟨hp,g,d,i,os⟩:=s
 simp only[e]
 wp_walk
 exact h
theorem BU{M:Model}{self:Value}{T:String}{name:Str}{id:String}{args:List Value}{kw:List (Str×Value)}
  {Q:Option Value→Shared→Prop}(d:s.TypeIs self T)(h:Slot T name id)
  (c:aX M A (call (.builtin id) (self::args) kw) (λv=>Q (some v)) E s):aX M A (callSpecial? self name args kw) Q E s:=by
 simp only[callSpecial?]
 refine bF (wpAny_specialOf d h.lookup ?_)
 simp only[h.bind]
 exact b0 (bO (bG c λv s' h'=>a9 h'))
theorem hS{M:Model}{Q:Bool→Shared→Prop}(g:s.heap.get? a=some (d8 b))(h:Q false s):wpAny M A (Bytes.ownRelease (.ref a)) Q E s:=by
 unfold Bytes.ownRelease Bytes.slotIsOwn
 refine wpAny_bind (wpAny_bind (wpAny_specialOf (cZ g) rq ?_))
 have d:(!("bytearray.__release_buffer__".endsWith ("." ++ "__release_buffer__")))=false:=by decide+kernel
 have c:("bytearray.__release_buffer__".dropRight ("__release_buffer__".length+1))= "bytearray" :=by decide+kernel
 simp only[d,c,Bool.false_eq_true,if_false]
 refine wpAny_isInstance (cZ g) hy ?_
 exact wpAny_pure h
theorem jQ{M:Model}{d:Type}{c:Prop}[Decidable c]{t e:Sem d}{Q:d→Shared→Prop}(h:¬c)(k:aX M A e Q E s):aX M A (ite c t e) Q E s:=by rw[if_neg h];exact k
theorem Ff{M:Model}{d:Type}{c:Prop}[Decidable c]{t e:Sem d}{Q:d→Shared→Prop}(h:c)(k:aX M A t Q E s):aX M A (ite c t e) Q E s:=by rw[if_pos h];exact k
theorem r5{b:Bool}(h:b=false):¬b=true:=λz=>Bool.noConfusion (h.symm.trans z)
theorem Ai{T newId d:String}{Bi:Builtin}{args:List Value}{Q Q₁:Value→Shared→Prop}(ft:TypeCalled T newId d)(m:Builtin.Bytes.decodersThatHold.contains d=false)
  (t:checkTypeCall T ⟨args,[]⟩=pure ())(g:entryFor table d=some Bi)
  (k:codeAny (model prog w) A.in1 (.call (.builtin newId) ⟨.type T::args,[]⟩) (wants Q₁ E) s)
  (h:∀obj f,Q₁ obj f→f.TypeIs obj T∧argsOk d ⟨obj::args,[]⟩∧
   aX (model prog w) A.in1.in1 (Bi ⟨obj::args,[]⟩) (λfin s'=>∃v,fin=.done (.ret v)∧v=.none∧Q obj s') E f):
  aX (model prog w) A (call (.type T) args) Q E s:=by
 obtain⟨c,tl,l⟩:=ft.mro
 have i:=ft.made
 have j:=ft.sub
 refine ip (iq ?_)
 show aX _ _ (callAny (.type T) _) _ _ _
 refine a9 ⟨Code.quiet_builtin _ (by decide+kernel),rfl,md F.entry_type_call ?_⟩
 rw[Around.under_plain (weight_type_call_type T args []) rfl]
 have y:=ft.notType
 have h2:=ft.canCreate
 unfold Builtin.«type.__call__»
 refine jQ (r5 y) ?_
 refine jQ (r5 h2) ?_
 refine bF (wpAny_of_eq t ?_)
 refine bF (wpAny_of_eq l ?_)
 refine bF (wpAny_of_eq i ?_)
 refine bO ?_
 refine bK (b0 (.of (wpAny_call ?_)))
 refine codeAny_mono k λr f o=>?_
 cases r with
 |error e=>exact o
 |ok fl=>
  cases fl with
  |ret obj=>
   obtain⟨u,p,n⟩:=h _ _ o
   refine bF (wpAny_isInstance u j ?_)
   refine bK (b0 (BU u ft.init ?_))
   refine fu (qn (Q:=λv s'=>v=.none∧Q obj s') ft.init m u g p (fu n (λfin s' h'=>h') λ_ _ x=>x)) (λv s' h'=>?_) λ_ _ x=>x
   obtain⟨rfl,q⟩:=h'
   exact a9 q
  |_=>exact o.elim
theorem yZ{bs:Array UInt8}{args:List Value}{Q:Value→Shared→Prop}(k:A.guards=some [])(f:checkTypeCall "bytearray" ⟨args,[]⟩=pure ())(i:checkBuiltinCall "bytearray.__new__" ⟨.type "bytearray" ::args,[]⟩=pure ())(e:∀a,argsOk "bytearray.__init__" ⟨a::args,[]⟩)
  (h:∀(s:Shared)(a:Addr)(A:Around)(E:Value→Shared→Prop)(Q:Value→Shared→Prop),A.guards=some []→s.heap.get? a=some (d8 #[])→(∀h',h'.get? a=some (d8 bs)→Heap.SameBut a s.heap h'→Q .none {s with heap:=h'})→
   aX (model prog w) A (Builtin.«bytearray.__init__» ⟨.ref a::args,[]⟩) (λfin s'=>∃v,fin=.done (.ret v)∧Q v s') E s)
  (l:∀h',h'.get? s.heap.objs.size=some (d8 bs)→Heap.SameBut s.heap.objs.size (s.heap.push (d8 #[])) h'→Q (.ref s.heap.objs.size) {s with heap:=h'}):aX (model prog w) A (call (.type "bytearray") args) Q E s:=by
 refine Ai (Q₁:=λobj c=>obj=.ref s.heap.objs.size∧c={s with heap:=s.heap.push (d8 #[])}) Ag (by decide) f rk (vj _ i ⟨rfl,rfl⟩) λobj c d=>?_
 obtain⟨rfl,rfl⟩:=d
 have g:(s.heap.push (d8 #[])).get? s.heap.objs.size=some (d8 #[]):=Heap.get?_push_size _ rfl
 exact⟨cZ g,e _,fu (h _ _ A.in1.in1 E (λv s'=>v=.none∧Q (.ref s.heap.objs.size) s') k g λh' m j=>⟨rfl,l h' m j⟩) (λ_ _ z=>z) λ_ _ z=>z⟩
theorem Ja{Q:Value→Shared→Prop}(c:A.guards=some [])
  (d:∀h',h'.get? s.heap.objs.size=some (d8 #[])→Heap.SameBut s.heap.objs.size (s.heap.push (d8 #[])) h'→Q (.ref s.heap.objs.size) {s with heap:=h'}):aX (model prog w) A (call (.type "bytearray") []) Q E s:=by
 refine yZ c tD vh rm (λs a A E Q c g d=>?_) d
 unfold Builtin.«bytearray.__init__»
 refine bF (hS g ?_)
 refine bF (wpAny_of_eq BR ?_)
 refine bF (m:=Bytes.checkCodecArg _ _ _ _) (wpAny_pure ?_)
 refine bF (m:=Bytes.checkCodecArg _ _ _ _) (wpAny_pure ?_)
 refine bK (ly (b:= #[]) c g ?_)
 refine bF (eA g (by simp) λh' f e=>?_)
 exact bO (a9 ⟨.none,rfl,d h' f e⟩)
theorem Fg{n:Int}{t:Tok}{Q:Value→Shared→Prop}(e:A.guards=some [])(k:0≤n)(r:n≤1000)
  (c:∀h',h'.get? s.heap.objs.size=some (d8 (Array.replicate n.toNat 0))→Heap.SameBut s.heap.objs.size (s.heap.push (d8 #[])) h'→Q (.ref s.heap.objs.size) {s with heap:=h'}):aX (model prog w) A (call (.type "bytearray") [.int n t]) Q E s:=by
 have q:(!Bytes.fitsIndex n)=false:=by simp only[Bytes.fitsIndex,Bool.not_eq_false',Bool.and_eq_true,decide_eq_true_eq];lia
 have p:¬n<0:=Int.not_lt.mpr k
 have o:(n==2^63-1)=false:=by rw[beq_eq_false_iff_ne];lia
 have j:Bytes.tooLong n.toNat=false:=by unfold Bytes.tooLong;rw[sizeLine_eq];simp;lia
 have u:Bytes.tooLong (Array.replicate n.toNat (0:UInt8)).size=false:=by rw[Array.size_replicate];exact j
 refine yZ e (tE _) (vi _) (λa=>rn a _) (λs a A E Q e g c=>?_) c
 unfold Builtin.«bytearray.__init__»
 refine bF (hS g ?_)
 refine bF (wpAny_of_eq (BS _) ?_)
 refine bF (m:=Bytes.checkCodecArg _ _ _ _) (wpAny_pure ?_)
 refine bF (m:=Bytes.checkCodecArg _ _ _ _) (wpAny_pure ?_)
 refine bK (ly (b:= #[]) e g ?_)
 refine bF (eA g (by simp) λh' i f=>?_)
 refine bF (m:=asStr? _) (wpAny_pure ?_)
 refine bO ?_
 refine bF (wpAny_specialOf (typeIs_int _ n t) F.slot_int_index.lookup ?_)
 refine bF (wpAny_attempt (wpAny_of_eq (a:=n) rfl ?_))
 refine jQ (r5 q) ?_
 refine jQ p ?_
 refine jQ (r5 o) ?_
 refine jQ (r5 j) ?_
 refine bF (m:=rule _) (wpAny_rule ?_)
 by_cases h:n>0
 ·refine Ff h ?_
  refine bF (eA i (by simp;rw[sizeLine_eq];lia) λh2 l d=>?_)
  exact a9 ⟨.none,rfl,c h2 l (f.trans d)⟩
 ·refine jQ h ?_
  have:n=0:=by lia
  subst this
  exact bO (a9 ⟨.none,rfl,c h' i f⟩)
end
theorem pe:typeLookup (.type "bytes") "__bytes__" =pure (some (.builtin "bytes.__bytes__")):=by rw[typeLookup_type,builtinLookup_eq_fast];kernel_rfl
theorem vk:typeLookup (.type "bytearray") "__bytes__" =pure none:=by rw[typeLookup_type,builtinLookup_eq_fast];kernel_rfl
theorem vl:typeLookup (.type "bytearray") "__index__" =pure none:=by rw[typeLookup_type,builtinLookup_eq_fast];kernel_rfl
theorem nU:typeLookup (.type "bytearray") "__buffer__" =pure (some (.builtin "bytearray.__buffer__")):=by rw[typeLookup_type,builtinLookup_eq_fast];kernel_rfl
section
variable{prog:Program}{w:World}{A:Around}{E:Value→Shared→Prop}{s:Shared}{a:Addr}{b:Array UInt8}
theorem jR{v:Value}{R:Result→Shared→Prop}
  (h:wpAny (model prog w) A.in1 (Builtin.«bytes.__new__» ⟨[.type "bytes",v],[]⟩) (λfin s'=>∃u,fin=.done (.ret u)∧R (.ok (.ret u)) s') (λe s'=>R (.error e) s') s):
  codeAny (model prog w) A (.call (.builtin "bytes.__new__") ⟨[.type "bytes",v],[]⟩) R s:=by
 refine codeAny_of_tree ?_
 show wpAny _ A.in1 (do checkBuiltinCall "bytes.__new__" ⟨[.type "bytes",v],[]⟩;again (.builtin "bytes.__new__" ⟨[.type "bytes",v],[]⟩)) _ _ s
 refine wpAny_bind (wpAny_of_eq (F.bm_newCall _) (wpAny_pure ⟨plainId_quiet F.bm_plain _,codeAny_builtin F.bm_entry ?_⟩))
 rw[Around.under_plainId F.bm_plain _]
 exact wpAny_mono h (λfin s' h'=>by obtain⟨u,rfl,q⟩:=h';exact q) λ_ _ x=>x
theorem qo{t:Tok}{Q:Value→Shared→Prop}(h:Q (.bytes b t) s):wpAny (model prog w) A (call (.type "bytes") [.bytes b t]) Q E s:=by
 refine callType_codes (Q₁:=λobj c=>c.TypeIs obj "bytes"∧Q obj c) F.bm_called (F.bm_typeCall _) F.entry_object_init
  (jR ?_) λobj c d=>?_
 ·unfold Builtin.«bytes.__new__»
  refine wpAny_bind (wpAny_of_eq (a:=true) rfl ?_)
  refine bm_if_false rfl ?_
  refine wpAny_bind (wpAny_of_eq F.bm_sub ?_)
  refine bm_if_false rfl ?_
  refine wpAny_bind (wpAny_of_eq (F.bm_bind _) ?_)
  refine wpAny_bind (wpAny_of_eq (a:=()) rfl ?_)
  refine wpAny_bind (wpAny_of_eq (a:=()) rfl ?_)
  refine bm_if_false rfl ?_
  refine wpAny_bind (wpAny_specialOf (typeIs_bytes s _ _) pe ?_)
  refine wpAny_bind (wpAny_rule ?_)
  refine wpAny_bind (wpAny_pure ?_)
  exact wpAny_pure ⟨_,rfl,typeIs_bytes _ _ _,h⟩
 ·exact⟨d.1,F.args_object_init_2 obj _,object_init_meets F.bm_called.init.lookup F.bm_called.made (by decide) prog w A.in1 _ c ⟨d.1,rfl,d.2⟩⟩
theorem vm{Q:Value→Shared→Prop}(g:s.heap.get? a=some (d8 b))(f:b.size≤sizeLine)(h:Q (.bytes b s.toks) {s with toks:=s.toks+1}):wpAny (model prog w) A (call (.type "bytes") [.ref a]) Q E s:=by
 refine callType_codes (Q₁:=λobj c=>c.TypeIs obj "bytes"∧Q obj c) F.bm_called (F.bm_typeCall _) F.entry_object_init
  (jR ?_) λobj c d=>?_
 ·have e:=cZ g
  unfold Builtin.«bytes.__new__»
  refine wpAny_bind (wpAny_of_eq (a:=true) rfl ?_)
  refine bm_if_false rfl ?_
  refine wpAny_bind (wpAny_of_eq F.bm_sub ?_)
  refine bm_if_false rfl ?_
  refine wpAny_bind (wpAny_of_eq (F.bm_bind _) ?_)
  refine wpAny_bind (wpAny_of_eq (a:=()) rfl ?_)
  refine wpAny_bind (wpAny_of_eq (a:=()) rfl ?_)
  refine bm_if_false rfl ?_
  refine wpAny_bind (wpAny_specialOf e vk ?_)
  refine wpAny_bind (wpAny_bind ?_)
  show wpAny _ _ (load a>>=_) _ _ _
  refine wpAny_bind (wpAny_load g ?_)
  refine wpAny_pure (wpAny_pure ?_)
  refine bm_if_false rfl ?_
  refine wpAny_bind (wpAny_specialOf e vl ?_)
  refine bm_if_true rfl ?_
  first
   |show wpAny _ _ (Builtin.Bytes.buffer? "bytes.__new__" (.ref a) true>>=_) _ _ _
   |(refine wpAny_bind ?_;show wpAny _ _ (Builtin.Bytes.buffer? "bytes.__new__" (.ref a) true>>=_) _ _ _)
  refine wpAny_bind ?_
  unfold Builtin.Bytes.buffer?
  refine wpAny_bind (wpAny_specialOf e nU ?_)
  dsimp only
  refine wpAny_bind ?_
  unfold Bytes.slotIsOwn
  refine wpAny_bind (wpAny_specialOf e nU ?_)
  have j:(!("bytearray.__buffer__".endsWith ("." ++ "__buffer__")))=false:=by decide+kernel
  have i:("bytearray.__buffer__".dropRight ("__buffer__".length+1))= "bytearray" :=by decide+kernel
  simp only[j,i,Bool.false_eq_true,if_false]
  refine wpAny_isInstance e hy ?_
  refine bm_if_false rfl ?_
  refine wpAny_bind (wpAny_specialOf e nU ?_)
  refine wpAny_bind (hS g ?_)
  refine bm_if_false rfl ?_
  refine wpAny_bind (eH g ?_)
  refine wpAny_pure ?_
  refine wpAny_bind (wpAny_rule ?_)
  refine wpAny_bind (wpAny_mkBytes ?_ f)
  first
   |exact wpAny_pure ⟨_,rfl,typeIs_bytes _ _ _,h⟩
   |exact wpAny_bind (wpAny_pure (wpAny_pure ⟨_,rfl,typeIs_bytes _ _ _,h⟩))
 ·exact⟨d.1,F.args_object_init_2 obj _,object_init_meets F.bm_called.init.lookup F.bm_called.made (by decide) prog w A.in1 _ c ⟨d.1,rfl,d.2⟩⟩
end
end Mine
end
section
open PySem PySem.W PyProof.Rows PySem.Calls Builtin Builtin.ObjectAttr
namespace Mine
open Nm
section
variable{C:FC}{d:Nat}{N:cb}{H:Hp}{s:Shared}{ρ:Loc}{H1 H2 H3:Hp}
theorem Fh{N g:cb}{h h':Heap}{m:Str→Option Value}{fs:Loc}{a:Nm}{v:MV}{u:Value}(f:E6 N h m fs)(i:RV N h v u)(e:Ext YN N g h h'):E6 g h' (λx=>if x=a.str then some u else m x) (put a v fs):=λn=>by
 rw[p3]
 cases q:a.c.beq n.c with
 |true=>cases fp.mp q;exact⟨λy l=>⟨u,if_pos rfl,Option.some.inj l▸i.ext e⟩,nofun⟩
 |false=>
  have b:¬n.str=a.str:=λz=>by rw[str_inj z,Nat.beq_refl]at q;cases q
  exact⟨λy l=>((f n).1 y l).imp λj z=>⟨(if_neg b).trans z.1,z.2.ext e⟩,λl=>(if_neg b).trans ((f n).2 l)⟩
theorem BV{N:cb}{h:Heap}{m:Str→Option Value}{fs:Loc}(b:E6 N h m fs)(a:Nm)(v:MV):(if(m a.str).isSome then fs.length else fs.length+1)=(put a v fs).length:=by
 rw[E5]
 cases hl:look a fs with
 |none=>rw[(b a).2 hl];rfl
 |some y=>exact((b a).1 y hl).elim λu q=>q.1▸rfl
theorem BW{p:Prop}[Decidable p]{n:Nat}(h:n≤1000):(if p then n else n+1)≤1001:=by
 split
 ·exact Nat.le_succ_of_le h
 ·exact Nat.succ_le_succ h
theorem Aj{prog:Program}{w:World}{K:Frag}{A:Around}{s:Shared}{x c f:Addr}{j:Option Obj}{m:Str→Option Value}{n:Nat}{i:Tok}{name:Str}{v:Value}{b:Bool}(X:K.In s.heap)(J:InstAt s.heap x (instObj c f) c j)(hd:hasDictIn K c=true)(o:E7 s.heap f m n)(l:n≤1000){Q:PySem.Fin→Shared→Prop}{E:Value→Shared→Prop}
  (k:∀h',E7 h' f (λx=>if x=name then some v else m x) (if(m name).isSome then n else n+1)→Heap.SameBut f s.heap h'→Q (.done (.ret .none)) {s with heap:=h',toks:=s.toks+1}):wpAny (model prog w) A (storeInOwnDict (.ref x) (.ref c) (.str name i) name v b) Q E s:=by
 obtain⟨cd,p,h⟩:=any_some hd
 refine wpAny_bind (wpAny_pure (wpAny_bind (wpAny_bind (wpAny_loadPart J.at_ (wpAny_bind (Looks.here (looks_clsIn X p) ?_))))))
 rw[h]
 refine wpAny_pure (a:=some f) (wpAny_bind (wpAny_pure (wpAny_bind ?_)))
 exact i3 o λh' e g _=>e.elim λt z=>z.2.elim λq y=>y.elim λr y=>
  wpAny_bind (wpAny_lookBehind z.1 (y.1▸pastItsLine_dict (Nat.le_trans y.2.2.2 (Nat.le_trans (m:=1001) (BW l) (by decide)))) (wpAny_pure (k _ e g)))
theorem Fj{h:Heap}{x a c:Addr}{m:Str→Option Value}(g:h.get? x=some (instObj c a))(n:h.Ns a m):x≠a:=λz=>n.elim λo y=>y.elim λes y=>y.elim λb y=>nomatch (congrArg Obj.data (Option.some.inj (g.symm.trans ((congrArg h.get? z).trans y.1)))).trans y.2.1
theorem BX(O:C.Ok d)(I:aO C.G N H s){c:Cl}{k:Nat}{fs:Loc}{v:MV}{o u:Value}{a:Nm}(q:H.o c k=.inst fs)(r:RV N s.heap (.ref c k) o)(hf:mr c a=true)(hsz:fs.length≤1000)(h:RV N s.heap v u){Q:Unit→Shared→Prop}{E:Value→Shared→Prop}
  (i:∀s',aO C.G N (H.set c k (.inst (put a v fs))) s'→Ext YN N N s.heap s'.heap→Q () s'):wpAny (model pw C.G.w) C.A (setAttr o a.str u) Q E s:=
 (pL I q r).elim λe r0=>r0.2.2.2.elim λm r=>r.2.2.elim λj J=>e▸
  have hw:=nQ hf
  have X:=jH O I
  set_plain X J.2 (Fe hw) (osa_open (s:={s with toks:=s.toks+1}) X J.2 (BP hw) (r:=none) (by unfold takerIn;rw[nR hf];rfl) λb=>
   Aj (s:={s with toks:=s.toks+1}) X J.2 (qk hw) r.1 hsz λh' g f=>
    have ex:=ew r0.2.1 (f' g.ns) f
    i _ (I.set (v:=.inst (put a v fs)) r0.2.1 (f' g.ns) f ⟨r0.1,r0.2.1,(f.2 _ (Fj r0.2.2.1 r.1.ns)).trans r0.2.2.1,_,BV r.2.1 a v▸g,Fh r.2.1 h ex⟩ _) ex)
theorem aj:p8 d [] ρ H [] H:=λC p i pos O z N s Q E I F k=>d9 (k [] s N I (.refl _ _) .nil)
theorem ag{x:XE}{xs:List XE}{v:MV}{vs:List MV}(h:Ev d x ρ H v H1)(t:p8 d xs ρ H1 vs H2):p8 d (x::xs) ρ H (v::vs) H2:=λC p i pos O z N s Q E I F k=>
 cK (h C _ O (aV z) N s _ _ I F λa f m o e j=>t C p (i+1) pos O (aF z) m f _ _ o (F.ext e) λb q l n c g=>k _ _ l n (e.trans c) (.cons (j.ext c) g)) (x.st _ _ _)
theorem qp{h:Heap}{a:Addr}{xs:Array Value}{n:Nat}(g:h.get? a=some (listOf xs n)):h.IsList a xs:=⟨_,g,rfl,_,rfl⟩
theorem xD(O:C.Ok d)(I:aO C.G N H s){vs:List MV}{xs:List Value}(r:dE N s.heap vs xs):RV N (s.heap.push {cls:=.type "tuple",data:=.seq xs.toArray}) (.tup vs) (.ref s.heap.objs.size):=
 have r:=r.ext (Ext.push N s.heap {cls:=.type "tuple",data:=.seq xs.toArray})
 .tup xs (IsTup.new _ _) I.hp.fresh (gS O I) r.1 r.2
theorem tH(O:C.Ok d)(I:aO C.G N H s){vs:List MV}{xs:List Value}(r:dE N s.heap vs xs):RV N (s.heap.push {cls:=.type "list",data:=.seq xs.toArray}) (.lst vs) (.ref s.heap.objs.size):=
 have r:=r.ext (Ext.push N s.heap {cls:=.type "list",data:=.seq xs.toArray})
 .lst xs 0 (Heap.get?_push_size _ rfl) I.hp.fresh (gS O I) r.1 r.2
theorem qq{h:Heap}:h.get? h.objs.size=none:=match q:h.get? h.objs.size with
 |none=>rfl
 |some o=>absurd ⟨o,q⟩ (cj h)
theorem BY(O:C.Ok d)(I:aO C.G N H s){c:Cl}{v:MO}{o:Obj}(hf:o.isFreed=false)(new:∀a,Ext YN N a s.heap (s.heap.push o)→a.own s.heap.objs.size=.o c (H.n c)→xq C.G.w a (s.heap.push o) c (H.n c) s.heap.objs.size s.heap.objs.size v)(t:Nat):
  ∃a,aO C.G a (H.new c v) {s with heap:=s.heap.push o,toks:=t}∧Ext YN N a s.heap (s.heap.push o)∧RV a (s.heap.push o) (.ref c (H.n c)) (.ref s.heap.objs.size):=by
 have ok:N.own s.heap.objs.size=.t∨(N.own s.heap.objs.size=.no∧s.heap.get? s.heap.objs.size=none):=.inr ⟨I.hp.fresh,qq⟩
 have e:=(mf (c:=c) I.hp ok ok (h':=s.heap.push o) λx b _ g=>Heap.get?_push_of_some _ g).dead (λx q=>q.elim (λq=>q▸cj _) λq=>q▸cj _) I.hp.lt
 have al:aR (s.heap.push o) s.heap.objs.size:=⟨_,Heap.get?_push_size _ hf⟩
 have rr:=RV.ref (N:=N.add c (H.n c) s.heap.objs.size s.heap.objs.size) (h:=s.heap.push o) c (H.n c) (cb.rW.symm▸cb.yS)
 rw[cb.rW]at rr
 exact⟨_,I.add (.inr ⟨I.hp.fresh,qq,gS O I⟩) (.inr ⟨I.hp.fresh,qq,gS O I⟩) (λx b _ g=>Heap.get?_push_of_some _ g) al al (λa q=>new a (q▸e) (q▸cb.yS)) t,e,rr⟩
theorem y0(O:C.Ok d)(I:aO C.G N H s){vs:List MV}{xs:List Value}(r:dE N s.heap vs xs)(t:Nat):
  ∃a,aO C.G a (H.new .L (.list vs)) {s with heap:=s.heap.push {cls:=.type "list",data:=.seq xs.toArray},toks:=t}∧Ext YN N a s.heap (s.heap.push {cls:=.type "list",data:=.seq xs.toArray})∧RV a (s.heap.push {cls:=.type "list",data:=.seq xs.toArray}) (.ref .L (H.n .L)) (.ref s.heap.objs.size):=
 BY (c:=.L) (v:=.list vs) O I rfl (λa e _=>⟨xs,0,Heap.get?_push_size _ rfl,r.ext e⟩) t
noncomputable def cS(es:List XE):XE:={b:=λp=>.Tuple (bL es p 0) (pK p) (pE p),ok:=λsc p=>xe es sc p 0}
noncomputable def cI(es:List XE):XE:={b:=λp=>.List (bL es p 0) (pE p),ok:=λsc p=>xe es sc p 0}
theorem xE{vs:List MV}{xs:List Value}{h:Heap}(hl:vs.length≤1000)(r:dE N h vs xs):xs.length≤sizeLine:=r.1▸Nat.le_trans hl (by decide)
theorem ct{es:List XE}{vs:List MV}(h:p8 d es ρ H vs H1)(hl:vs.length≤1000):Ev d (cS es) ρ H (.tup vs) H1:=λC p O z N s Q E I F k=>
 xj (h C p 0 _ O z N s _ _ I F λxs e c a b r=>⟨xE hl r,k _ _ c (a.push _ _) (b.trans (Ext.push _ _ _)) (xD O a r)⟩)
theorem e4{es:List XE}{vs:List MV}(h:p8 d es ρ H vs H1)(hl:vs.length≤1000):Ev d (cI es) ρ H (.lst vs) H1:=λC p O z N s Q E I F k=>
 HR (h C p 0 _ O z N s _ _ I F λxs e c a b r=>⟨xE hl r,k _ _ c (a.push _ _) (b.trans (Ext.push _ _ _)) (tH O a r)⟩)
theorem kr{es:List XE}{vs:List MV}(h:p8 d es ρ H vs H1)(hl:vs.length≤1000):Ev d (cI es) ρ H (.ref .L (H1.n .L)) (H1.new .L (.list vs)):=λC p O z N s Q E I F k=>
 HR (h C p 0 _ O z N s _ _ I F λxs b f e a r=>⟨xE hl r,(y0 O e r b.toks).elim λc q=>k _ _ c q.1 (a.trans q.2.1) q.2.2⟩)
end
end Mine
end
section
open PySem PySem.W PyProof.Rows PySem.Calls Builtin
namespace Mine
open Nm
noncomputable def HZ{a:Type}(xs:List a):Int→Option a
 | .ofNat j=>bif j.blt 1073741824 then xs[j]? else none
 |_=>none
theorem cx{a:Type}{xs:List a}{j:Nat}{x:a}(h:xs[j]? =some x)(b:j<1073741824):HZ xs (j:Int)=some x:=by
 show(bif j.blt 1073741824 then xs[j]? else none)=_
 rw[Nat.blt_eq.mpr b];exact h
theorem mw{a:Type}{xs:List a}{i:Int}{x:a}(h:HZ xs i=some x):∃j:Nat,i=(j:Int)∧j<1073741824∧xs[j]? =some x:=by
 cases i with
 |negSucc=>cases h
 |ofNat j=>
  have h:(bif j.blt 1073741824 then xs[j]? else none)=some x:=h
  cases q:j.blt 1073741824 with
  |true=>rw[q]at h;exact⟨j,rfl,Nat.blt_eq.mp q,h⟩
  |false=>rw[q]at h;cases h
def LstAt(H:Hp)(v:MV)(vs:List MV):Prop:=v=.lst vs∨∃k,v=.ref .L k∧H.o .L k=.list vs
theorem dE.get{N:cb}{h:Heap}{vs:List MV}{xs:List Value}(r:dE N h vs xs){j:Nat}{v:MV}(q:vs[j]? =some v):∃u,xs[j]? =some u∧RV N h v u:=
 have a:j<xs.length:=r.1▸(List.getElem?_eq_some_iff.mp q).1
 ⟨xs[j],List.getElem?_eq_getElem a,r.2 j v _ q (List.getElem?_eq_getElem a)⟩
inductive Item(H:Hp):MV→MV→MV→Prop where
 |l {v:MV} {vs:List MV} {i:Int} {x:MV}:LstAt H v vs→HZ vs i=some x→Item H v (.int i) x
 |s {k:Nat} {fs:Loc} {n:Nm} {x:MV}:H.o .S k=.bu fs→look n fs=some x→Item H (.ref .S k) (.str n) x
 |b {k:Nat} {bs:List UInt8} {i:Int} {x:UInt8}:H.o .B k=.dD bs→HZ bs i=some x→bs.length≤1000000→Item H (.ref .B k) (.int i) (.int x.toNat)
 |t {vs:List MV} {i:Int} {x:MV}:HZ vs i=some x→Item H (.tup vs) (.int i) x
 |y {bs:List UInt8} {i:Int} {x:UInt8}:HZ bs i=some x→bs.length≤1000000→Item H (.bytes bs) (.int i) (.int x.toNat)
section
variable{C:FC}{d:Nat}{N:cb}{H:Hp}{s:Shared}{ρ:Loc}{H1 H2 H3:Hp}
theorem e5(I:aO C.G N H s){v:MV}{vs:List MV}{u:Value}(r:RV N s.heap v u)(l:LstAt H v vs):∃a xs n,u=.ref a∧s.heap.get? a=some (listOf xs.toArray n)∧dE N s.heap vs xs:=
 l.elim (λe=>(show MR N s.heap u (.lst vs)from(e▸r).d).imp λa z=>z.imp λxs z=>z.imp λn z=>⟨z.1,z.2.1,z.2.2.2.2⟩) λl=>l.elim λk l=>
  have r:MR N s.heap u (.ref .L k):=(l.1▸r).d
  have o:=(I.hp.o .L k (I.hp.E0 _ _ _ r.2)).2
  (show xq C.G.w N s.heap .L k _ _ (.list vs)from l.2▸o).elim λxs z=>z.elim λn z=>⟨_,xs,n,r.1,z⟩
theorem cT(I:aO C.G N H s){c:Cl}{k:Nat}{o:MO}{u:Value}(r:RV N s.heap (.ref c k) u)(q:H.o c k=o):u=.ref (N.x c k)∧N.own (N.x c k)=.o c k∧xq C.G.w N s.heap c k (N.x c k) (N.d c k) o:=
 ⟨r.d.1,r.d.2,q▸(I.hp.o c k (I.hp.E0 _ _ _ r.d.2)).2⟩
theorem mx{a:Type}[DecidableEq a]{k b:a}{v:Value}{r:List (a×Value)}:valueAt ((b,v)::r) k=if b=k then some v else valueAt r k:=by
 unfold valueAt
 rw[List.find?_cons]
 by_cases e:b=k
 ·rw[decide_eq_true e,if_pos e];rfl
 ·rw[decide_eq_false e,if_neg e]
theorem xF{N:cb}{h:Heap}{n:Nm}{v:MV}{kvs:List (Str×Value)}{fs:Loc}(r:cM N h Nm.str kvs fs)(q:look n fs=some v):∃u,valueAt kvs n.str=some u∧RV N h v u:=by
 induction fs generalizing kvs with
 |nil=>cases q
 |cons e fs ih=>
  cases kvs with
  |nil=>cases r.1
  |cons p kvs=>
   obtain⟨m,w⟩:=e
   obtain⟨x,u⟩:=p
   have a:x=m.str:=(List.cons.inj r.1).1
   have tail:cM N h Nm.str kvs fs:=⟨(List.cons.inj r.1).2,Nat.succ.inj r.2.1,λj v x p q=>r.2.2 (j+1) v x p q⟩
   rw[mx]
   have q:(bif m.c.beq n.c then some w else look n fs)=some v:=q
   cases e:m.c.beq n.c with
   |true=>rw[e]at q;exact⟨u,if_pos (a.trans (congrArg Nm.str (fp.mp e))),Option.some.inj q▸r.2.2 0 w u rfl rfl⟩
   |false=>
    rw[e]at q
    rw[if_neg λz=>by rw[str_inj (a.symm.trans z),Nat.beq_refl]at e;cases e]
    exact ih tail q
theorem tI{j n:Nat}(h:j<n):seqIndex? (j:Int) n=some j:=by
 show(if(0≤(if(j:Int)<0 then(j:Int)+n else j)&&(if(j:Int)<0 then(j:Int)+n else j)<n)=true then _ else none)=_
 rw[if_neg (Int.not_lt.mpr (Int.natCast_nonneg j)),decide_eq_true (Int.natCast_nonneg j),decide_eq_true (Int.ofNat_lt.mpr h)];rfl
theorem Fm(O:C.Ok d)(I:aO C.G N H s){o i x:MV}{a b:Value}(f:RV N s.heap o a)(rb:RV N s.heap i b)(q:Item H o i x){Q:Value→Shared→Prop}{E:Value→Shared→Prop}
  (k:∀v t,RV N s.heap x v→Q v {s with toks:=t}):SubscriptOn (model pw C.G.w) C.A a b Q E s:=by
 cases q with
 |l l h=>
  obtain⟨j,rfl,m,h⟩:=mw h
  obtain⟨a,xs,n,rfl,g,r⟩:=e5 I f l
  obtain⟨t,rfl⟩:=rb.d
  obtain⟨u,c,pu⟩:=r.get h
  exact⟨"list",_,list_getitem_lookup,(qp g).typeIs,wpAny_getItem_list (qp g) (Int.natCast_nonneg _) (by omega) (by simpa using c) (k _ s.toks pu)⟩
 |s e h=>
  obtain⟨rfl,_,_,kvs,D,P⟩:=cT I f e
  obtain⟨t,rfl⟩:=rb.d
  obtain⟨u,c,pu⟩:=xF P h
  exact⟨"dict",_,slot_dict_getitem.lookup,D.mapOf.typeIs,wpAny_getItem_of (strKind_is pw C.G.w _ t) D.mapOf c (k _ _ pu)⟩
 |b e h hl=>
  obtain⟨j,rfl,m,h⟩:=mw h
  obtain⟨rfl,_,g⟩:=cT I f e
  obtain⟨t,rfl⟩:=rb.d
  exact⟨"bytearray",_,gu.lookup,cZ g,xy g (Int.natCast_nonneg _) (by omega) (by simpa using h) (k _ _ (.int _ _))⟩
 |t h=>
  obtain⟨j,rfl,m,h⟩:=mw h
  obtain⟨a,us,rfl,p,_,_,r⟩:=f.d
  obtain⟨t,rfl⟩:=rb.d
  obtain⟨u,c,pu⟩:=r.get h
  exact⟨"tuple",_,slot_tuple_getitem.lookup,p.typeIs,getItem_tuple (j:=j) p (by omega) (by omega) (tI (List.getElem?_eq_some_iff.mp c).1) (by simpa using c) (k _ s.toks pu)⟩
 |y h hl=>
  obtain⟨j,rfl,m,h⟩:=mw h
  obtain⟨t,rfl⟩:=f.d
  obtain⟨u,rfl⟩:=rb.d
  rename_i x _
  have z:=(List.getElem?_eq_some_iff.mp h).1
  refine⟨"bytes",_,FB.slot_bytes_getitem.lookup,typeIs_bytes _ _ _,getItem_bytes (by omega) (Int.natCast_nonneg _) (by omega) (k _ _ ?_)⟩
  exact(show List.getD _ j 0=x by rw[List.getD,h];rfl)▸ .int _ _
noncomputable def aI(o i:XE):XE:={b:=λp=>.Subscript (o.b (sub p 0)) (i.b (sub p 1)) (pE p),ok:=λsc p=>o.ok sc (sub p 0)&&i.ok sc (sub p 1)}
theorem aW{o i:XE}{a j v:MV}(h:Ev d o ρ H a H1)(hi:Ev d i ρ H1 j H2)(q:Item H2 a j v):Ev d (aI o i) ρ H v H2:=λC p O z N s Q E I F k=>
 xm (i.sl _) (h C _ O (aV z) N s _ _ I F λa g u w e m=>hi C _ O (aF z) u g _ _ w (F.ext e) λb x n f c l=>Fm O f (m.ext c) l q λv t r=>k v _ n (f.tok t) (e.trans c) r)
end
theorem BZ{a:Type}(xs:List a)(j:Nat):(xs.drop ((none:Option Int).elim 0 (clipAt xs.length))).take ((some (j:Int)).elim xs.length (clipAt xs.length)-(none:Option Int).elim 0 (clipAt xs.length))=xs.take j:=by
 simp only[Option.elim,clipAt_nat,List.drop_zero,Nat.sub_zero]
 rcases Nat.le_total j xs.length with q|q
 ·rw[Nat.min_eq_left q]
 ·rw[Nat.min_eq_right q,List.take_length,List.take_of_length_le q]
theorem B0{a:Type}(xs:List a)(j:Nat):(xs.drop ((some (j:Int)).elim 0 (clipAt xs.length))).take ((none:Option Int).elim xs.length (clipAt xs.length)-(some (j:Int)).elim 0 (clipAt xs.length))=xs.drop j:=by
 simp only[Option.elim,clipAt_nat]
 rcases Nat.le_total j xs.length with q|q
 ·rw[Nat.min_eq_left q,List.take_of_length_le];simp
 ·rw[Nat.min_eq_right q,List.drop_of_length_le (Nat.le_refl _),List.drop_of_length_le q,List.take_nil]
theorem dE.take{N:cb}{h:Heap}{vs:List MV}{xs:List Value}(r:dE N h vs xs)(k:Nat):dE N h (vs.take k) (xs.take k):=
 ⟨by rw[List.length_take,List.length_take,r.1],λj v x p q=>by
  rw[List.getElem?_take]at p q
  split at p
  ·rw[if_pos ‹_›]at q;exact r.2 j v x p q
  ·cases p⟩
theorem dE.append{N:cb}{h:Heap}{vs a:List MV}{xs ys:List Value}(r:dE N h vs xs)(b:dE N h a ys):dE N h (vs++a) (xs++ys):=
 ⟨by rw[List.length_append,List.length_append,r.1,b.1],λj v x p q=>by
  rw[List.getElem?_append]at p q
  split at p
  ·rw[if_pos (r.1.symm▸‹_›)]at q;exact r.2 j v x p q
  ·rw[if_neg (r.1.symm▸‹_›),r.1]at q;exact b.2 _ v x p q⟩
theorem dE.rep{N:cb}{h:Heap}{v:MV}{x:Value}(r:RV N h v x)(n:Nat):dE N h (List.replicate n v) (List.replicate n x):=
 ⟨by rw[List.length_replicate,List.length_replicate],λj v x p q=>by
  rw[List.getElem?_replicate]at p q
  split at p
  ·rw[if_pos ‹_›]at q;exact Option.some.inj p▸Option.some.inj q▸r
  ·cases p⟩
section
variable{C:FC}{d:Nat}{N:cb}{H:Hp}{s:Shared}{ρ:Loc}{H1 H2 H3:Hp}
theorem oO{bs ys:List UInt8}{t:Tok}{l u:Value}{lo hi:Option Int}(pl:IsPart l lo)(pu:IsPart u hi)(hl:bs.length≤1000000)(hp:(bs.drop (lo.elim 0 (clipAt bs.length))).take (hi.elim bs.length (clipAt bs.length)-lo.elim 0 (clipAt bs.length))=ys){Q:Value→Shared→Prop}{E:Value→Shared→Prop}
  (k:∀a z,Q (.bytes ys.toArray a) {s with heap:=s.heap.push {cls:=.type "slice",data:=.fields #[l,u,.none]},toks:=z}):SubscriptOn (model pw C.G.w) C.A (.bytes bs.toArray t) (.ref s.heap.objs.size) Q E {s with heap:=s.heap.push {cls:=.type "slice",data:=.fields #[l,u,.none]}}:=by
 have hp:KBy.picked bs.toArray lo hi=ys.toArray:=by
  rw[KBc.picked_eq,List.size_toArray,←hp]
 exact⟨"bytes",_,FB.slot_bytes_getitem.lookup,typeIs_bytes _ _ _,getItem_meets (typeIs_bytes _ _ _) (by decide) FB.slot_bytes_getitem FB.entry_bytes_getitem (FB.args_bytes_getitem_2 _ _) (KBc.meets_slice2 _ t _ pl pu)
     ⟨Heap.IsSliceOf.new _ _ _ _,Nat.le_trans (KBc.size_picked_le _ lo hi) (by rw[List.size_toArray];exact Nat.le_trans hl (by decide)),λa z=>hp▸k _ _⟩⟩
noncomputable def qr(o i:XE):XE:={b:=λp=>.Subscript (o.b (sub p 0)) (.Slice (some (i.b (sub (sub p 1) 0))) none none (pE (sub p 1))) (pE p),ok:=λsc p=>o.ok sc (sub p 0)&&i.ok sc (sub (sub p 1) 0)}
noncomputable def Jb(o i:XE):XE:={b:=λp=>.Subscript (o.b (sub p 0)) (.Slice none (some (i.b (sub (sub p 1) 1))) none (pE (sub p 1))) (pE p),ok:=λsc p=>o.ok sc (sub p 0)&&i.ok sc (sub (sub p 1) 1)}
theorem qs{o i:XE}{bs:List UInt8}{j:Nat}(h:Ev d o ρ H (.bytes bs) H1)(hi:Ev d i ρ H1 (.int j) H2)(hl:bs.length≤1000000):Ev d (qr o i) ρ H (.bytes (bs.drop j)) H2:=λC p O z N s Q E I F k=>
 xn (h C _ O (aV z) N s _ _ I F λa l r v c n=>n.d.elim λt e=>e▸hi C _ O (aF z) r l _ _ v (F.ext c) λb x q u f m=>m.d.elim λw e'=>e'▸a9 (oO (.int _ _) .none hl (B0 bs j) λg z=>k _ _ q (u.push _ _) ((c.trans f).trans (Ext.push _ _ _)) (.bytes _ _)))
theorem B1{o i:XE}{bs:List UInt8}{j:Nat}(h:Ev d o ρ H (.bytes bs) H1)(hi:Ev d i ρ H1 (.int j) H2)(hl:bs.length≤1000000):Ev d (Jb o i) ρ H (.bytes (bs.take j)) H2:=λC p O z N s Q E I F k=>
 xn (h C _ O (aV z) N s _ _ I F λa l r v c n=>n.d.elim λt e=>e▸a9 (hi C _ O (aF z) r l _ _ v (F.ext c) λb x q u f m=>m.d.elim λw e'=>e'▸oO .none (.int _ _) hl (BZ bs j) λg z=>k _ _ q (u.push _ _) ((c.trans f).trans (Ext.push _ _ _)) (.bytes _ _)))
theorem Jc{o i:XE}{v:MV}{vs:List MV}{j:Nat}(h:Ev d o ρ H v H1)(hi:Ev d i ρ H1 (.int j) H2)(l:LstAt H2 v vs)(hl:vs.length≤1000000):Ev d (Jb o i) ρ H (.lst (vs.take j)) H2:=λC p O z N s Q E I F k=>
 xn (h C _ O (aV z) N s _ _ I F λa w A B g y=>a9 (hi C _ O (aF z) A w _ _ B (F.ext g) λb e q u f x=>x.d.elim λc e'=>e'▸(e5 u (y.ext f) l).elim λa z=>z.elim λxs z=>z.elim λn z=>z.1▸by
  have m:=(qp z.2.1).push (o:={cls:=.type "slice",data:=.fields #[.none,.int j c,.none]})
  have hp:slicePick xs.toArray none (some (j:Int)) none=(xs.take j).toArray:=by
   rw[slicePick_plain,List.size_toArray,←BZ xs j]
  have r:=(z.2.2.take j).ext (Ext.push q e.heap {cls:=.type "slice",data:=.fields #[.none,.int j c,.none]})
  refine⟨"list",_,list_getitem_lookup,Heap.IsList.typeIs (s:={e with heap:=e.heap.push {cls:=.type "slice",data:=.fields #[.none,.int j c,.none]}}) m,wpAny_getItem_list_slice m (Heap.IsSliceOf.new ..) .none (.int _ _) .none (by simp) ?_ (by rw[List.size_toArray,z.2.2.1];exact Nat.le_trans hl (by decide))⟩
  rw[hp]
  have t:=u.push {cls:=.type "slice",data:=.fields #[.none,.int j c,.none]} e.toks
  exact k _ _ q (t.push _ _) (((g.trans f).trans (Ext.push _ _ _)).trans (Ext.push _ _ _)) (tH O t r)))
end
end Mine
end
section
open PySem PySem.W PyProof.Rows PySem.Calls Builtin PySem.SeqAt
namespace Mine
open Nm
inductive Fo(H:Hp):Operator→MV→MV→MV→Prop where
 |add (x y:Int):Fo H .Add (.int x) (.int y) (.int (x+y))
 |sub (x y:Int):Fo H .Sub (.int x) (.int y) (.int (x-y))
 |mul (x y:Int):y.natAbs<2^63→Fo H .Mult (.int x) (.int y) (.int (x*y))
 |div (x y:Int):0<y→y<1073741824→Fo H .FloorDiv (.int x) (.int y) (.int (x/y))
 |mod (x y:Int):0<y→Fo H .Mod (.int x) (.int y) (.int (x%y))
 |cat (x y:List UInt8):x.length+y.length≤1000→Fo H .Add (.bytes x) (.bytes y) (.bytes (x++y))
 |big:Fo H .Pow (.int 10) (.int 18) (.int (10^18))
section
variable{C:FC}{d:Nat}{N:cb}{H:Hp}{s:Shared}{ρ:Loc}{H1 H2 H3:Hp}
theorem Jd{op:Operator}{x y z:MV}{a b:Value}(q:Fo H op x y z)(c:RV N s.heap x a)(rb:RV N s.heap y b){Q:Value→Shared→Prop}{E:Value→Shared→Prop}(k:∀v t,RV N s.heap z v→Q v {s with toks:=t}):wpAny (model pw C.G.w) C.A (binaryOp op a b) Q E s:=by
 cases q with
 |add x y=>exact c.d.elim λt e=>rb.d.elim λu e'=>e▸e'▸wpAny_add_int (k _ _ (.int _ _))
 |sub x y=>exact c.d.elim λt e=>rb.d.elim λu e'=>e▸e'▸PyProof.Rows.sub_int (k _ _ (.int _ _))
 |mul x y j=>exact c.d.elim λt e=>rb.d.elim λu e'=>e▸e'▸PyProof.Rows.mul_int (k _ _ (.int _ _))
 |div x y f h2=>exact c.d.elim λt e=>rb.d.elim λu e'=>e▸e'▸PyProof.Rows.floordiv_int (Int.ne_of_gt f) ((Int.fdiv_eq_ediv_of_nonneg x (Int.le_of_lt f)).symm▸k _ _ (.int _ _)) (Or.inl (PyProof.noPylong_small (by omega)))
 |mod x y f=>exact c.d.elim λt e=>rb.d.elim λu e'=>e▸e'▸mod_int' (Int.ne_of_gt f) ((Int.fmod_eq_emod_of_nonneg x (Int.le_of_lt f)).symm▸k _ _ (.int _ _))
 |cat x y h=>exact c.d.elim λt e=>rb.d.elim λu e'=>e▸e'▸KBy.add_bytes (by simp only[List.size_toArray];omega) λg i=>(List.append_toArray x y).symm▸k _ _ (.bytes _ _)
 |big=>exact c.d.elim λt e=>rb.d.elim λu e'=>e▸e'▸pow_int (by decide) (by decide+kernel) (k _ _ (.int _ _))
noncomputable def aL(op:Operator)(l r:XE):XE:={b:=λp=>.BinOp (l.b (sub p 0)) op (r.b (sub p 1)) (pE p),ok:=λsc p=>l.ok sc (sub p 0)&&r.ok sc (sub p 1)}
theorem a8{op:Operator}{l r:XE}{x y z:MV}(h:Ev d l ρ H x H1)(h':Ev d r ρ H1 y H2)(q:Fo H2 op x y z):Ev d (aL op l r) ρ H z H2:=λC p O w N s Q E I F k=>
 sW (h C _ O (aV w) N s _ _ I F λa f m o e i=>h' C _ O (aF w) m f _ _ o (F.ext e) λb u j n c g=>.of (Jd q (i.ext c) g λv t r=>k v _ j (n.tok t) (e.trans c) r))
theorem B2{l r:XE}{x y:MV}{xs ys:List MV}(h:Ev d l ρ H x H1)(h':Ev d r ρ H1 y H2)(o:LstAt H2 x xs)(n:LstAt H2 y ys)(hl:xs.length+ys.length≤1000):Ev d (aL .Add l r) ρ H (.lst (xs++ys)) H2:=λC p O w N s Q E I F k=>
 sW (h C _ O (aV w) N s _ _ I F λa i t u f m=>h' C _ O (aF w) t i _ _ u (F.ext f) λb v q c e j=>.of (
  (e5 c (m.ext e) o).elim λa z=>z.elim λus z=>z.elim λn1 z=>(e5 c j n).elim λb y=>y.elim λg y=>y.elim λn2 y=>z.1▸y.1▸
  concat_meets ⟨_,z.2.1,rfl⟩ ⟨_,y.2.1,rfl⟩ noFill_list_add seq_list_add PySem.F.slot_list_add PySem.F.entry_list_add (PySem.F.args_list_add_2 _ _) (list_addW _ _ us.toArray g.toArray n1 n2 none none #[] #[] (by rw[List.size_toArray,List.size_toArray,z.2.2.1,y.2.2.1];exact Nat.le_trans hl (by decide)))
   ⟨z.2.1,y.2.1,by
    have r:=tH O c (z.2.2.append y.2.2)
    rw[←List.append_toArray]at r
    exact k _ _ q (c.push _ _) ((f.trans e).trans (Ext.push _ _ _)) r⟩))
theorem B3(u:Value)(n:Nat):(List.foldl (λb a=>b++a) #[] (List.replicate (if(#[u]:Array Value).isEmpty=true then 0 else n) #[u]))=(List.replicate n u).toArray:=by
 rw[listMul_foldl_if]
 congr 1
 induction n with
 |zero=>rfl
 |succ n ih=>rw[List.replicate_succ,List.flatten_cons,ih,List.replicate_succ];rfl
theorem B4{a:Addr}{u:Value}{n1:Nat}{y:Int}{t:Tok}(g:s.heap.get? a=some (listOf [u].toArray n1))(j:0≤y)(i:y≤1000){Q:Value→Shared→Prop}{E:Value→Shared→Prop}(k:Q (.ref s.heap.objs.size) {s with heap:=s.heap.push {cls:=.type "list",data:=.seq (List.replicate y.toNat u).toArray}}):
  wpAny (model pw C.G.w) C.A (binaryOp .Mult (.ref a) (.int y t)) Q E s:=by
 have e:¬(!Builtin.List.listFitsIndex y)=true:=by simp[Builtin.List.listFitsIndex];omega
 have h:(#[u]:Array Value).size*y.toNat=y.toNat:=Nat.one_mul _
 have f:y.toNat≤1000:=by omega
 have c:¬(#[u]:Array Value).size*y.toNat>(2^63-1)/8:=by rw[h];exact Nat.not_lt.mpr (Nat.le_trans f (by decide))
 have b:¬Builtin.List.listTooLong ((#[u]:Array Value).size*y.toNat)=true:=by
  rw[h,show Builtin.List.listTooLong y.toNat=decide (y.toNat>sizeLine)from rfl,decide_eq_false (Nat.not_lt.mpr (Nat.le_trans f (by decide)))];exact Bool.false_ne_true
 exact wpAny_binaryOp_repeat_ref (T:= "list") (U:= "int") (by decide) ⟨_,g,rfl⟩ (λs'=>typeIs_int s' y t) noFill_list_mul F.fills_int_mul F.slot_int_rmul repeat_list F.slot_int_index.lookup
      (call_meets F.slot_int_rmul (typeIs_int s y t) F.entry_int_rmul (F.args_int_rmul_2 _ _) (int___rmul___int_list y t _ #[u] n1)
       ⟨g,rfl,⟨_,g,rfl⟩,call_meets F.slot_list_mul ⟨_,g,rfl⟩ F.entry_list_mul (F.args_list_mul_2 _ _)
        (AutoListH.list___mul___list_int_3 _ #[u] n1 y t e c b)
        ⟨g,B3 u y.toNat▸k⟩⟩)
theorem dE.one{h:Heap}{v:MV}{xs:List Value}(r:dE N h [v] xs):∃u,xs=[u]∧RV N h v u:=(List.length_eq_one_iff.mp r.1).imp λu e=>⟨e,r.2 0 v u rfl (e▸rfl)⟩
theorem xG{l r:XE}{x v:MV}{y:Int}(h:Ev d l ρ H x H1)(h':Ev d r ρ H1 (.int y) H2)(o:LstAt H2 x [v])(A:0≤y)(q:y≤1000):Ev d (aL .Mult l r) ρ H (.lst (List.replicate y.toNat v)) H2:=λC p O w N s Q E I F k=>
 sW (h C _ O (aV w) N s _ _ I F λa j D G g n=>h' C _ O (aF w) D j _ _ G (F.ext g) λb J B c f m=>.of (
  (e5 c (n.ext f) o).elim λa z=>z.elim λus z=>z.elim λn1 z=>m.d.elim λt e=>z.2.2.one.elim λu i=>z.1▸e▸
  B4 (i.1▸z.2.1) A q (k _ _ B (c.push _ _) ((g.trans f).trans (Ext.push _ _ _)) (tH O c (dE.rep i.2 _)))))
theorem Fp{l r:XE}{x v:MV}{y:Int}(h:Ev d l ρ H x H1)(h':Ev d r ρ H1 (.int y) H2)(B:LstAt H2 x [v])(G:0≤y)(D:y≤1000):Ev d (aL .Mult l r) ρ H (.ref .L (H2.n .L)) (H2.new .L (.list (List.replicate y.toNat v))):=λC p O w N s Q E I F k=>
 sW (h C _ O (aV w) N s _ _ I F λa m J M f A=>h' C _ O (aF w) J m _ _ M (F.ext f) λb j P i c o=>.of (
  (e5 i (A.ext c) B).elim λa z=>z.elim λus z=>z.elim λn1 z=>o.d.elim λt e=>z.2.2.one.elim λu g=>z.1▸e▸
  B4 (g.1▸z.2.1) G D ((y0 O i (dE.rep g.2 _) j.toks).elim λK q=>k _ _ K q.1 ((f.trans c).trans q.2.1) q.2.2)))
end
section
variable{A:Around}{s:Shared}{N:cb}
theorem rt(a:Array UInt8)(t:Tok):Gives (Builtin.«bytes.__eq__» ⟨[.bytes a t,.none],[]⟩) (.val Value.notImplemented):=by
 refine .of_wp λM A E s Q h=>?_
 obtain⟨hp,g,d,b,os⟩:=s
 have c:=F.sub_NoneType_bytes
 wp_walk
 exact⟨_,rfl,h⟩
theorem ru(a:Array UInt8)(t:Tok):Gives (Builtin.«NoneType.__eq__» ⟨[.none,.bytes a t],[]⟩) (.val Value.notImplemented):=by
 refine .of_wp λM A E s Q h=>?_
 obtain⟨hp,g,d,b,os⟩:=s
 wp_walk
 exact⟨_,rfl,h⟩
theorem rv(b:Array UInt8)(u:Tok):RcAt A s (.bytes b u) .none false:=λprog w E Q h=>
 rc_eq_decline_or (k:=false) (typeIs_bytes s b u) rfl (by decide) F.sub_NoneType_bytes FB.slot_bytes_eq F.slot_NoneType_eq_refl
  (λ_ a=>call_gives FB.slot_bytes_eq (typeIs_bytes s b u) FB.entry_bytes_eq (FB.args_bytes_eq_2 _ _) (rt b u) a)
  (λ_ a=>call_gives F.slot_NoneType_eq_refl rfl F.entry_NoneType_eq (F.args_NoneType_eq_2 _ _) (ru b u) a)
  (λ_ a=>wpAny_of_eq (rfl:isSame (.bytes b u) .none=pure false) a) (.inl rfl) h
theorem B5(b c:Array UInt8)(t u:Tok):EqAt A s (.bytes b t) (.bytes c u) (b.toList==c.toList):=λprog w E Q h=>by
 unfold eqBool
 refine wpAny_holding (wpAny_ite_split (λa=>?_) (λ_=>?_))
 ·have:=eq_of_beq a
  injection this with e
  subst e
  exact wpAny_bind (wpAny_rule (wpAny_pure (by simpa using h)))
 ·exact wpAny_bind (eq_bytes (wpAny_truthy_bool h))
theorem rx(b:Array UInt8)(u:Tok):EqAt A s (.bytes b u) .none false:=λprog w E Q h=>by
 unfold eqBool
 refine wpAny_holding (wpAny_ite_split (λa=>absurd (eq_of_beq a) nofun) (λ_=>?_))
 exact wpAny_bind (rv b u prog w E _ (wpAny_truthy_bool h))
inductive r7:MV→MV→Bool→Prop where
 |nn:r7 .none .none true
 |bn (b:List UInt8):r7 (.bytes b) .none false
 |ii (x y:Int):r7 (.int x) (.int y) (decide (x=y))
 |ss (x y:Nm):r7 (.str x) (.str y) (x.c.beq y.c)
 |bb (x y:List UInt8):r7 (.bytes x) (.bytes y) (x==y)
 |rr (c:Cl) (k:Nat):r7 (.ref c k) (.ref c k) true
 |pp (a b x y:Int):r7 (.tup [.int a,.int b]) (.tup [.int x,.int y]) (decide (a=x)&&decide (b=y))
theorem qt(x y:Nm):(x.str==y.str)=x.c.beq y.c:=Bool.eq_iff_iff.mpr (by rw[beq_iff_eq,fp];exact⟨str_inj,λh=>h▸rfl⟩)
theorem B6{h:Heap}{a:Addr}{xs ys:List Value}(d:IsTup h a xs.toArray)(c:IsTup h a ys.toArray):xs=ys:=
 d.elim λo z=>c.elim λg b=>z.2.2.elim λn q=>b.2.2.elim λf q'=>
  have e:Data.seq xs.toArray n=Data.seq ys.toArray f:=q.symm.trans ((congrArg Obj.data (Option.some.inj (z.1.symm.trans b.1))).trans q')
  congrArg Array.toList (Data.seq.inj e).1
theorem Fq{c:Type}{l:List c}(h:l.length=2):∃a b,l=[a,b]:=by
 obtain⟨a,t,rfl⟩:=List.exists_cons_of_length_eq_add_one h
 obtain⟨b,rfl⟩:=List.length_eq_one_iff.mp (Nat.succ.inj h)
 exact⟨a,b,rfl⟩
theorem dE.pair{h:Heap}{a b:Int}{xs:List Value}(r:dE N h [.int a,.int b] xs):∃t u,xs=[.int a t,.int b u]:=
 (Fq r.1).elim λx z=>z.elim λy e=>(r.2 0 _ x rfl (e▸rfl)).d.elim λt f=>(r.2 1 _ y rfl (e▸rfl)).d.elim λu c=>⟨t,u,f▸c▸e⟩
theorem all2(a b:Bool):(((List.range 2).all λn=>match n with|0=>a|_=>b)&&true)=(a&&b):=by cases a<;>cases b<;>rfl
theorem Fs{a c:Addr}{i j k l:Int}{t u m g:Tok}(o:A.units+1<cLine)(f:IsTup s.heap a [.int i t,.int j u].toArray)(d:IsTup s.heap c [.int k m,.int l g].toArray):EqAt A s (.ref a) (.ref c) (decide (i=k)&&decide (j=l)):=
 (Decidable.em (a=c)).elim (λe=>by
   cases e
   cases B6 f d
   rw[decide_eq_true rfl,decide_eq_true rfl]
   exact EqAt.same _) λb=>
  EqAt.of_refs b ((congrArg (RcAt A s _ _) (all2 _ _)).mp (RcAt.tuples (e:=λn=>match n with|0=>decide (i=k)|_=>decide (j=l)) f d (Nat.lt_of_succ_lt o) λn=>Nat.casesOn n (λ_ _=>EqAt.int_int _ _ _ _) λn=>Nat.casesOn n (λ_ _=>EqAt.int_int _ _ _ _) λn h=>absurd h (Nat.not_lt.mpr (Nat.le_add_left 2 n))))
theorem Je{x y:MV}{b:Bool}(q:r7 x y b)(A:Around){a c:Value}(g:A.units+1<cLine)(f:RV N s.heap x a)(rc:RV N s.heap y c):EqAt A s a c b:=by
 cases q with
 |nn=>exact(show a=.none from f.d)▸(show c=.none from rc.d)▸EqAt.same _
 |bn b=>exact f.d.elim λt e=>e▸(show c=.none from rc.d)▸rx _ _
 |ii x y=>exact f.d.elim λt e=>rc.d.elim λu e'=>e▸e'▸EqAt.int_int _ _ _ _
 |ss x y=>exact f.d.elim λt e=>rc.d.elim λu e'=>e▸e'▸qt x y▸EqAt.str_str _ _ _ _
 |bb x y=>exact f.d.elim λt e=>rc.d.elim λu e'=>e▸e'▸B5 _ _ _ _
 |rr c k=>exact f.d.1▸rc.d.1▸EqAt.same _
 |pp i j k l=>exact f.d.elim λa z=>z.elim λus z=>rc.d.elim λc y=>y.elim λh y=>z.2.2.2.2.pair.elim λt e=>e.elim λu e=>y.2.2.2.2.pair.elim λn e'=>e'.elim λm e'=>z.1▸y.1▸Fs g (e▸z.2.1) (e'▸y.2.1)
end
def xH(f:Nat→Bool)(xs ys:List MV):Prop:=∀(j:Nat) x y,xs[j]? =some x→ys[j]? =some y→r7 x y (f j)
inductive pN(H:Hp):MV→MV→Bool→Prop where
 |ii (x y:Int):pN H (.int x) (.int y) (decide (x=y))
 |ss (x y:Nm):pN H (.str x) (.str y) (x.c.beq y.c)
 |bb (x y:List UInt8):pN H (.bytes x) (.bytes y) (x==y)
 |tt (xs ys:List MV) (f:Nat→Bool):xH f xs ys→pN H (.tup xs) (.tup ys) ((List.range (min xs.length ys.length)).all f&&xs.length==ys.length)
 |ll {x y:MV} (xs ys:List MV) (f:Nat→Bool):LstAt H x xs→LstAt H y ys→xs.length=ys.length→xH f xs ys→pN H x y ((List.range xs.length).all f)
 |ln {x y:MV} (xs ys:List MV):LstAt H x xs→LstAt H y ys→xs.length≠ys.length→pN H x y false
noncomputable def isNone:MV→Bool
 | .none=>true
 |_=>false
inductive eR(H:Hp):CmpOp→MV→MV→Bool→Prop where
 |eq {x y:MV} {b:Bool}:pN H x y b→eR H .Eq x y b
 |ne {x y:MV} {b:Bool}:pN H x y b→eR H .NotEq x y (!b)
 |nt (xs:List MV):eR H .Eq .none (.tup xs) false
 |lt (x y:Int):eR H .Lt (.int x) (.int y) (decide (x<y))
 |le (x y:Int):eR H .LtE (.int x) (.int y) (decide (x≤y))
 |gt (x y:Int):eR H .Gt (.int x) (.int y) (decide (y<x))
 |ge (x y:Int):eR H .GtE (.int x) (.int y) (decide (y≤x))
 |Ak (x:MV):eR H .Is x .none (isNone x)
 |B7 (x:MV):eR H .IsNot x .none (!isNone x)
 |LG (c:Cl) (k:Nat):eR H .Is .none (.ref c k) false
 |MX (c:Cl) (k:Nat):eR H .Is (.ref c k) (.ref c k) true
 |LH {c c':Cl} {k k':Nat}:(c=c'→k=k'→False)→(∃fs,H.o c k=.inst fs)→(∃fs,H.o c' k'=.inst fs)→eR H .Is (.ref c k) (.ref c' k') false
 |N7 (c:Cl) (k:Nat):eR H .IsNot (.ref c k) (.ref c k) false
 |N9 {c c':Cl} {k k':Nat}:(c=c'→k=k'→False)→(∃fs,H.o c k=.inst fs)→(∃fs,H.o c' k'=.inst fs)→eR H .IsNot (.ref c k) (.ref c' k') true
 |N_ (x a b:Int):eR H .NotIn (.int x) (.tup [.int a,.int b]) (!(a==x||b==x))
section
variable{C:FC}{d:Nat}{N:cb}{H:Hp}{s:Shared}{ρ:Loc}{H1 H2 H3:Hp}
theorem pO{A:Around}{xs ys:List MV}{us a:List Value}{f:Nat→Bool}(h:A.units+1<cLine)(q:xH f xs ys)(r:dE N s.heap xs us)(c:dE N s.heap ys a)(j:Nat)(b:j<us.toArray.size)(h2:j<a.toArray.size):EqAt A s us.toArray[j] a.toArray[j] (f j):=
 have b:j<us.length:=b
 have h2:j<a.length:=h2
 have g:=List.getElem?_eq_getElem (r.1▸b:j<xs.length)
 have e:=List.getElem?_eq_getElem (c.1▸h2:j<ys.length)
 Je (q j _ _ g e) A h (r.2 j _ _ g (List.getElem?_eq_getElem b)) (c.2 j _ _ e (List.getElem?_eq_getElem h2))
theorem B8(I:aO C.G N H s){x y:MV}{b:Bool}(q:pN H x y b){a c:Value}(n:C.A.units+10<cLine)(j:RV N s.heap x a)(rc:RV N s.heap y c):RcAt C.A s a c b∧RcNeAt C.A s a c (!b):=by
 have g:C.A.units<cLine:=Nat.lt_of_le_of_lt (Nat.le_add_right _ _) n
 have i:C.A.in1.units+1<cLine:=Nat.lt_of_le_of_lt (Nat.add_le_add_left (by decide:2≤10) C.A.units) n
 cases q with
 |ii x y=>exact j.d.elim λt e=>rc.d.elim λu e'=>e▸e'▸⟨RcAt.int_int _ _ _ _,RcNeAt.int_int _ _ _ _⟩
 |ss x y=>exact j.d.elim λt e=>rc.d.elim λu e'=>e▸e'▸qt x y▸⟨RcAt.str_str _ _ _ _,RcNeAt.str_str _ _ _ _⟩
 |bb x y=>exact j.d.elim λt e=>rc.d.elim λu e'=>e▸e'▸⟨λprog w E Q h=>eq_bytes h,λprog w E Q h=>ne_bytes h⟩
 |tt xs ys f q=>exact j.d.elim λa z=>z.elim λus z=>rc.d.elim λc y=>y.elim λk y=>z.1▸y.1▸z.2.2.2.2.1▸y.2.2.2.2.1▸⟨RcAt.tuples z.2.1 y.2.1 g (pO i q z.2.2.2.2 y.2.2.2.2),RcNeAt.tuples z.2.1 y.2.1 g (pO i q z.2.2.2.2 y.2.2.2.2)⟩
 |ll xs ys f m l hl q=>exact(e5 I j m).elim λa z=>z.elim λus z=>z.elim λn1 z=>(e5 I rc l).elim λc y=>y.elim λk y=>y.elim λn2 y=>z.1▸y.1▸z.2.2.1▸⟨RcAt.lists (qp z.2.1) (qp y.2.1) (z.2.2.1.trans (hl.trans y.2.2.1.symm)) g (pO i q z.2.2 y.2.2),RcNeAt.lists (qp z.2.1) (qp y.2.1) (z.2.2.1.trans (hl.trans y.2.2.1.symm)) g (pO i q z.2.2 y.2.2)⟩
 |ln xs ys m l hl=>exact(e5 I j m).elim λa z=>z.elim λus z=>z.elim λn1 z=>(e5 I rc l).elim λc y=>y.elim λk y=>y.elim λn2 y=>z.1▸y.1▸
   have o:(us.toArray.size !=k.toArray.size)=true:=bne_iff_ne.mpr λq=>hl (z.2.2.1.symm.trans (q.trans y.2.2.1))
   ⟨RcAt.lists_lengths (qp z.2.1) (qp y.2.1) o g,RcNeAt.lists_lengths (qp z.2.1) (qp y.2.1) o g⟩
theorem B9{x:MV}{a:Value}{h:Heap}(r:RV N h x a):(a==Value.none)=isNone x:=
 RV.casesOn (motive:=λx a _=>(a==Value.none)=isNone x) r rfl (λ_=>rfl) (λ_ _=>rfl) (λ_ _=>rfl) (λ_ _=>rfl) (λ_ _ _=>rfl) (λ_ _ _ _ _ _=>rfl) (λ_ _ _ _ _ _ _=>rfl)
theorem Ft{a b x:Int}{t u:Tok}:(!((#[Value.int a t,Value.int b u]:Array Value).any (isInt x)))= !(a==x||b==x):=by
 simp[isInt]
theorem B_(I:aO C.G N H s){c c':Cl}{k f:Nat}{a b:Value}(h:c=c'→k=f→False)(l:RV N s.heap (.ref c k) a)(rb:RV N s.heap (.ref c' f) b)(hi:∃fs,H.o c k=.inst fs)(j:∃fs,H.o c' f=.inst fs){Q:Value→Shared→Prop}{E:Value→Shared→Prop}:
  (Q (.bool false) s→wpAny (model pw C.G.w) C.A (compareOp .Is a b) Q E s)∧(Q (.bool true) s→wpAny (model pw C.G.w) C.A (compareOp .IsNot a b) Q E s):=
 hi.elim λfs q=>j.elim λn q'=>
  have o:=cT I l q
  have i:=cT I rb q'
  have g:N.x c k≠N.x c' f:=λe=>by
   have z:=(e▸o.2.1:N.own (N.x c' f)=.o c k).symm.trans i.2.1
   injection z with m h2
   exact h m h2
  o.1▸i.1▸⟨wpAny_is_ref_other g o.2.2.2.1 i.2.2.2.1 (λz=>by cases z),wpAny_isNot_ref_other g o.2.2.2.1 i.2.2.2.1 (λz=>by cases z)⟩
theorem tJ(O:C.Ok d)(I:aO C.G N H s){op:CmpOp}{x y:MV}{b:Bool}(q:eR H op x y b){a c:Value}(f:RV N s.heap x a)(rc:RV N s.heap y c){Q:Value→Shared→Prop}{E:Value→Shared→Prop}(k:Q (.bool b) s):wpAny (model pw C.G.w) C.A (compareOp op a c) Q E s:=by
 have i:C.A.units+10<cLine:=Nat.lt_of_le_of_lt (Nat.add_le_add (Nat.le_add_right _ _) (by decide:10≤200)) O.units
 cases q with
 |eq q=>exact(B8 I q i f rc).1 _ _ _ _ k
 |ne q=>exact(B8 I q i f rc).2 _ _ _ _ k
 |nt xs=>exact(show a=.none from f.d)▸rc.d.elim λc y=>y.elim λl y=>y.1▸RcAt.none_tuple y.2.1 (Nat.lt_of_le_of_lt (Nat.le_add_right _ _) i) _ _ _ _ k
 |lt x y=>exact f.d.elim λt e=>rc.d.elim λu e'=>e▸e'▸lt_int k
 |le x y=>exact f.d.elim λt e=>rc.d.elim λu e'=>e▸e'▸le_int k
 |gt x y=>exact f.d.elim λt e=>rc.d.elim λu e'=>e▸e'▸gt_int k
 |ge x y=>exact f.d.elim λt e=>rc.d.elim λu e'=>e▸e'▸ge_int k
 |Ak x=>exact(show c=.none from rc.d)▸is_none ((B9 f).symm▸k)
 |B7 x=>exact(show c=.none from rc.d)▸isNot_none ((B9 f).symm▸k)
 |LG c j=>exact(show a=.none from f.d)▸rc.d.1▸wpAny_bind (wpAny_of_eq (show isSame .none (.ref _)=pure false from rfl) (wpAny_pure k))
 |MX c j=>rw[f.d.1,rc.d.1];exact wpAny_is_ref_self k
 |LH h hi g=>exact(B_ I h f rc hi g).1 k
 |N7 c j=>rw[f.d.1,rc.d.1];exact wpAny_isNot_ref_self k
 |N9 h hi g=>exact(B_ I h f rc hi g).2 k
 |N_ x a b=>exact f.d.elim λt e=>rc.d.elim λc y=>y.elim λl y=>y.2.2.2.2.pair.elim λn r=>r.elim λm p=>e▸y.1▸notIn_tupleAt (isInt x) (p▸y.2.1) (λz o=>(eq_isInt x t (.cons a n (.cons b m .nil)) z (by simpa using o)).at _ _) (Ft.symm▸k)
end
section
variable{C:FC}{d:Nat}{N:cb}{H:Hp}{s:Shared}{ρ:Loc}{H1 H2 H3:Hp}
theorem gh{b:Bool}{Q:Bool→Shared→Prop}{E:Value→Shared→Prop}(h:Q b s):aX (model pw C.G.w) C.A (truthy (.bool b)) Q E s:=.of (wpAny_truthy_bool h)
theorem xI{c:Bool}{P Q:Prop}(h:c=true)(p:P):if c=true then P else Q:=by subst h;exact p
theorem Am{c:Bool}{P Q:Prop}(h:c=false)(p:Q):if c=true then P else Q:=by subst h;exact p
noncomputable def aH(op:CmpOp)(l r:XE):XE:={b:=λp=>.Compare (l.b (sub p 0)) [op] [r.b (sub p 1)] (pE p),ok:=λsc p=>l.ok sc (sub p 0)&&(r.ok sc (sub p 1)&& !lastMarks [op] [r.b (sub p 1)]),tv:=false}
noncomputable def H4(op a:CmpOp)(l m r:XE):XE:={b:=λp=>.Compare (l.b (sub p 0)) [op,a] [m.b (sub p 1),r.b (sub p 2)] (pE p),ok:=λsc p=>l.ok sc (sub p 0)&&(m.ok sc (sub p 1)&&(r.ok sc (sub p 2)&& !lastMarks [op,a] [m.b (sub p 1),r.b (sub p 2)])),tv:=false}
theorem hU{b:Bool}(h:(!b)=true):b=false:=by cases b<;>first|rfl|cases h
theorem fS{op:CmpOp}{l r:XE}{x y:MV}{b:Bool}(h:Ev d l ρ H x H1)(h':Ev d r ρ H1 y H2)(q:eR H2 op x y b):Ev d (aH op l r) ρ H (.bool b) H2:=λC p O w N s Q E I F k=>by
 show aX _ _ (do compareChain (pE p) (←eval (l.b (sub p 0)) C.env) [op] (markedEach [op] [r.b (sub p 1)] (evalEach [r.b (sub p 1)] C.env))) _ _ _
 rw[markedEach_of_false _ _ _ (hU (aF (aF w)))]
 exact bK (h C _ O (aV w) N s _ _ I F λa i o t f m=>u5 (h' C _ O (aV (aF w)) o i _ _ t (F.ext f) λc u n g e j=>.of (tJ O g q (m.ext e) j (k _ _ n g (f.trans e) (.bool b)))))
theorem aD{op:CmpOp}{l r:XE}{x y:MV}{b:Bool}(h:Ev d l ρ H x H1)(h':Ev d r ρ H1 y H2)(q:eR H2 op x y b):ik d (aH op l r) ρ H b H2:=λC p O w N s Q E I F k=>by
 show aX _ _ (do testChain (pE p) (←eval (l.b (sub p 0)) C.env) [op] (markedEach [op] [r.b (sub p 1)] (evalEach [r.b (sub p 1)] C.env))) _ _ _
 rw[markedEach_of_false _ _ _ (hU (aF (aF w)))]
 exact bK (h C _ O (aV w) N s _ _ I F λa i o t f m=>p5 (h' C _ O (aV (aF w)) o i _ _ t (F.ext f) λc u n g e j=>.of (tJ O g q (m.ext e) j (gh (k _ _ n g (f.trans e) rfl)))))
theorem Fu{op f:CmpOp}{l m r:XE}{x y z:MV}{b:Bool}(h:Ev d l ρ H x H1)(h':Ev d m ρ H1 y H2)(q:eR H2 op x y true)(h2:Ev d r ρ H2 z H3)(A:eR H3 f y z b):ik d (H4 op f l m r) ρ H b H3:=λC p O w N s Q E I F k=>by
 show aX _ _ (do testChain (pE p) (←eval (l.b (sub p 0)) C.env) [op,f] (markedEach [op,f] [m.b (sub p 1),r.b (sub p 2)] (evalEach [m.b (sub p 1),r.b (sub p 2)] C.env))) _ _ _
 rw[markedEach_of_false _ _ _ (hU (aF (aF (aF w))))]
 exact bK (h C _ O (aV w) N s _ _ I F λa v K L i D=>xi (h' C _ O (aV (aF w)) K v _ _ L (F.ext i) λc u J t g n=>.of (tJ O t q (D.ext g) n (gh
  (p5 (h2 C _ O (aV (aF (aF w))) J u _ _ t (F.ext (i.trans g)) λe M G o j B=>.of (tJ O o A (n.ext j) B (gh (k _ _ G o ((i.trans g).trans j) rfl)))))))))
theorem cL{x:XE}{b:Bool}(h:Ev d x ρ H (.bool b) H1)(ht:x.tv=true):ik d x ρ H b H1:=λC p O w N s Q E I F k=>
 u6 (h C p O w N s _ _ I F λa i f g c e=>(show a=.bool b from e.d)▸gh (k _ _ f g c rfl)) (x.tr ht _ _ _)
noncomputable def fT(x:XE):XE:={b:=λp=>.UnaryOp .Not (x.b (sub p 0)) (pE p),ok:=λsc p=>x.ok sc (sub p 0),tv:=false}
theorem gv{x:XE}{b:Bool}(h:ik d x ρ H b H1):ik d (fT x) ρ H (!b) H1:=λC p O w N s Q E I F k=>
 Ab (h C _ O w N s _ _ I F λa i f g c e=>k _ _ f g c (congrArg not e))
theorem qu{x:XE}{b:Bool}(h:Ev d x ρ H (.bool b) H1):Ev d (fT x) ρ H (.bool !b) H1:=λC p O w N s Q E I F k=>
 Bs (h C _ O w N s _ _ I F λa i f g c e=>(show a=.bool b from e.d)▸ .of (not_value (wpAny_truthy_bool (k _ _ f g c (.bool _)))))
noncomputable def dZ(x:XE)(xs:List XE):XE:={b:=λp=>.BoolOp .And (bL (x::xs) p 0) (pE p),ok:=λsc p=>xe (x::xs) sc p 0,tv:=false}
noncomputable def nA(x:XE)(xs:List XE):XE:={b:=λp=>.BoolOp .Or (bL (x::xs) p 0) (pE p),ok:=λsc p=>xe (x::xs) sc p 0,tv:=false}
def tK(d:Nat)(op:BoolOp)(xs:List XE)(ρ:Loc)(H:Hp)(v:MV)(a:Hp):Prop:=∀C p i pos,FC.Ok C d→xe xs C.sc p i=true→KY RV C (eval (.BoolOp op (bL xs p i) pos) C.env) ρ H v a
def jS(d:Nat)(op:BoolOp)(xs:List XE)(ρ:Loc)(H:Hp)(b:Bool)(a:Hp):Prop:=∀C p i,FC.Ok C d→xe xs C.sc p i=true→KY BB C (allTrue op (bL xs p i) C.env) ρ H b a
theorem tM{x:XE}{xs:List XE}{v:MV}(h:tK d .And (x::xs) ρ H v H1):Ev d (dZ x xs) ρ H v H1:=λC p O w=>h C p 0 _ O w
theorem H6{x:XE}{xs:List XE}{v:MV}(h:tK d .Or (x::xs) ρ H v H1):Ev d (nA x xs) ρ H v H1:=λC p O w=>h C p 0 _ O w
theorem cy{x:XE}{xs:List XE}{b:Bool}(h:jS d .And (x::xs) ρ H b H1):ik d (dZ x xs) ρ H b H1:=λC p O w=>h C p 0 O w
theorem gX{x:XE}{xs:List XE}{b:Bool}(h:jS d .Or (x::xs) ρ H b H1):ik d (nA x xs) ρ H b H1:=λC p O w=>h C p 0 O w
theorem tN{op:BoolOp}{x:XE}{v:MV}(h:Ev d x ρ H v H1):tK d op [x] ρ H v H1:=λC p i pos O w N s Q E I F k=>Aa (h C _ O (aV w) N s _ _ I F k)
theorem tO{x y:XE}{xs:List XE}{v:MV}(h:Ev d x ρ H (.bool true) H1)(t:tK d .And (y::xs) ρ H1 v H2):tK d .And (x::y::xs) ρ H v H2:=λC p i pos O w N s Q E I F k=>
 rR (h C _ O (aV w) N s _ _ I F λa f m o c j=>(show a=.bool true from j.d)▸gh (t C p (i+1) pos O (aF w) m f _ _ o (F.ext c) λb q l n e g=>k _ _ l n (c.trans e) g))
theorem B'{x y:XE}{xs:List XE}(h:Ev d x ρ H (.bool false) H1):tK d .And (x::y::xs) ρ H (.bool false) H1:=λC p i pos O w N s Q E I F k=>
 rR (h C _ O (aV w) N s _ _ I F λa g e f b c=>(show a=.bool false from c.d)▸gh (k _ _ e f b (.bool false)))
theorem LI{x y:XE}{xs:List XE}{v:MV}(h:Ev d x ρ H (.bool false) H1)(t:tK d .Or (y::xs) ρ H1 v H2):tK d .Or (x::y::xs) ρ H v H2:=λC p i pos O w N s Q E I F k=>
 u4 (h C _ O (aV w) N s _ _ I F λa f m o c j=>(show a=.bool false from j.d)▸gh (t C p (i+1) pos O (aF w) m f _ _ o (F.ext c) λb q l n e g=>k _ _ l n (c.trans e) g))
theorem Fv{x y:XE}{xs:List XE}(h:Ev d x ρ H (.bool true) H1):tK d .Or (x::y::xs) ρ H (.bool true) H1:=λC p i pos O w N s Q E I F k=>
 u4 (h C _ O (aV w) N s _ _ I F λa g e f b c=>(show a=.bool true from c.d)▸gh (k _ _ e f b (.bool true)))
theorem eS:jS d .And [] ρ H true H:=λC p i O w N s Q E I F k=>a9 (k _ _ N I (.refl _ _) rfl)
theorem fB:jS d .Or [] ρ H false H:=λC p i O w N s Q E I F k=>a9 (k _ _ N I (.refl _ _) rfl)
theorem b_{x:XE}{xs:List XE}{b:Bool}(h:ik d x ρ H true H1)(t:jS d .And xs ρ H1 b H2):jS d .And (x::xs) ρ H b H2:=λC p i O w N s Q E I F k=>
 kY (h C _ O (aV w) N s _ _ I F λa f m o c j=>xI j (t C p (i+1) O (aF w) m f _ _ o (F.ext c) λb q l n e g=>k _ _ l n (c.trans e) g))
theorem b3{x:XE}{xs:List XE}(h:ik d x ρ H false H1):jS d .And (x::xs) ρ H false H1:=λC p i O w N s Q E I F k=>
 kY (h C _ O (aV w) N s _ _ I F λa g e f b c=>Am c (k _ _ e f b rfl))
theorem da{x:XE}{xs:List XE}{b:Bool}(h:ik d x ρ H false H1)(t:jS d .Or xs ρ H1 b H2):jS d .Or (x::xs) ρ H b H2:=λC p i O w N s Q E I F k=>
 l_ (h C _ O (aV w) N s _ _ I F λa f m o c j=>Am j (t C p (i+1) O (aF w) m f _ _ o (F.ext c) λb q l n e g=>k _ _ l n (c.trans e) g))
theorem my{x:XE}{xs:List XE}(h:ik d x ρ H true H1):jS d .Or (x::xs) ρ H true H1:=λC p i O w N s Q E I F k=>
 l_ (h C _ O (aV w) N s _ _ I F λa g e f b c=>xI c (k _ _ e f b rfl))
noncomputable def nB(t a b:XE):XE:={b:=λp=>.IfExp (t.b (sub p 0)) (a.b (sub p 1)) (b.b (sub p 2)) (pE p),ok:=λsc p=>t.ok sc (sub p 0)&&(a.ok sc (sub p 1)&&b.ok sc (sub p 2)),tv:=false}
theorem hV{t a b:XE}{v:MV}(h:ik d t ρ H true H1)(h':Ev d a ρ H1 v H2):Ev d (nB t a b) ρ H v H2:=λC p O w N s Q E I F k=>
 Bt (h C _ O (aV w) N s _ _ I F λc g m o e j=>xI j (h' C _ O (aV (aF w)) m g _ _ o (F.ext e) λb q l n f i=>k _ _ l n (e.trans f) i))
theorem hW{t a b:XE}{v:MV}(h:ik d t ρ H false H1)(h':Ev d b ρ H1 v H2):Ev d (nB t a b) ρ H v H2:=λC p O w N s Q E I F k=>
 Bt (h C _ O (aV w) N s _ _ I F λc g m o e j=>Am j (h' C _ O (aF (aF w)) m g _ _ o (F.ext e) λb q l n f i=>k _ _ l n (e.trans f) i))
end
end Mine
end
section
open PySem PySem.W PyProof.Rows PySem.Calls Builtin
namespace Mine
open Nm
def Mk(N:cb)(h:Heap)(a:Addr)(o:Obj):Prop:=N.own a=.t∧a∉ff∧h.get? a=some o∧¬f_ o
theorem Mk.ext{Y:Addr→Prop}{N c:cb}{h h':Heap}{a:Addr}{o:Obj}(m:Mk N h a o)(e:Ext Y N c h h')(b:¬Y a):Mk c h' a o:=⟨(e.own a ⟨o,m.2.2.1⟩ b).trans m.1,m.2.1,e.xp m.2.2.1 m.1 b m.2.2.2,m.2.2.2⟩
theorem e8{o:Obj}{vs:Array Value}(d:o.data=.fields vs):¬f_ o:=λq=>q.2.elim λ_ q=>q.elim λ_ q=>Data.noConfusion (d.symm.trans q)
def Fw(o:Obj)(l:Addr)(i:Nat):Prop:=o.cls=.type "list_iterator"∧o.data=.fields #[.ref l,.int i 0]
def MY(o:Obj)(l:Addr)(i:Nat):Prop:=o.cls=.type "tuple_iterator"∧o.data=.fields #[.ref l,.int i 0]
def MZ(o:Obj)(b:Array UInt8)(t:Tok)(i:Nat):Prop:=o.cls=.type "bytes_iterator"∧o.data=.fields #[.bytes b t,.int i 0]
noncomputable def Ca(a:Value)(J:Addr)(i:Int)(old:Value):Obj:={cls:=.type "enumerate",dict:=none,data:=.fields #[a,.bool false,.ref J,rawInt i,.none,old],slots:= #[]}
noncomputable def H7(x left:Int):Obj:={cls:=.type "range_iterator",dict:=none,data:=.fields #[rawInt x,rawInt left,rawInt 1],slots:= #[]}
def Cb(N:cb)(h:Heap)(a:Addr)(xs:List Value):Prop:=N.own a=.no∧a∉ff∧∃n,h.get? a=some (listOf xs.toArray n)
def Cc(N:cb)(h:Heap)(a:Addr)(xs:List Value):Prop:=N.own a=.no∧a∉ff∧IsTup h a xs.toArray
def r8(N:cb)(h:Heap)(I J:Addr):It→Prop
 | .lst k j=>J=I∧∃o,Mk N h I o∧Fw o (N.x .L k) j∧N.own (N.x .L k)=.o .L k
 | .nC vs=>J=I∧∃o a j xs,Mk N h I o∧Fw o a j∧Cb N h a xs∧dE N h vs (xs.drop j)
 | .enum k j=>I≠J∧∃old o,Mk N h I (Ca .none J (j:Nat) old)∧Mk N h J o∧Fw o (N.x .L k) j∧N.own (N.x .L k)=.o .L k
 | .tup vs=>J=I∧∃o a j xs,Mk N h I o∧MY o a j∧Cc N h a xs∧dE N h vs (xs.drop j)
 | .ny lo hi=>J=I∧Mk N h I (H7 lo (Builtin.Range.rangeSize lo hi 1))
 | .yM bs=>J=I∧∃o b t j,Mk N h I o∧MZ o b t j∧b.toList.drop j=bs
abbrev ZZ(I J:Addr):Addr→Prop:=λx=>x=I∨x=J
inductive Fx(N:cb)(h:Heap):It→Value→(Addr→Prop)→Prop where
 |lst (k:Nat) (xs:List Value) (n:Nat):N.own (N.x .L k)=.o .L k→h.get? (N.x .L k)=some (listOf xs.toArray n)→Fx N h (.lst k 0) (.ref (N.x .L k)) YN
 |nC {vs:List MV} (a:Addr) (xs:List Value):Cb N h a xs→dE N h vs xs→Fx N h (.nC vs) (.ref a) YN
 |it {i:It} {I J:Addr} {old:Value}:(∃j old,Mk N h I (Ca .none J j old))→r8 N h I J i→Fx N h i (.ref I) (ZZ I J)
 |tup {vs:List MV} (a:Addr) (xs:List Value):Cc N h a xs→dE N h vs xs→Fx N h (.tup vs) (.ref a) YN
 |yM (b:List UInt8) (t:Tok):Fx N h (.yM b) (.bytes b.toArray t) YN
 |ny {lo hi:Int} (r:Addr) (t u v:Tok):IsRange h r lo hi 1 t u v→lo.natAbs<2147483648→hi.natAbs<2147483648→Fx N h (.ny lo hi) (.ref r) YN
section
variable{Y:Addr→Prop}{N N':cb}{h h':Heap}{i:It}{I J:Addr}
theorem Cb.ext{a:Addr}{xs:List Value}(f:Cb N h a xs)(e:Ext Y N N' h h'):Cb N' h' a xs:=⟨f.2.2.elim λ_ g=>e.u9 g f.1,f.2.1,f.2.2.imp λ_ g=>e.same _ _ g f.1 f.2.1⟩
theorem Cc.ext{a:Addr}{xs:List Value}(f:Cc N h a xs)(e:Ext Y N N' h h'):Cc N' h' a xs:=⟨f.2.2.elim λ_ g=>e.u9 g.1 f.1,f.2.1,rT e f.2.2 f.1 f.2.1⟩
theorem r8.marks(r:r8 N h I J i)(a:Addr)(q:ZZ I J a):∃o,Mk N h a o:=
 have one:J=I→(∃o,Mk N h I o)→∃o,Mk N h a o:=λe m=>q.elim (λq=>q▸m) λq=>q.trans e▸m
 match i,r with
 | .lst _ _,r=>one r.1 (r.2.elim λ_ r=>⟨_,r.1⟩)
 | .nC _,r=>one r.1 (r.2.elim λ_ r=>r.elim λ_ r=>r.elim λ_ r=>r.elim λ_ r=>⟨_,r.1⟩)
 | .enum _ _,r=>r.2.elim λ_ r=>r.elim λ_ r=>q.elim (λq=>q▸⟨_,r.1⟩) λq=>q▸⟨_,r.2.1⟩
 | .tup _,r=>one r.1 (r.2.elim λ_ r=>r.elim λ_ r=>r.elim λ_ r=>r.elim λ_ r=>⟨_,r.1⟩)
 | .ny _ _,r=>one r.1 ⟨_,r.2⟩
 | .yM _,r=>one r.1 (r.2.elim λ_ r=>r.elim λ_ r=>r.elim λ_ r=>r.elim λ_ r=>⟨_,r.1⟩)
theorem r8.ext(r:r8 N h I J i)(e:Ext Y N N' h h')(a:¬Y I)(b:¬Y J):r8 N' h' I J i:=
 match i,r with
 | .lst _ _,r=>⟨r.1,r.2.elim λ_ r=>⟨_,r.1.ext e a,(e.uW _ _ r.2.2).1▸r.2.1,e.u7 r.2.2⟩⟩
 | .nC _,r=>⟨r.1,r.2.imp λ_ r=>r.imp λ_ r=>r.imp λ_ r=>r.imp λ_ r=>⟨r.1.ext e a,r.2.1,r.2.2.1.ext e,r.2.2.2.ext e⟩⟩
 | .enum _ _,r=>⟨r.1,r.2.elim λ_ r=>r.elim λ_ r=>⟨_,_,r.1.ext e a,r.2.1.ext e b,(e.uW _ _ r.2.2.2).1▸r.2.2.1,e.u7 r.2.2.2⟩⟩
 | .tup _,r=>⟨r.1,r.2.imp λ_ r=>r.imp λ_ r=>r.imp λ_ r=>r.imp λ_ r=>⟨r.1.ext e a,r.2.1,r.2.2.1.ext e,r.2.2.2.ext e⟩⟩
 | .ny _ _,r=>⟨r.1,r.2.ext e a⟩
 | .yM _,r=>⟨r.1,r.2.imp λ_ r=>r.imp λ_ r=>r.imp λ_ r=>r.imp λ_ r=>⟨r.1.ext e a,r.2⟩⟩
end
inductive Nx(H:Hp):It→MV→It→Prop where
 |t (v:MV) (r:List MV):Nx H (.tup (v::r)) v (.tup r)
 |s (v:MV) (r:List MV):Nx H (.nC (v::r)) v (.nC r)
 |b (v:UInt8) (r:List UInt8):Nx H (.yM (v::r)) (.int v.toNat) (.yM r)
 |r (lo hi:Int):lo<hi→Nx H (.ny lo hi) (.int lo) (.ny (lo+1) hi)
 |l {k j:Nat} {vs:List MV} {v:MV}:H.o .L k=.list vs→vs[j]? =some v→Nx H (.lst k j) v (.lst k (j+1))
 |e {k j:Nat} {vs:List MV} {v:MV}:H.o .L k=.list vs→vs[j]? =some v→Nx H (.enum k j) (.tup [.int (j:Nat),v]) (.enum k (j+1))
inductive Nd(H:Hp):It→Prop where
 |t:Nd H (.tup [])
 |s:Nd H (.nC [])
 |b:Nd H (.yM [])
 |r (lo hi:Int):hi≤lo→Nd H (.ny lo hi)
 |l {k j:Nat} {vs:List MV}:H.o .L k=.list vs→vs[j]? =none→Nd H (.lst k j)
 |e {k j:Nat} {vs:List MV}:H.o .L k=.list vs→vs[j]? =none→Nd H (.enum k j)
noncomputable def M0:It→Bool
 | .enum _ _=>true
 |_=>false
def Oa(N:cb)(h:Heap)(I J:Addr)(x:Value)(i:It):Prop:=
 (M0 i=false∧r8 N h I J i)∨∃k j a item o,i=.enum k j∧x=.ref a∧Mk N h I (Ca (rawInt a) J (j:Nat) item)∧Mk N h J o∧I≠J∧Fw o (N.x .L k) j∧N.own (N.x .L k)=.o .L k
section
variable{C:FC}{d:Nat}{N:cb}{H:Hp}{s:Shared}{Z:Addr→Prop}{i i':It}{it x:Value}{mv:MV}
theorem aO.xJ(I:aO C.G N H s){h':Heap}(b:∀x,Z x→N.own x=.t)(a:∀x o,¬Z x→s.heap.get? x=some o→h'.get? x=some o)(al:∀x,Z x→aR h' x)(t:Nat):aO C.G N H {s with heap:=h',toks:=t}∧Ext Z N N s.heap h':=
 have e:Ext Z N N s.heap h':=.KZ (λ_ _=>rfl) (λ_ _ _=>⟨rfl,rfl⟩) a λx q=>.inl (b x q)
 ⟨I.step (I.hp.step e (λx q _=>al x q) (λx c k q r=>Ow.noConfusion ((b x q).symm.trans r)) (λ_ _=>rfl) a) a (λ_ _=>rfl) (λx o q=>I.BE (λr=>Ow.noConfusion ((b x q).symm.trans r)) o) t,e⟩
theorem iy(I:aO C.G N H s){a:Addr}{o b:Obj}{h':Heap}(m:Mk N s.heap a o)(g:h'.get? a=some b)(n:¬f_ b)(c:Heap.SameBut a s.heap h')(t:Nat):aO C.G N H {s with heap:=h',toks:=t}∧Ext (ZZ a a) N N s.heap h'∧Mk N h' a b:=
 have z:=I.xJ (Z:=ZZ a a) (λx q=>q.elim (λq=>q▸m.1) λq=>q▸m.1) (λx o q g=>(c.2 x λr=>q (.inl r)).trans g) (λx q=>q.elim (λq=>q▸⟨b,g⟩) λq=>q▸⟨b,g⟩) t
 ⟨z.1,z.2,m.1,m.2.1,g,n⟩
theorem lz(O:C.Ok d)(I:aO C.G N H s){o:Obj}(hf:o.isFreed=false)(c:¬f_ o)(t:Nat):aO C.G (N.upd (· =s.heap.objs.size) .t) H {s with heap:=s.heap.push o,toks:=t}∧Ext YN N (N.upd (· =s.heap.objs.size) .t) s.heap (s.heap.push o)∧Mk (N.upd (· =s.heap.objs.size) .t) (s.heap.push o) s.heap.objs.size o:=
 have k:∀b a,s.heap.get? b=some a→(s.heap.push o).get? b=some a:=λ_ _ g=>Heap.get?_push_of_some _ g
 have g:=Heap.get?_push_size s.heap hf
 ⟨I.mark (· =s.heap.objs.size) k (λx q=>q▸⟨cj _,gS O I,_,g⟩) t,Ext.yU I (· =s.heap.objs.size) k λx q=>q▸cj _,if_pos rfl,gS O I,g,c⟩
end
theorem vn{lo hi:Int}(h2:lo.natAbs<2147483648)(b:hi.natAbs<2147483648):Builtin.Range.small lo hi 1=true:=by
 have f:∀z:Int,z.natAbs≤8589934592→Builtin.Range.rangeFitsLong z=true:=λz a=>by
  simp only[Builtin.Range.rangeFitsLong,Bool.and_eq_true,decide_eq_true_eq];omega
 unfold Builtin.Range.small
 rw[rangeSize_one]
 simp only[show(1:Int)>0 by decide,if_true,Bool.and_eq_true,Bool.or_eq_true]
 exact⟨⟨⟨⟨f _ (by omega),f _ (by omega)⟩,f _ (by omega)⟩,f _ (by split<;>omega)⟩,.inr (f _ (by omega))⟩
theorem r9{lo hi:Int}(h:lo<hi):0<Builtin.Range.rangeSize lo hi 1∧Builtin.Range.rangeSize lo hi 1-1=Builtin.Range.rangeSize (lo+1) hi 1:=by
 rw[rangeSize_one,rangeSize_one,if_pos h]
 refine⟨Int.sub_pos_of_lt h,?_⟩
 split<;>omega
theorem An{lo hi:Int}(h:hi≤lo):Builtin.Range.rangeSize lo hi 1≤0:=by rw[rangeSize_one,if_neg (Int.not_lt.mpr h)];exact Int.le_refl _
theorem drop_cons{a:Type}{l:List a}{j:Nat}{x:a}(h:l[j]? =some x):l.drop j=x::l.drop (j+1):=by
 obtain⟨b,e⟩:=List.getElem?_eq_some_iff.mp h
 rw[List.drop_eq_getElem_cons b,e]
theorem gi{a:Type}{l r:List a}{j:Nat}{x:a}(h:l.drop j=x::r):l[j]? =some x∧l.drop (j+1)=r:=by
 cases q:l[j]? with
 |none=>rw[List.drop_eq_nil_of_le (List.getElem?_eq_none_iff.mp q)]at h;cases h
 |some u=>rw[drop_cons q]at h;exact⟨congrArg some (List.cons.inj h).1,(List.cons.inj h).2⟩
theorem dE.Cd{N:cb}{h:Heap}{v:MV}{vs:List MV}{xs:List Value}{j:Nat}(r:dE N h (v::vs) (xs.drop j)):∃u,xs[j]? =some u∧RV N h v u∧dE N h vs (xs.drop (j+1)):=by
 cases q:xs.drop j with
 |nil=>rw[q]at r;cases r.1
 |cons u us=>rw[q]at r;exact⟨u,(gi q).1,r.2 0 v u rfl rfl,(gi q).2▸⟨Nat.succ.inj r.1,λj v x p q=>r.2 (j+1) v x p q⟩⟩
theorem dE.done{N:cb}{h:Heap}{xs:List Value}{j:Nat}(r:dE N h [] (xs.drop j)):xs[j]? =none:=List.getElem?_eq_none_iff.mpr (Nat.le_of_sub_eq_zero (List.length_drop.symm.trans r.1))
theorem i4{a:Type}{l:List a}{j:Nat}{o:Option a}(h:l[j]? =o):l.toArray[j]? =o:=List.getElem?_toArray.trans h
section
variable{C:FC}{d:Nat}{N:cb}{H:Hp}{s:Shared}{Z:Addr→Prop}{i i':It}{it x:Value}{mv:MV}{I J:Addr}
theorem y1(O:C.Ok d)(I:aO C.G N H s)(S:Fx N s.heap i x Z){Q:Value→Shared→Prop}{E:Value→Shared→Prop}
  (k:∀c a b s',aO C.G c H s'→Ext YN N c s.heap s'.heap→r8 c s'.heap a b i→(∀x,ZZ a b x→Z x∨¬aR s.heap x)→Q (.ref a) s'):wpAny (model pw C.G.w) C.A (pyIter x) Q E s:=by
 have new:∀a,ZZ s.heap.objs.size s.heap.objs.size a→Z a∨¬aR s.heap a:=λa q=>.inr (q.elim (λq=>q▸cj _) λq=>q▸cj _)
 cases S with
 |lst j xs n l g=>
  have m:=lz O I (o:={cls:=.type "list_iterator",data:=.fields #[.ref (N.x .L j),.int 0 0]}) rfl (e8 rfl) s.toks
  exact wpAny_pyIter_list (qp g) (k _ _ _ _ m.1 m.2.1 ⟨rfl,_,m.2.2,⟨rfl,rfl⟩,m.2.1.yP l⟩ new)
 |nC a xs f r=>
  have m:=lz O I (o:={cls:=.type "list_iterator",data:=.fields #[.ref a,.int 0 0]}) rfl (e8 rfl) s.toks
  exact f.2.2.elim λn g=>wpAny_pyIter_list (qp g) (k _ _ _ _ m.1 m.2.1 ⟨rfl,_,a,0,xs,m.2.2,⟨rfl,rfl⟩,f.ext m.2.1,r.ext m.2.1⟩ new)
 |it m r=>exact m.elim λj m=>m.elim λold m=>wpAny_pyIter_enum m.2.2.1 (k N _ _ _ I (.refl _ _) r λa e=>.inl e)
 |tup a xs f r=>
  have m:=lz O I (o:={cls:=.type "tuple_iterator",data:=.fields #[.ref a,.int 0 0]}) rfl (e8 rfl) s.toks
  exact wpAny_pyIter_tuple f.2.2 (k _ _ _ _ m.1 m.2.1 ⟨rfl,_,a,0,xs,m.2.2,⟨rfl,rfl⟩,f.ext m.2.1,r.ext m.2.1⟩ new)
 |yM b t=>
  have m:=lz O I (o:={cls:=.type "bytes_iterator",data:=.fields #[.bytes b.toArray t,.int 0 0]}) rfl (e8 rfl) s.toks
  exact KBw.pyIter_bytes (k _ _ _ _ m.1 m.2.1 ⟨rfl,_,b.toArray,t,0,m.2.2,⟨rfl,rfl⟩,rfl⟩ new)
 |ny r t u v g h2 h=>
  rename_i lo hi
  have m:=lz O I (o:=H7 lo (Builtin.Range.rangeSize lo hi 1)) rfl (e8 rfl) s.toks
  exact wpAny_pyIter_range g (vn h2 h) (k _ _ _ _ m.1 m.2.1 ⟨rfl,m.2.2⟩ new)
theorem Ce(R:r8 N s.heap I J i){Q:Value→Shared→Prop}{E:Value→Shared→Prop}(k:Q (.ref I) s):wpAny (model pw C.G.w) C.A (pyIter (.ref I)) Q E s:=
 match i,R with
 | .lst _ _,r=>r.2.elim λo r=>wpAny_pyIter_listiter ⟨o,r.1.2.2.1,r.2.1⟩ k
 | .nC _,r=>r.2.elim λo r=>r.elim λ_ r=>r.elim λ_ r=>r.elim λ_ r=>wpAny_pyIter_listiter ⟨o,r.1.2.2.1,r.2.1⟩ k
 | .enum _ _,r=>r.2.elim λ_ r=>r.elim λ_ r=>wpAny_pyIter_enum r.1.2.2.1 k
 | .tup _,r=>r.2.elim λo r=>r.elim λ_ r=>r.elim λ_ r=>r.elim λ_ r=>wpAny_pyIter_tupleiter ⟨o,r.1.2.2.1,r.2.1⟩ k
 | .ny _ _,r=>wpAny_pyIter_rangeiter r.2.2.2.1 k
 | .yM _,r=>r.2.elim λo r=>r.elim λ_ r=>r.elim λ_ r=>r.elim λ_ r=>KBw.pyIter_self ⟨o,r.1.2.2.1,r.2.1⟩ k
theorem y2(O:C.Ok d)(In:aO C.G N H s)(R:r8 N s.heap I J i)(q:Nx H i mv i'){Q:Option Value→Shared→Prop}{E:Value→Shared→Prop}
  (k:∀x s',aO C.G N H s'→Ext (ZZ I J) N N s.heap s'.heap→Oa N s'.heap I J x i'→RV N s'.heap mv x→Q (some x) s'):wpAny (model pw C.G.w) C.A (pyNext (.ref I)) Q E s:=by
 cases q with
 |t v r=>
  obtain⟨rfl,o,a,j,xs,m,z,f,r⟩:=R
  exact r.Cd.elim λu y=>wpAny_pyNext_tuple_item ⟨o,m.2.2.1,z⟩ f.2.2 (i4 y.1) λh' hi B=>hi.elim λp c=>
   have w:=iy In m c.1 (e8 c.2.2) B s.toks
   k _ _ w.1 w.2.1 (.inl ⟨rfl,rfl,p,a,_,xs,w.2.2,c.2,f.ext w.2.1,y.2.2.ext w.2.1⟩) (y.2.1.ext w.2.1)
 |s v r=>
  obtain⟨rfl,o,a,j,xs,m,z,f,r⟩:=R
  exact r.Cd.elim λu y=>f.2.2.elim λn g=>wpAny_pyNext_list_item ⟨o,m.2.2.1,z⟩ (qp g) (i4 y.1) λh' hi B=>hi.elim λp c=>
   have w:=iy In m c.1 (e8 c.2.2) B s.toks
   k _ _ w.1 w.2.1 (.inl ⟨rfl,rfl,p,a,_,xs,w.2.2,c.2,f.ext w.2.1,y.2.2.ext w.2.1⟩) (y.2.1.ext w.2.1)
 |b v r=>
  obtain⟨rfl,o,b,t,j,m,z,e⟩:=R
  exact KBw.next_item ⟨o,m.2.2.1,z⟩ (Array.getElem?_toList.symm.trans (gi e).1) λh' hi B=>hi.elim λp c=>
   have w:=iy In m c.1 (e8 c.2.2) B (s.toks+1)
   k _ _ w.1 w.2.1 (.inl ⟨rfl,rfl,p,b,t,_,w.2.2,c.2,(gi e).2⟩) (.int _ _)
 |r lo hi h=>
  obtain⟨rfl,m⟩:=R
  exact wpAny_pyNext_range_item m.2.2.1 (r9 h).1 λh' hi B=>
   have w:=iy In m hi (e8 rfl) B (s.toks+1)
   k _ _ w.1 w.2.1 (.inl ⟨rfl,rfl,(r9 h).2▸w.2.2⟩) (.int _ _)
 |l e h=>
  obtain⟨rfl,o,m,z,own⟩:=R
  exact(cT In (.ref .L _ own) e).2.2.elim λxs y=>y.elim λn y=>(y.2.get h).elim λu D=>wpAny_pyNext_list_item ⟨o,m.2.2.1,z⟩ (qp y.1) (i4 D.1) λh' hi B=>hi.elim λp c=>
   have w:=iy In m c.1 (e8 c.2.2) B s.toks
   k _ _ w.1 w.2.1 (.inl ⟨rfl,rfl,p,w.2.2,c.2,own⟩) (D.2.ext w.2.1)
 |e S h=>
  rename_i kk j vs v
  obtain⟨ne,old,o,m,F,z,own⟩:=R
  exact(cT In (.ref .L _ own) S).2.2.elim λxs y=>y.elim λn y=>(y.2.get h).elim λu D=>wpAny_pyNext_enum_item m.2.2.1 ⟨o,F.2.2.1,z⟩ (qp y.1) (i4 D.1) ne λh' M hi P T K=>hi.elim λp c=>
   have w:=In.xJ (Z:=ZZ I J) (h':=h') (λx q=>q.elim (λq=>q▸m.1) λq=>q▸F.1) (λx p q g=>K x p (λz=>q (.inl z)) (λz=>q (.inr z)) g) (λx q=>q.elim (λq=>q▸⟨_,M⟩) λq=>q▸⟨_,c.1⟩) (s.toks+1)
   k _ _ w.1 w.2 (.inr ⟨kk,j+1,s.heap.objs.size,u,p,rfl,rfl,⟨m.1,m.2.1,M,e8 rfl⟩,⟨F.1,F.2.1,c.1,e8 c.2.2⟩,ne,c.2,own⟩)
    (.tup [.int (j:Nat) s.toks,u] ⟨_,P,rfl,_,rfl⟩ In.hp.fresh (gS O In) rfl (dE.cons (.int _ _) (.cons (D.2.ext w.2) .nil)).2)
theorem y3(I:aO C.G N H s){h':Heap}[DecidablePred Z](b:∀x,Z x→N.own x=.t)(a:∀x o,¬Z x→s.heap.get? x=some o→h'.get? x=some o)(t:Nat):aO C.G (N.upd Z .no) H {s with heap:=h',toks:=t}∧Ext Z N (N.upd Z .no) s.heap h':=
 have e:Ext Z N (N.upd Z .no) s.heap h':=.KZ (λx q=>if_neg q) (λ_ _ _=>⟨rfl,rfl⟩) a λx q=>.inl (b x q)
 ⟨I.step (I.hp.step e (λx q r=>absurd (if_pos q) r) (λx c k q r=>Ow.noConfusion ((if_pos q).symm.trans r)) (λx q=>if_neg q) a) a (λx q=>if_neg q) (λx o q=>I.BE (λr=>Ow.noConfusion ((b x q).symm.trans r)) o) t,e⟩
theorem y4(O:C.Ok d)(In:aO C.G N H s)(R:r8 N s.heap I J i)(q:Nd H i){Q:Option Value→Shared→Prop}{E:Value→Shared→Prop}
  (k:∀c s',aO C.G c H s'→Ext (ZZ I J) N c s.heap s'.heap→(∀x,¬ZZ I J x→c.own x=N.own x)→Q none s'):wpAny (model pw C.G.w) C.A (pyNext (.ref I)) Q E s:=by
 have fin:∀{a:Addr},ZZ I J a→∀h',Heap.ExtBut a s.heap h'→Q none {s with heap:=h'}:=λp h' f=>
  have u:=y3 (Z:=ZZ I J) In (λx q=>(R.marks x q).elim λ_ m=>m.1) (λx o q g=>f x o (λz=>q (z▸p)) g) s.toks
  k _ _ u.1 u.2 λx q=>if_neg q
 have en:∀{vs:List MV}{xs:List Value}{j:Nat},vs[j]? =none→xs.length=vs.length→xs.toArray[j]? =none:=λh e=>i4 (List.getElem?_eq_none_iff.mpr (e▸List.getElem?_eq_none_iff.mp h))
 cases q with
 |t=>exact R.2.elim λo r=>r.elim λa r=>r.elim λj r=>r.elim λxs r=>wpAny_pyNext_tuple_end O.hd ⟨o,r.1.2.2.1,r.2.1⟩ r.2.2.1.2.2 (i4 r.2.2.2.done) (fin (.inl rfl))
 |s=>exact R.2.elim λo r=>r.elim λa r=>r.elim λj r=>r.elim λxs r=>r.2.2.1.2.2.elim λn g=>wpAny_pyNext_list_end O.hd ⟨o,r.1.2.2.1,r.2.1⟩ (qp g) (i4 r.2.2.2.done) (fin (.inl rfl))
 |b=>exact R.2.elim λo r=>r.elim λb r=>r.elim λt r=>r.elim λj r=>KBw.next_end O.hd ⟨o,r.1.2.2.1,r.2.1⟩ (Array.getElem?_eq_none_iff.mpr (List.drop_eq_nil_iff.mp r.2.2)) (fin (.inl rfl))
 |r lo hi h=>exact wpAny_pyNext_range_end O.hd R.2.2.2.1 (An h) (fin (.inl rfl))
 |l e h=>exact R.2.elim λo r=>(cT In (.ref .L _ r.2.2) e).2.2.elim λxs y=>y.elim λn y=>wpAny_pyNext_list_end O.hd ⟨o,r.1.2.2.1,r.2.1⟩ (qp y.1) (en h y.2.1) (fin (.inl rfl))
 |e e h=>exact R.2.elim λold r=>r.elim λo r=>(cT In (.ref .L _ r.2.2.2) e).2.2.elim λxs y=>y.elim λn y=>wpAny_pyNext_enum_end O.hd r.1.2.2.1 ⟨o,r.2.1.2.2.1,r.2.2.1⟩ (qp y.1) (en h y.2.1) (fin (.inr rfl))
end
inductive Ao(N:cb)(h:Heap):Fl→Flow→Prop where
 |next:Ao N h .next .next
 |brk:Ao N h .brk .brk
 |cont:Ao N h .cont .cont
 |ret {v:MV} {u:Value}:RV N h v u→Ao N h (.ret v) (.ret u)
def fK(C:FC)(x:Addr):Prop:=x=C.env.locals∨∃n:Nm,C.env.cells.lookup n.str=some x∧C.env.kindOf n.str=some .cell
theorem fK.at{C:FC}{x:Addr}(q:fK C x):lg C x:=q.imp_right λq=>.inl (q.imp λ_ q=>q.1)
theorem mz{C:FC}{N:cb}{ρ:Loc}{h:Heap}(F:dU C N ρ h)(z:Addr)(q:fK C z):N.own z=.t∨(N.own z=.no∧h.get? z=none):=.inl (F.ok z q.at).1
theorem Ext.fU{C:FC}{N a:cb}{ρ:Loc}{h h':Heap}(F:dU C N ρ h)(e:Ext YN N a h h'):Ext (fK C) N a h h':=e.wk (λ_ q=>q.elim) (mz F)
def Cf(C:FC)(N:cb)(ρ':Loc)(c:Hp)(h:Heap)(e:Value)(s':Shared):Prop:=
 ∃a b,aO C.G b c {s' with heap:=a}∧Ext (fK C) N b h a∧dU C b ρ' a∧(td a e s'.heap∨u_ C.fr b a e s'.heap)
def LJ(C:FC)(t:Sem Flow)(ρ:Loc)(H:Hp)(f:Fl)(ρ':Loc)(b:Hp):Prop:=
 ∀N s(Q:Flow→Shared→Prop)(E:Value→Shared→Prop),aO C.G N H s→dU C N ρ s.heap→(∀fl s' a,Ao a s'.heap f fl→aO C.G a b s'→Ext (fK C) N a s.heap s'.heap→dU C a ρ' s'.heap→Q fl s')→aX (model pw C.G.w) C.A t Q E s
def H8(C:FC)(t:Sem Flow)(ρ:Loc)(H:Hp)(ρ':Loc)(a:Hp):Prop:=
 ∀N s(Q:Flow→Shared→Prop)(E:Value→Shared→Prop),aO C.G N H s→dU C N ρ s.heap→(∀e s',Cf C N ρ' a s.heap e s'→E e s')→aX (model pw C.G.w) C.A t Q E s
structure XS where
 b:PT→Stmt
 ok:Scope→PT→Bool
structure XB where
 b:PT→List Stmt
 ok:Scope→PT→Bool
noncomputable def y5:List XS→PT→Nat→List Stmt
 |[],_,_=>[]
 |x::r,p,i=>x.b (sub p i)::y5 r p (i+1)
noncomputable def pf:List XS→Scope→PT→Nat→Bool
 |[],_,_,_=>true
 |x::r,sc,p,i=>x.ok sc (sub p i)&&pf r sc p (i+1)
noncomputable def xB(l:List XS):XB:=⟨λp=>y5 l p 0,λsc p=>pf l sc p 0⟩
def eu(d:Nat)(x:XS)(ρ:Loc)(H:Hp)(f:Fl)(ρ':Loc)(a:Hp):Prop:=∀C p,FC.Ok C d→C.env.scope=C.sc→x.ok C.sc p=true→LJ C (exec (x.b p) C.env) ρ H f ρ' a
def Fy(d:Nat)(x:XS)(ρ:Loc)(H:Hp)(ρ':Loc)(a:Hp):Prop:=∀C p,FC.Ok C d→C.env.scope=C.sc→x.ok C.sc p=true→H8 C (exec (x.b p) C.env) ρ H ρ' a
def gj(d:Nat)(l:List XS)(ρ:Loc)(H:Hp)(f:Fl)(ρ':Loc)(a:Hp):Prop:=∀C p i,FC.Ok C d→C.env.scope=C.sc→pf l C.sc p i=true→LJ C (execs (y5 l p i) C.env) ρ H f ρ' a
def vo(d:Nat)(l:List XS)(ρ:Loc)(H:Hp)(ρ':Loc)(a:Hp):Prop:=∀C p i,FC.Ok C d→C.env.scope=C.sc→pf l C.sc p i=true→H8 C (execs (y5 l p i) C.env) ρ H ρ' a
def M1(C:FC)(t:Value→Sem Unit)(ρ:Loc)(H:Hp)(v:MV)(ρ':Loc)(b:Hp):Prop:=
 ∀N s x(Q:Unit→Shared→Prop)(E:Value→Shared→Prop),aO C.G N H s→dU C N ρ s.heap→RV N s.heap v x→(∀s' a,aO C.G a b s'→Ext (fK C) N a s.heap s'.heap→dU C a ρ' s'.heap→Q () s')→aX (model pw C.G.w) C.A (t x) Q E s
section
variable{C:FC}{d:Nat}{N:cb}{H:Hp}{s:Shared}{ρ ρ1 ρ':Loc}{H1 H2 H3 H':Hp}{n:Nm}{mv v:MV}{x:Value}{f:Fl}
theorem lA{M:Model}{A:Around}{env:Env}{name:Str}{m:Str→Option Value}{v:Value}{Q:Unit→Shared→Prop}{E:Value→Shared→Prop}(hl:env.kindOf name=some .local)(i:s.heap.Ns env.locals m)
  (h:∀h',h'.Ns env.locals (λx=>if x=name then some v else m x)→Heap.SameBut env.locals s.heap h'→(∀o,s.heap.get? env.locals=some o→∃e,h'.get? env.locals=some e∧e.cls=o.cls)→Q () {s with heap:=h',toks:=s.toks+1})
  (hp:(env.scope.kind==.class||(env.scope.kind==.module&&env.locals !=env.globals))=false):wpAny M A (storeName env name v) Q E s:=by
 rw[storeName_local hl hp]
 exact i.elim λo g=>g.elim λes g=>g.elim λj g=>i3 (b:=es.size) ⟨o,g.1,es,j,g.2.1,g.2.2.1,g.2.2.2,Nat.le_refl _⟩ λh' a b c=>h h' a.ns b c
theorem vp(a:C.env.scope.kind=.function):(C.env.scope.kind==.class||(C.env.scope.kind==.module&&C.env.locals !=C.env.globals))=false:=by rw[a];rfl
theorem r_{A:Around}(B:C.env.scope.kind=.function)(I:aO C.G N H s)(F:dU C N ρ s.heap)(hk:C.env.kindOf n.str=some .local)(p:∀h i,look h ρ'=some i→(h=n∧RV N s.heap i x)∨(n≠h∧look h ρ=some i)){Q:Unit→Shared→Prop}{E:Value→Shared→Prop}
  (k:∀s',aO C.G N H s'→dU C N ρ' s'.heap→Ext (· =C.env.locals) N N s.heap s'.heap→(∃m,s'.heap.Ns C.env.locals m∧m n.str=some x)→Q () s'):wpAny (model pw C.G.w) A (storeName C.env n.str x) Q E s:=
 F.ns.elim λm t=>lA hk t.1 (λh' j r D=>
  have o:=(F.ok _ (.inl rfl)).1
  have e:=gO o r
  k _ (I.va o r (f' j) _) ⟨F.ok,⟨_,j,λh i a b=>(p h i a).elim (λq=>⟨x,if_pos (congrArg Nm.str q.1),q.2.ext e⟩)
    λq=>(t.2 h i q.2 b).imp λu z=>⟨(if_neg λy=>q.1 (str_inj y).symm).trans z.1,z.2.ext e⟩⟩,
   λh c q=>(F.cells h c q).imp λov g=>⟨g.1.imp λo l=>⟨(r.2 c λz=>rV t.1 ov (z▸g.1)).trans l.1,l.2⟩,λi a b=>
    (p h i a).elim (λq=>by rw[q.1,hk]at b;exact b.elim (λb=>nomatch b) λb=>nomatch b) λq=>(g.2 i q.2 b).imp λu z=>⟨z.1,z.2.ext e⟩⟩,
   λv J=>⟨(F.frames v J).1,(F.frames v J).2.imp λL g=>⟨g.1,g.2.elim λo g=>(Decidable.em (L=C.env.locals)).elim
    (λz=>(D o (z▸g.1)).elim λK l=>j.elim λO y=>y.elim λes y=>y.elim λM y=>⟨K,z▸l.1,l.2.trans g.2.1,es,M,Option.some.inj (y.1.symm.trans l.1)▸y.2.1⟩)
    λz=>⟨o,(r.2 L z).trans g.1,g.2⟩⟩⟩⟩ e ⟨_,j,if_pos rfl⟩) (vp B)
theorem gk{A:Around}(e:C.env.scope.kind=.function)(I:aO C.G N H s)(F:dU C N ρ s.heap)(hk:C.env.kindOf n.str=some .local)(r:RV N s.heap mv x){Q:Unit→Shared→Prop}{E:Value→Shared→Prop}
  (k:∀s',aO C.G N H s'→dU C N (put n mv ρ) s'.heap→Ext (· =C.env.locals) N N s.heap s'.heap→Q () s'):wpAny (model pw C.G.w) A (storeName C.env n.str x) Q E s:=
 r_ e I F hk (λg h a=>(Decidable.em (n.c.beq g.c=true)).elim (λq=>by cases fp.mp q;rw[g9]at a;cases a;exact .inl ⟨rfl,r⟩)
  λq=>have q:n≠g:=λz=>q (fp.mpr z); .inr ⟨q,jF q mv ρ▸a⟩) λs' a b c _=>k s' a b c
theorem xK{A:Around}(O:C.Ok d)(I:aO C.G N H s)(F:dU C N ρ s.heap)(hk:C.env.kindOf n.str=some .cell)(r:RV N s.heap mv x){Q:Unit→Shared→Prop}{E:Value→Shared→Prop}
  (k:∀s',aO C.G N H s'→dU C N (put n mv ρ) s'.heap→Ext (fK C) N N s.heap s'.heap→Q () s'):wpAny (model pw C.G.w) A (storeName C.env n.str x) Q E s:=
 (Option.isSome_iff_exists.mp (O.gr n (.inl hk))).elim λc h=>(F.cells n c h).elim λov B=>F.ns.elim λm t=>wpAny_storeName_cell O.kind hk h B.1 λh' l j=>
  have o:=(F.ok c (.inr (.inl ⟨n,h⟩))).1
  have e:=gO o j
  have K:C.env.locals≠c:=λz=>rV t.1 ov (z▸B.1)
  k _ (I.va o j (gR l) _) ⟨F.ok,⟨m,t.1.sameBut j K,λi p a b=>
    have q:n≠i:=λz=>by cases z;rw[hk]at b;cases b
    (t.2 i p (jF q mv ρ▸a) b).imp λu z=>⟨z.1,z.2.ext e⟩⟩,
   λi c' q=>(Decidable.em (c'=c)).elim
    (λz=>have M:i=n:=O.lb i n c (z▸q) h
     ⟨some x,z▸l,λp a _=>⟨x,rfl,Option.some.inj ((g9 n mv ρ).symm.trans (M▸a))▸r.ext e⟩⟩)
    λz=>(F.cells i c' q).imp λov g=>⟨g.1.imp λo J=>⟨(j.2 c' z).trans J.1,J.2⟩,λp a b=>(g.2 p (jF (λy:n=i=>z (Option.some.inj (q.symm.trans (y▸h)))) mv ρ▸a) b).imp λu z=>⟨z.1,z.2.ext e⟩⟩,
   λv D=>⟨(F.frames v D).1,(F.frames v D).2.imp λL g=>⟨g.1,g.2.imp λo g=>⟨(j.2 L λz=>B.1.elim λP y=>g.2.2.elim λes w=>w.elim λnn w=>Data.noConfusion (w.symm.trans ((congrArg Obj.data (Option.some.inj (g.1.symm.trans (z▸y.1)))).trans y.2))).trans g.1,g.2⟩⟩⟩⟩
   (e.wk (λz q=>q▸ .inr ⟨n,h,hk⟩) (mz F))
end
noncomputable def pS(p:PT):Pos:=match(p []).ss with
 |s::_=>s.pos
 |[]=>⟨0,0,0,0⟩
section
variable{C:FC}{d:Nat}{N:cb}{H:Hp}{s:Shared}{ρ ρ1 ρ':Loc}{H1 H2 H3 H':Hp}{n:Nm}{mv v:MV}{f:Fl}
theorem aw:gj d [] ρ H .next ρ H:=λC p i O a z N s Q E I F k=>iQ (k _ _ N .next I ((Ext.refl N s.heap).fU F) F)
theorem af{x:XS}{r:List XS}(h:eu d x ρ H .next ρ1 H1)(t:gj d r ρ1 H1 f ρ' H'):gj d (x::r) ρ H f ρ' H':=λC p i O a z N s Q E I F k=>
 d4 (h C _ O a (aV z) N s _ _ I F λfl e j hf m c q=>by
  cases hf
  exact t C p (i+1) O a (aF z) j e _ _ m q λfl u g hf l b o=>k _ _ g hf l (c.trans b) o)
noncomputable def Jf:Fl→Bool
 | .next=>true
 |_=>false
theorem az{x:XS}{r:List XS}(h:eu d x ρ H f ρ' H')(hf:Jf f=false):gj d (x::r) ρ H f ρ' H':=λC p i O g z N s Q E I F k=>
 d4 (h C _ O g (aV z) N s _ _ I F λfl l b j c a e=>by
  cases j with
  |next=>cases hf
  |brk=>exact k _ _ b .brk c a e
  |cont=>exact k _ _ b .cont c a e
  |ret p=>exact k _ _ b (.ret p) c a e)
theorem mA{x:XS}{r:List XS}(h:Fy d x ρ H ρ' H'):vo d (x::r) ρ H ρ' H':=λC p i O a z N s Q E I F k=>d4 (h C _ O a (aV z) N s _ _ I F k)
theorem Cf.before{b:cb}{h a:Heap}{e:Value}{s':Shared}(x:Ext (fK C) N b h a)(p:Cf C b ρ' H' a e s'):Cf C N ρ' H' h e s':=p.imp λc p=>p.imp λg p=>⟨p.1,x.trans p.2.1,p.2.2⟩
theorem gJ{x:XS}{r:List XS}(h:eu d x ρ H .next ρ1 H1)(t:vo d r ρ1 H1 ρ' H'):vo d (x::r) ρ H ρ' H':=λC p i O a z N s Q E I F k=>
 d4 (h C _ O a (aV z) N s _ _ I F λfl g l hf m b o=>by
  cases hf
  exact t C p (i+1) O a (aF z) l g _ _ m o λe c j=>k e c (j.before b))
noncomputable def bt(e:XE):XS:=⟨λp=>.Return (some (e.b (sub p 0))) (pS p),λsc p=>e.ok sc (sub p 0)⟩
noncomputable def Cg:XS:=⟨λp=>.Return none (pS p),λ_ _=>true⟩
noncomputable def Ci:XS:=⟨λp=>.Continue (pS p),λ_ _=>true⟩
noncomputable def Fz:XS:=⟨λp=>.Break (pS p),λ_ _=>true⟩
theorem aY{e:XE}(h:Ev d e ρ H v H1):eu d (bt e) ρ H (.ret v) ρ H1:=λC p O j z N s Q E I F k=>
 sX (h C _ O z N s _ _ I F λu i c g a b=>k _ _ c (.ret b) g (a.fU F) (F.ext a))
theorem y6:eu d Cg ρ H (.ret .none) ρ H:=λC p O a z N s Q E I F k=>by
 show aX _ _ (exec (.Return none (pS p)) C.env) _ _ _
 rw[exec_Return_none]
 exact bz (a9 (k _ _ N (.ret .none) I ((Ext.refl N s.heap).fU F) F))
theorem FA:eu d Ci ρ H .cont ρ H:=λC p O a z N s Q E I F k=>show aX _ _ (do standAt (pS p);pure Flow.cont) _ _ s from bz (a9 (k _ _ N .cont I ((Ext.refl N s.heap).fU F) F))
theorem Jg:eu d Fz ρ H .brk ρ H:=λC p O a z N s Q E I F k=>show aX _ _ (do standAt (pS p);pure Flow.brk) _ _ s from bz (a9 (k _ _ N .brk I ((Ext.refl N s.heap).fU F) F))
theorem Jh{e:Value}{s':Shared}{h:Heap}(F:dU C N ρ h)(p:u' YN C N H' h e s'):Cf C N ρ H' h e s':=p.imp λa p=>p.imp λb p=>⟨p.1,p.2.1.fU F,F.ext p.2.1,p.2.2⟩
theorem FE{e:XE}(h:K9 d e ρ H H1):Fy d (bt e) ρ H ρ H1:=λC p O a z N s Q E I F k=>sX (h C _ O z N s _ _ I F λe s' q=>k e s' (Jh F q))
noncomputable def bo(t:XE)(a b:XB):XS:=⟨λp=>.If (t.b (sub p 0)) (a.b (sub p 1)) (b.b (sub p 2)) (pS p),λsc p=>t.ok sc (sub p 0)&&(a.ok sc (sub p 1)&&b.ok sc (sub p 2))⟩
theorem cF{t:XE}{a:List XS}{b:XB}(h:ik d t ρ H true H1)(h':gj d a ρ H1 f ρ' H'):eu d (bo t (xB a) b) ρ H f ρ' H':=λC p O l z N s Q E I F k=>
 MP (h C _ O (aV z) N s _ _ I F λc i o r e j=>xI j (h' C _ 0 O l (aV (aF z)) o i _ _ r (F.ext e) λfl w m hf q g u=>k _ _ m hf q ((e.fU F).trans g) u))
theorem aU{t:XE}{b:List XS}{a:XB}(h:ik d t ρ H false H1)(h':gj d b ρ H1 f ρ' H'):eu d (bo t a (xB b)) ρ H f ρ' H':=λC p O l z N s Q E I F k=>
 MP (h C _ O (aV z) N s _ _ I F λc i o r e j=>Am j (h' C _ 0 O l (aF (aF z)) o i _ _ r (F.ext e) λfl w m hf q g u=>k _ _ m hf q ((e.fU F).trans g) u))
theorem y7{t:XE}{a:List XS}{b:XB}(h:ik d t ρ H true H1)(h':vo d a ρ H1 ρ' H'):Fy d (bo t (xB a) b) ρ H ρ' H':=λC p O m z N s Q E I F k=>
 MP (h C _ O (aV z) N s _ _ I F λc j q r g l=>xI l (h' C _ 0 O m (aV (aF z)) q j _ _ r (F.ext g) λe i o=>k e i (o.before (g.fU F))))
noncomputable def xM:MV→Bool
 | .none| .bool _| .int _| .str _| .bytes _=>true
 |_=>false
theorem Cj{N:cb}{h:Heap}{v:MV}{u:Value}(r:RV N h v u)(p:xM v=true):∀a,u≠ .ref a:=by
 revert p
 exact RV.casesOn (motive:=λv u _=>xM v=true→∀a,u≠ .ref a) r (λ_=>nofun) (λ_ _=>nofun) (λ_ _ _=>nofun) (λ_ _ _=>nofun) (λ_ _ _=>nofun) (λ_ _ _ q=>nomatch q) (λ_ _ _ _ _ _ q=>nomatch q) (λ_ _ _ _ _ _ _ q=>nomatch q)
theorem Ap(O:C.Ok d):interactive C.env=false:=by
 unfold interactive
 rw[O.kind]
 rfl
noncomputable def bA(e:XE):XS:=⟨λp=>.Expr (e.b (sub p 0)) (pS p),λsc p=>e.ok sc (sub p 0)⟩
theorem bS{e:XE}(h:Ev d e ρ H v H1)(hp:xM v=true)(c:e.cp=true):eu d (bA e) ρ H .next ρ H1:=λC p O l z N s Q E I F k=>
 HS (h C _ O z N s _ _ I F λu j g i a b=>⟨Cj b hp,k _ _ g .next i (a.fU F) (F.ext a)⟩) (Ap O) (e.sw c _ _ _ _)
end
section
variable{α β:Type}[DecidableEq α]
theorem Aq{k:α}{v:Value}{r:List (α×Value)}(h:k∉r.map (·.1)):r.map (λa=>if a.1=k then(a.1,v)else a)=r:=
 (List.map_congr_left λ(p:α×Value) hp=>if_neg λe:p.1=k=>h (e▸List.mem_map_of_mem hp)).trans (List.map_id r)
theorem Ar{k:α}{u v:Value}{r:List (α×Value)}(h:k∉r.map (·.1)):stored ((k,u)::r) k v=(k,v)::r:=by
 unfold stored
 rw[if_pos (by rw[List.any_cons,decide_eq_true rfl,Bool.true_or]),List.map_cons,if_pos rfl,Aq h]
theorem As{k a:α}{u v:Value}{r:List (α×Value)}(h:a≠k):stored ((a,u)::r) k v=(a,u)::stored r k v:=by
 unfold stored
 rw[List.any_cons,decide_eq_false h,Bool.false_or,List.map_cons,if_neg h]
 split<;>rfl
end
section
variable{N:cb}{h:Heap}
theorem cM.split{d c:Type}{k:c→d}{kvs:List (d×Value)}{b:c}{w:MV}{fs:List (c×MV)}(r:cM N h k kvs ((b,w)::fs)):∃u a,kvs=(k b,u)::a∧RV N h w u∧cM N h k a fs:=by
 cases kvs with
 |nil=>cases r.1
 |cons p kvs=>
  refine⟨p.2,kvs,?_,r.2.2 0 w p.2 rfl rfl,(List.cons.inj r.1).2,Nat.succ.inj r.2.1,λj v x p q=>r.2.2 (j+1) v x p q⟩
  exact congrArg (· ::kvs) (Prod.ext (List.cons.inj r.1).1 rfl)
theorem cM.cons{d c:Type}{k:c→d}{kvs:List (d×Value)}{b:c}{w:MV}{u:Value}{fs:List (c×MV)}(a:RV N h w u)(r:cM N h k kvs fs):cM N h k ((k b,u)::kvs) ((b,w)::fs):=⟨congrArg (k b:: ·) r.1,dE.cons a r.2⟩
theorem cM.nil{b a:Type}{k:a→b}:cM N h k [] ([]:List (a×MV)):=⟨rfl,dE.nil⟩
theorem cM.len{b a:Type}{k:a→b}{kvs:List (b×Value)}{fs:List (a×MV)}(r:cM N h k kvs fs):kvs.length=fs.length:=by simpa using congrArg List.length r.1
theorem oQ{d a:Type}[DecidableEq d]{k:a→d}{b:a}{v:MV}{u:Value}{pt:List (a×MV)→List (a×MV)}{eqb:a→Bool}(i:pt []=[(b,v)])(l:∀m w r,pt ((m,w)::r)=bif eqb m then(b,v)::r else(m,w)::pt r)
  (j:∀m,eqb m=true→m=b)(f:∀m,eqb m=false→k m≠k b)(r:RV N h v u){fs:List (a×MV)}:∀{kvs:List (d×Value)},cM N h k kvs fs→(kvs.map (·.1)).Nodup→cM N h k (stored kvs (k b) u) (pt fs):=by
 induction fs with
 |nil=>
  intro kvs p _
  exact by
   cases kvs with
   |nil=>rw[i];exact .cons r .nil
   |cons _ _=>cases p.1
 |cons e fs ih=>
  intro kvs p nd
  exact p.split.elim λw z=>z.elim λg z=>by
   cases z.1
   have c:=List.nodup_cons.mp nd
   rw[l]
   cases q:eqb e.1 with
   |true=>cases j _ q;rw[Ar c.1];exact .cons r z.2.2
   |false=>rw[As (f _ q)];exact .cons z.2.1 (ih z.2.2 c.2)
theorem r'{n:Nm}{v:MV}{u:Value}(r:RV N h v u){kvs:List (Str×Value)}{fs:Loc}(p:cM N h Nm.str kvs fs)(nd:(kvs.map (·.1)).Nodup):cM N h Nm.str (stored kvs n.str u) (put n v fs):=
 oQ (pt:=put n v) (eqb:=λm=>m.c.beq n.c) rfl (λ_ _ _=>rfl) (λ_=>fp.mp) (λm q e=>by rw[str_inj e,Nat.beq_refl]at q;cases q) r p nd
noncomputable def dput(n:Int)(v:MV):List (Int×MV)→List (Int×MV)
 |[]=>[(n,v)]
 |(m,u)::r=>bif decide (m=n)then(n,v)::r else(m,u)::dput n v r
noncomputable def jT(k:Int):List (Int×MV)→Option MV
 |[]=>none
 |(m,v)::r=>bif decide (m=k)then some v else jT k r
noncomputable def xN(k:Int):List (Int×MV)→List (Int×MV)
 |[]=>[]
 |(m,v)::r=>bif decide (m=k)then r else(m,v)::xN k r
theorem xO{n:Int}{v:MV}{u:Value}(r:RV N h v u){kvs:List (Int×Value)}{fs:List (Int×MV)}(p:cM N h (λx:Int=>x) kvs fs)(nd:(kvs.map (·.1)).Nodup):cM N h (λx:Int=>x) (stored kvs n u) (dput n v fs):=
 oQ (k:=λx:Int=>x) (pt:=dput n v) (eqb:=λm=>decide (m=n)) rfl (λ_ _ _=>rfl) (λ_=>of_decide_eq_true) (λm q=>of_decide_eq_false q) r p nd
theorem oR{n:Int}{fs:List (Int×MV)}:∀{kvs:List (Int×Value)},cM N h (λx:Int=>x) kvs fs→(valueAt kvs n=none∧jT n fs=none)∨∃u v,valueAt kvs n=some u∧jT n fs=some v∧RV N h v u:=by
 induction fs with
 |nil=>
  intro kvs p
  exact by
   cases kvs with
   |nil=>exact .inl ⟨rfl,rfl⟩
   |cons _ _=>cases p.1
 |cons e fs ih=>
  intro kvs p
  exact p.split.elim λw z=>z.elim λa z=>by
   cases z.1
   rw[mx]
   show(_∧(bif decide (e.1=n)then some e.2 else jT n fs)=none)∨∃u v,_∧(bif decide (e.1=n)then some e.2 else jT n fs)=some v∧_
   by_cases q:e.1=n
   ·rw[if_pos q,decide_eq_true q];exact .inr ⟨_,_,rfl,rfl,z.2.1⟩
   ·rw[if_neg q,decide_eq_false q];exact ih z.2.2
theorem xP{n:Int}{fs:List (Int×MV)}:∀{kvs:List (Int×Value)},cM N h (λx:Int=>x) kvs fs→(kvs.map (·.1)).Nodup→cM N h (λx:Int=>x) (without kvs n) (xN n fs):=by
 induction fs with
 |nil=>
  intro kvs p _
  exact by
   cases kvs with
   |nil=>exact .nil
   |cons _ _=>cases p.1
 |cons e fs ih=>
  intro kvs p nd
  exact p.split.elim λw z=>z.elim λb z=>by
   cases z.1
   have a:=List.nodup_cons.mp nd
   show cM N h _ (List.filter _ _) (bif decide (e.1=n)then fs else e::xN n fs)
   rw[List.filter_cons]
   by_cases q:e.1=n
   ·rw[decide_eq_true q,if_neg (by simp[q])]
    have:=without_of_not_mem b n (q▸a.1)
    unfold without at this
    rw[this]
    exact z.2.2
   ·rw[decide_eq_false q,if_pos (by simp[q])]
    exact .cons z.2.1 (ih z.2.2 a.2)
theorem dE.set{vs:List MV}{xs:List Value}(r:dE N h vs xs){v:MV}{u:Value}(a:RV N h v u)(j:Nat):dE N h (vs.set j v) (xs.set j u):=
 ⟨by rw[List.length_set,List.length_set,r.1],λi w x p q=>(Decidable.em (j=i)).elim (λe=>by
   cases e
   rw[List.getElem?_set_self']at p q
   exact(Option.map_eq_some_iff.mp p).elim λ_ p=>(Option.map_eq_some_iff.mp q).elim λ_ q=>p.2▸q.2▸a)
  λe=>r.2 i w x (List.getElem?_set_ne e▸p) (List.getElem?_set_ne e▸q)⟩
end
inductive xQ(H:Hp):MV→MV→MV→Hp→Prop where
 |l {k j:Nat} {vs:List MV} (v:MV):H.o .L k=.list vs→j<vs.length→j<1000000→xQ H (.ref .L k) (.int j) v (H.set .L k (.list (vs.set j v)))
 |s {k:Nat} {fs:Loc} (n:Nm) (v:MV):H.o .S k=.bu fs→fs.length≤1000→xQ H (.ref .S k) (.str n) v (H.set .S k (.bu (put n v fs)))
 |d {k:Nat} {fs:List (Int×MV)} (n:Int) (v:MV):H.o .D k=.dy fs→fs.length≤1000→xQ H (.ref .D k) (.int n) v (H.set .D k (.dy (dput n v fs)))
 |b {k j:Nat} {bs:List UInt8} (x:UInt8):H.o .B k=.dD bs→j<bs.length→bs.length≤1000→xQ H (.ref .B k) (.int j) (.int x.toNat) (H.set .B k (.dD (bs.set j x)))
section
variable{C:FC}{d:Nat}{N:cb}{H H':Hp}{s:Shared}{ρ ρ1 xR ρ':Loc}{H1 H2 H3:Hp}
theorem i5{a:Type}[DecidableEq a]{p:Program}{w:World}{K:PySem.KeyKind p w a}{h:Heap}{x:Addr}{kvs:List (a×Value)}(D:h.DictOf K x kvs):(kvs.map (·.1)).Nodup:=D.elim λ_ q=>q.elim λ_ q=>q.elim λ_ q=>q.2.2.2.2.2
theorem d_{a:Type}[DecidableEq a]{p:Program}{w:World}{K:PySem.KeyKind p w a}{h:Heap}{x:Addr}{kvs:List (a×Value)}(D:h.DictOf K x kvs):aR h x:=D.imp λ_ q=>q.elim λ_ q=>q.elim λ_ q=>q.1
theorem small{n:Nat}(h:n≤1000):n≤sizeLine:=Nat.le_trans h (by decide)
theorem list_set{a:Addr}{us:List Value}{n:Nat}{j:Nat}{u:Value}{h:Heap}(g:h.get? a=some (W.listOf us.toArray n)):(h.update a (Obj.mapSeq (·.setIfInBounds j u))).get? a=some (W.listOf (us.set j u).toArray n):=by
 have b:Obj.mapSeq (·.setIfInBounds j u) (W.listOf us.toArray n)=W.listOf (us.set j u).toArray n:=by simp[Obj.mapSeq,W.listOf]
 rw[Heap.get?_update_self _ g (by rw[b];rfl),b]
theorem xS(O:C.Ok d)(I:aO C.G N H s){o i v:MV}{a b u:Value}(q:xQ H o i v H')(k:RV N s.heap o a)(rb:RV N s.heap i b)(j:RV N s.heap v u){Q:Unit→Shared→Prop}{E:Value→Shared→Prop}
  (m:∀s',aO C.G N H' s'→Ext YN N N s.heap s'.heap→Q () s'):wpAny (model pw C.G.w) C.A (setItem a b u) Q E s:=by
 cases q with
 |l v e p hb=>
  exact rb.d.elim λt f=>have o:=cT I k e;o.2.2.elim λus z=>z.elim λn z=>o.1▸f▸
   have c:=Heap.SameBut.update s.heap _ _
   have g:=list_set z.1
   have ex:=ew o.2.1 ⟨_,g⟩ c
   ki_setAt z.1 (Int.natCast_nonneg _) (by omega) (by rw[List.size_toArray,z.2.1];exact Int.ofNat_lt.mpr p) (m _ (I.set (v:=.list _) o.2.1 ⟨_,g⟩ c ⟨o.2.1,_,n,g,(z.2.ext ex).set (j.ext ex) _⟩ _) ex)
 |s n v e hl=>
  exact rb.d.elim λt f=>have o:=cT I k e;o.2.2.2.elim λkvs z=>o.1▸f▸
   wpAny_setItem_pairs (strKind_is pw C.G.w n.str t) z.1 (λh' h c=>
    have ex:=ew o.2.1 (d_ h) c
    m _ (I.set (v:=.bu _) o.2.1 (d_ h) c ⟨o.2.1,o.2.2.1,_,h,r' (j.ext ex) (⟨z.2.1,z.2.2.ext ex⟩) (i5 z.1)⟩ _) ex) (by rw[z.2.len];exact small hl)
 |d n v e hl=>
  exact rb.d.elim λt f=>have o:=cT I k e;o.2.2.2.elim λkvs z=>o.1▸f▸
   wpAny_setItem_pairs (intKind_is pw C.G.w n t) z.1 (λh' h c=>
    have ex:=ew o.2.1 (d_ h) c
    m _ (I.set (v:=.dy _) o.2.1 (d_ h) c ⟨o.2.1,o.2.2.1,_,h,xO (j.ext ex) (⟨z.2.1,z.2.2.ext ex⟩) (i5 z.1)⟩ _) ex) (by rw[z.2.len];exact small hl)
 |b x e p hl=>
  exact rb.d.elim λt f=>j.d.elim λy ev=>have o:=cT I k e;o.1▸f▸ev▸
   xA o.2.2 (Int.natCast_nonneg _) (by omega) p (Int.natCast_nonneg _) (by have:=x.toNat_lt;omega) (by rw[List.size_toArray];exact Nat.le_trans hl (by decide)) λh' r c=>
    have ex:=ew o.2.1 ⟨_,r⟩ c
    m _ (I.set (v:=.dD _) o.2.1 ⟨_,r⟩ c ⟨o.2.1,r.trans (by simp[UInt8.ofNat,Nat.toUInt8])⟩ _) ex
structure XT where
 b:PT→Expr
 ok:Scope→PT→Bool
 es:∀p r env,assignEach (b p::r) env=(false,assign (b p) env)::assignEach r env:=by intros;rfl
 pl:Bool:=true
 og:pl=true→∀p it v,letOwnedTupleGo (b p) it v=pure ():=by first|(intros;rfl)|exact nofun
 tp:pl=false→∀p,∃es k q,b p=.Tuple es k q:=by first|(intros;exact⟨_,_,_,rfl⟩)|exact nofun
def Au(d:Nat)(t:XT)(ρ:Loc)(H:Hp)(v:MV)(ρ':Loc)(H':Hp):Prop:=∀C p,FC.Ok C d→t.ok C.sc p=true→M1 C (assign (t.b p) C.env) ρ H v ρ' H'
noncomputable def Ck:Option NameKind→Bool
 |some .local|some .cell=>true
 |_=>false
noncomputable def bE(n:Nm):XT:={b:=λp=>.Name n.str (p []).e.pos,ok:=λsc _=>Ck (ba sc n.str)}
noncomputable def cQ(o:XE)(a:Nm):XT:={b:=λp=>.Attribute (o.b (sub p 0)) a.str (p []).e.pos,ok:=λsc p=>o.ok sc (sub p 0)}
noncomputable def pg(o i:XE):XT:={b:=λp=>.Subscript (o.b (sub p 0)) (i.b (sub p 1)) (p []).e.pos,ok:=λsc p=>o.ok sc (sub p 0)&&i.ok sc (sub p 1)}
theorem y8(O:C.Ok d){n:Nm}(h:Ck (ba C.sc n.str)=true):C.env.kindOf n.str=some .local∨C.env.kindOf n.str=some .cell:=by
 have o:=O.scope n
 cases q:ba C.sc n.str with
 |none=>rw[q]at h;cases h
 |some k=>
  rw[q]at h o
  cases k with
  |«local»=>exact .inl o
  |cell=>exact .inr o
  |_=>cases h
theorem qw{A:Around}(O:C.Ok d)(I:aO C.G N H s)(F:dU C N ρ s.heap){n:Nm}(hk:C.env.kindOf n.str=some .local∨C.env.kindOf n.str=some .cell){v:MV}{x:Value}(r:RV N s.heap v x){Q:Unit→Shared→Prop}{E:Value→Shared→Prop}
  (k:∀s',aO C.G N H s'→dU C N (put n v ρ) s'.heap→Ext (fK C) N N s.heap s'.heap→Q () s'):wpAny (model pw C.G.w) A (storeName C.env n.str x) Q E s:=
 hk.elim (λhk=>gk O.kind I F hk r λs' a b e=>k s' a b (e.wk (λ_ q=>.inl q) (mz F))) λhk=>xK O I F hk r k
theorem aA{n:Nm}{v:MV}:Au d (bE n) ρ H v (put n v ρ) H:=λC p O z N s x Q E I F r k=>.of (wpAny_assign_Name (qw O I F (y8 O z) r λs' a b e=>k s' N a e b))
theorem d0{o:XE}{a:Nm}{c:Cl}{j:Nat}{fs:Loc}{v:MV}(h:Ev d o ρ H (.ref c j) H1)(q:H1.o c j=.inst fs)(hf:mr c a=true)(hl:fs.length≤1000):Au d (cQ o a) ρ H v ρ (H1.set c j (.inst (put a v fs))):=λC p O z N s x Q E I F r k=>by
 show aX _ _ (assign (.Attribute (o.b (sub p 0)) a.str (p []).e.pos) C.env x) _ _ _
 rw[assign_Attribute]
 exact bK (b0 (h C _ O z N s _ _ I F λu w l n f i=>bz (bK (b0 (.of (BX O n q i hf hl (r.ext f) λt m g=>.of (wpAny_release' (k _ l m ((f.trans g).fU F) (F.ext (f.trans g))))))))))
theorem gY{o i:XE}{a j v:MV}(h:Ev d o ρ H a H1)(hi:Ev d i ρ H1 j H2)(q:xQ H2 a j v H3):Au d (pg o i) ρ H v ρ H3:=λC p O z N s x Q E I F r k=>by
 show aX _ _ (assign (.Subscript (o.b (sub p 0)) (i.b (sub p 1)) (p []).e.pos) C.env x) _ _ _
 rw[assign_Subscript]
 exact bK (b0 (h C _ O (aV z) N s _ _ I F λu l y D f n=>bK (b0 (hi C _ O (aF z) y l _ _ D (F.ext f) λw J t B c m=>bz (bK (b0 (.of (xS O B q (n.ext c) m (r.ext (f.trans c)) λG A g=>.of (wpAny_release' (k _ t A (((f.trans c).trans g).fU F) (F.ext ((f.trans c).trans g))))))))))))
end
noncomputable def isStar:Expr→Bool
 | .Starred .. =>true
 |_=>false
noncomputable def mB(sc:Scope)(line:Nat):Expr→Option Str
 |Expr.Name x pos=>if ba sc x==some NameKind.local&&pos.line==line then some x else none
 |_=>none
noncomputable def FF(sc:Scope)(ts vs:List Expr):Option (Option (List Str)):=
 if !(ts.length==2||ts.length==3)||vs.length !=ts.length then some none else
 if vs.any isStar then some none else
 if(ts.filterMap (mB sc ((ts.head?.map (·.pos.line)).getD 0))).length !=ts.length||(ts.filterMap (mB sc ((ts.head?.map (·.pos.line)).getD 0))).eraseDups.length !=(ts.filterMap (mB sc ((ts.head?.map (·.pos.line)).getD 0))).length then some none else
 if vs.all (foldedForSure 8)then some none else
 if vs.all (constantsAlone 8)then none else some (some (ts.filterMap (mB sc ((ts.head?.map (·.pos.line)).getD 0))))
theorem mC{b:Type}{c:Bool}{x:Option b}{a r:b}{t:Sem b}(h:(if c=true then some a else x)=some r)(k:x=some r→t=pure r):(if c=true then pure a else t)=pure r:=by
 cases c with
 |true=>exact congrArg pure (Option.some.inj h)
 |false=>exact k h
theorem H_{C:FC}{d:Nat}(O:C.Ok d){ts vs:List Expr}{k a:Nat}{p p':Pos}{r:Option (List Str)}(h:FF C.env.scope ts vs=some r):swappedStores [.Tuple ts k p] (.Tuple vs a p') C.env=pure r:=by
 have hb:(C.env.blockKind !=.function)=false:=by unfold Env.blockKind;rw[O.kind];rfl
 have e:swappedStores [.Tuple ts k p] (.Tuple vs a p') C.env=(if(!(ts.length==2||ts.length==3)||vs.length !=ts.length||C.env.blockKind !=.function)=true then pure none else
  if(vs.any isStar)=true then pure none else
  if((ts.filterMap (mB C.env.scope ((ts.head?.map (·.pos.line)).getD 0))).length !=ts.length||(ts.filterMap (mB C.env.scope ((ts.head?.map (·.pos.line)).getD 0))).eraseDups.length !=(ts.filterMap (mB C.env.scope ((ts.head?.map (·.pos.line)).getD 0))).length)=true then pure none else
  if(vs.all (foldedForSure 8))=true then pure none else
  if(vs.all (constantsAlone 8))=true then(do unsupported "assign.tuple-of-constant-expressions:order-of-the-stores";pure (some (ts.filterMap (mB C.env.scope ((ts.head?.map (·.pos.line)).getD 0)))))else pure (some (ts.filterMap (mB C.env.scope ((ts.head?.map (·.pos.line)).getD 0)))):Sem (Option (List Str))):=rfl
 rw[e,hb,Bool.or_false]
 exact mC h λh=>mC h λh=>mC h λh=>mC h λh=>by
  revert h
  cases vs.all (constantsAlone 8)with
  |true=>exactλh=>nomatch h
  |false=>exactλh=>congrArg pure (Option.some.inj h)
noncomputable def LK(sc:Scope):Expr→Expr→Bool
 | .Tuple ts _ _,.Tuple vs _ _=>match FF sc ts vs with
  |some none=>true
  |_=>false
 | .List _ _,_=>false
 |_,_=>true
theorem LL{C:FC}{d:Nat}(O:C.Ok d){t v:Expr}(h:LK C.env.scope t v=true):swappedStores [t] v C.env=pure none:=by
 cases t with
 |Tuple ts k p=>
  cases v with
  |Tuple vs a p'=>
   refine H_ O ?_
   revert h
   show(match FF C.env.scope ts vs with|some none=>true|_=>false)=true→_
   split
   ·exactλ_=>by assumption
   ·exactλh=>nomatch h
  |_=>rfl
 |List ts p=>cases h
 |_=>rfl
section
variable{C:FC}{d:Nat}{N:cb}{H:Hp}{s:Shared}{ρ ρ1 ρ':Loc}{H1 H2 H3 H':Hp}{n:Nm}{mv v:MV}{f:Fl}
theorem Ia{c:Type}{M:Model}{A:Around}{a b:Sem c}{Q:c→Shared→Prop}{E:Value→Shared→Prop}(h:aX M A b Q E s):aX M A (if false=true then a else b) Q E s:=h
noncomputable def ay(t:XT)(e:XE):XS:=⟨λp=>.Assign [t.b (sub p 0)] (e.b (sub p 1)) (pS p),λsc p=>t.ok sc (sub p 0)&&(e.ok sc (sub p 1)&&LK sc (t.b (sub p 0)) (e.b (sub p 1)))⟩
theorem Cm{t:XT}{e:XE}(a:∀p p' l env,swapsWith (e.b p') (some (t.b p)) l env=pure false)(h:Ev d e ρ H v H1)(ht:Au d t ρ H1 v ρ' H'):eu d (ay t e) ρ H .next ρ' H':=λC p O m z N s Q E I F k=>by
 show aX _ _ (exec (.Assign [t.b (sub p 0)] (e.b (sub p 1)) (pS p)) C.env) _ _ _
 rw[exec_Assign_arm,show swapsWithSole [t.b (sub p 0)] (e.b (sub p 1)) (pS p).line C.env=pure false from a _ _ _ _,LL O (m.symm▸aF (aF z)),t.es]
 exact bz (bO (Ia (bK (h C _ O (aV (aF z)) N s _ _ I F λu g q w c j=>bO
  (show aX _ _ (do assign (t.b (sub p 0)) C.env u;pure Flow.next) _ _ g from bK (ht C _ O (aV z) q g u _ _ w (F.ext c) j λy o r i x=>a9 (k _ _ o .next r ((c.fU F).trans i) x)))))))
theorem aG{t:XT}{e:XE}(a:e.cp=true)(h:Ev d e ρ H v H1)(ht:Au d t ρ H1 v ρ' H'):eu d (ay t e) ρ H .next ρ' H':=Cm (λ_ _ _ _=>e.sw a _ _ _ _) h ht
theorem y9{o:XE}{a:Nm}{e:XE}(h:Ev d e ρ H v H1)(ht:Au d (cQ o a) ρ H1 v ρ' H'):eu d (ay (cQ o a) e) ρ H .next ρ' H':=Cm (λ_ _ _ _=>e.sa _ _ _ _ _ _) h ht
noncomputable def bT:List XT→PT→Nat→List Expr
 |[],_,_=>[]
 |x::r,p,i=>x.b (sub p i)::bT r p (i+1)
noncomputable def M4:List XT→Scope→PT→Nat→Bool
 |[],_,_,_=>true
 |x::r,sc,p,i=>x.ok sc (sub p i)&&M4 r sc p (i+1)
def FG(d:Nat)(ts:List XT)(ρ:Loc)(H:Hp)(vs:List MV)(ρ':Loc)(H':Hp):Prop:=∀C p i,FC.Ok C d→M4 ts C.sc p i=true→∀N s xs(Q:Unit→Shared→Prop)(E:Value→Shared→Prop),aO C.G N H s→dU C N ρ s.heap→dE N s.heap vs xs→(∀s' a,aO C.G a H' s'→Ext (fK C) N a s.heap s'.heap→dU C a ρ' s'.heap→Q () s')→
 aX (model pw C.G.w) C.A (assignInOrder ((assignEach (bT ts p i) C.env).map (·.2)) xs) Q E s
theorem dE.split{N:cb}{h:Heap}{v:MV}{vs:List MV}{xs:List Value}(r:dE N h (v::vs) xs):∃u us,xs=u::us∧RV N h v u∧dE N h vs us:=by
 cases xs with
 |nil=>cases r.1
 |cons u us=>exact⟨u,us,rfl,r.2 0 v u rfl rfl,Nat.succ.inj r.1,λj v x p q=>r.2 (j+1) v x p q⟩
theorem dE.nil_eq{N:cb}{h:Heap}{xs:List Value}(r:dE N h [] xs):xs=[]:=List.eq_nil_of_length_eq_zero r.1
theorem dA:FG d [] ρ H [] ρ H:=λC p i O z N s xs Q E I F r k=>r.nil_eq▸a9 (k s N I ((Ext.refl N s.heap).fU F) F)
theorem ry{M:Model}{A:Around}{t:Value→Sem Unit}{ts:List (Value→Sem Unit)}{x:Value}{xs:List Value}{Q:Unit→Shared→Prop}{E:Value→Shared→Prop}
  (h:aX M A (t x) (λ_ a=>aX M A (assignInOrder ts xs) Q E a) E s):aX M A (assignInOrder (t::ts) (x::xs)) Q E s:=show aX M A (do holding xs (t x);assignInOrder ts xs) Q E s from bK (b0 h)
theorem bw{t:XT}{ts:List XT}{vs:List MV}(h:Au d t ρ H v ρ1 H1)(j:FG d ts ρ1 H1 vs ρ' H'):FG d (t::ts) ρ H (v::vs) ρ' H':=λC p i O z N s xs Q E I F r k=>
 r.split.elim λu q=>q.elim λus q=>q.1▸(show aX _ _ (assignInOrder ((assignEach (t.b (sub p i)::bT ts p (i+1)) C.env).map (·.2)) (u::us)) _ _ _ from t.es _ _ _▸
  ry (h C _ O (aV z) N s u _ _ I F q.2.1 λg m w a y=>j C p (i+1) O (aF z) m g us _ _ w y (q.2.2.ext a) λe l o c x=>k e l o (a.trans c) x))
theorem mD(env:Env){ts:List XT}{p:PT}{i:Nat}:(assignEach (bT ts p i) env).length=ts.length∧(assignEach (bT ts p i) env).findIdx? (·.1)=none:=by
 induction ts generalizing i with
 |nil=>exact⟨rfl,rfl⟩
 |cons t ts ih=>
  show(assignEach (t.b (sub p i)::bT ts p (i+1)) env).length=_∧(assignEach (t.b (sub p i)::bT ts p (i+1)) env).findIdx? (·.1)=none
  rw[t.es]
  exact⟨congrArg (· +1) (ih (i:=i+1)).1,by rw[List.findIdx?_cons,if_neg Bool.false_ne_true,(ih (i:=i+1)).2];rfl⟩
theorem iz{h h':Heap}(a:Heap.ExtBut h.objs.size h h'):∀b o,h.get? b=some o→h'.get? b=some o:=λb o g=>a b o (λz=>(show aR h b from⟨o,g⟩).ne z) g
noncomputable def et(ts:List XT):XT:={b:=λp=>.Tuple (bT ts p 0) (pK p) (pE p),ok:=λsc p=>M4 ts sc p 0,pl:=false}
theorem eL{ts:List XT}{vs:List MV}(h:FG d ts ρ H vs ρ' H')(hl:vs.length=ts.length):Au d (et ts) ρ H (.tup vs) ρ' H':=λC p O z N s x Q E I F r k=>
 r.d.elim λa q=>q.elim λxs q=>q.1▸(show aX _ _ (assign (.Tuple (bT ts p 0) (pK p) (pE p)) C.env (.ref a)) _ _ _ from by
  rw[assign_Tuple]
  unfold unpack
  rw[(mD C.env (ts:=ts)).1,(mD C.env (ts:=ts)).2,show ts.length=xs.toArray.size from(hl.symm.trans q.2.2.2.2.1.symm)]
  exact bz (bF (wpAny_holding (unpackItems_tuple O.hd q.2.1 λh' b=>
   have e0:=Ext.ir N (iz b)
   h C p 0 O z N {s with heap:=h'} xs _ _ (I.ir (iz b) s.toks) (F.ext e0) (q.2.2.2.2.ext e0) λe g i c j=>k e g i ((e0.fU F).trans c) j))))
noncomputable def bindAll:List Nm→List MV→Loc→Loc
 |[],_,ρ=>ρ
 |n::ns,vs,ρ=>bindAll ns vs.tail (put n (vs.headD .none) ρ)
theorem dE.append'{N:cb}{h:Heap}{vs:List MV}{xs:List Value}(r:dE N h vs xs):dE N h vs.reverse xs.reverse:=by
 induction vs generalizing xs with
 |nil=>exact r.nil_eq▸ .nil
 |cons v vs ih=>
  exact r.split.elim λu q=>q.elim λus q=>q.1▸(by rw[List.reverse_cons,List.reverse_cons];exact(ih q.2.2).append (.cons q.2.1 .nil))
theorem Av(O:C.Ok d){ns:List Nm}:∀{vs:List MV}{xs:List Value}{N:cb}{s:Shared}{ρ:Loc},(∀n∈ns,C.env.kindOf n.str=some .local)→ns.length=vs.length→aO C.G N H s→dU C N ρ s.heap→dE N s.heap vs xs→
  ∀{Q:Unit→Shared→Prop}{E:Value→Shared→Prop},(∀s',aO C.G N H s'→dU C N (bindAll ns vs ρ) s'.heap→Ext (fK C) N N s.heap s'.heap→Q () s')→wpAny (model pw C.G.w) C.A (assignInOrder (ns.map λn=>bindName C.env n.str) xs) Q E s:=by
 induction ns with
 |nil=>exactλ{vs xs N s ρ} hk hl I F r Q E k=>(show dE N s.heap [] xs from List.eq_nil_of_length_eq_zero hl.symm▸r).nil_eq▸assignInOrder_nil (k s I F ((Ext.refl N s.heap).fU F))
 |cons n ns ih=>
  intro vs xs N s ρ hk hl I F r Q E k
  cases vs with
  |nil=>cases hl
  |cons v vs=>
   exact r.split.elim λu q=>q.elim λus q=>q.1▸assignInOrder_cons (wpAny_bindName (gk O.kind I F (hk n (List.mem_cons_self ..)) q.2.1 λl h j a=>
    ih (λm e=>hk m (List.mem_cons_of_mem _ e)) (Nat.succ.inj hl) h j (q.2.2.ext a) λc g i b=>k c g i ((a.wk (λ_ q=>.inl q) (mz F)).trans b)))
noncomputable def isLocal:Option NameKind→Bool
 |some .local=>true
 |_=>false
theorem jU{k:Option NameKind}(h:isLocal k=true):k=some .local:=by
 cases k with
 |none=>cases h
 |some k=>cases k<;>first|rfl|cases h
noncomputable def se(ns:List Nm)(es:List XE):XS:=⟨λp=>.Assign [.Tuple (bT (ns.map bE) (sub p 0) 0) (pK (sub p 0)) (pE (sub p 0))] ((cS es).b (sub p 1)) (pS p),λsc p=>(cS es).ok sc (sub p 1)&&(ns.all (λn=>isLocal (ba sc n.str))&&decide (FF sc (bT (ns.map bE) (sub p 0) 0) (bL es (sub p 1) 0)=some (some (ns.map Nm.str))))⟩
theorem tP{ns:List Nm}{es:List XE}{vs:List MV}(h:p8 d es ρ H vs H1)(o:vs.length≤1000)(hl:ns.length=vs.length):eu d (se ns es) ρ H .next (bindAll ns.reverse vs.reverse ρ) H1:=λC p O e z N s Q E I F k=>by
 show aX _ _ (exec (.Assign [.Tuple (bT (ns.map bE) (sub p 0) 0) (pK (sub p 0)) (pE (sub p 0))] (.Tuple (bL es (sub p 1) 0) (pK (sub p 1)) (pE (sub p 1))) (pS p)) C.env) _ _ _
 rw[exec_Assign_arm,H_ O (e.symm▸of_decide_eq_true (aF (aF z)))]
 have hk:∀n∈ns.reverse,C.env.kindOf n.str=some .local:=λn r=>(show C.env.kindOf n.str=ba C.sc n.str from e▸rfl).trans (jU (List.all_eq_true.mp (aV (aF z)) n (List.mem_reverse.mp r)))
 refine bz (bO (Ia (bK (ct h o C _ O (aV z) N s _ _ I F λu c i w b m=>m.d.elim λa q=>q.elim λxs q=>bO ?_))))
 show aX _ _ (do rule "assign.swapped-stores";let items←unpackItems u (ns.map Nm.str).length none;assignInOrder ((ns.map Nm.str).reverse.map λn=>bindName C.env n) items.reverse;pure Flow.next) _ _ c
 rw[←List.map_reverse,List.map_map,q.1,show(ns.map Nm.str).length=xs.toArray.size from(List.length_map _).trans (hl.trans q.2.2.2.2.1.symm)]
 exact .of (wpAny_bind (wpAny_rule (wpAny_bind (unpackItems_tuple O.hd q.2.1 λh' g=>
  have e0:=Ext.ir i (iz g)
  wpAny_bind (Av O hk (by rw[List.length_reverse,List.length_reverse,hl]) (w.ir (iz g) c.toks) ((F.ext b).ext e0) (q.2.2.2.2.ext e0).append' λl t x j=>wpAny_pure (k _ l i .next t (((b.trans e0).fU F).trans j) x))))))
end
inductive K_:Operator→Int→Int→Int→Prop where
 |add (a b:Int):K_ .Add a b (a+b)
 |sub (a b:Int):K_ .Sub a b (a-b)
section
variable{C:FC}{d:Nat}{N:cb}{H:Hp}{s:Shared}{ρ ρ1 ρ':Loc}{H1 H2 H3 H':Hp}{n:Nm}{mv v:MV}{f:Fl}
theorem Ji(O:C.Ok d)(I:aO C.G N H s){c:Cl}{k:Nat}{fs:Loc}{u:Value}{a:Nm}(r:RV N s.heap (.ref c k) u)(q:H.o c k=.inst fs)(hf:mr c a=true)(l:look a fs=some v){Q:Value→Shared→Prop}{E:Value→Shared→Prop}
  (K:∀y t,RV N s.heap v y→Q y {s with toks:=t}):wpAny (model pw C.G.w) C.A (getAttr u a.str true) Q E s:=
 (pL I q r).elim λe r=>r.2.2.2.elim λm r=>((r.2.1 a).1 v l).elim λy b=>r.2.2.elim λg J=>e▸
  get_value (jH O I) J.2 (tx (nQ hf)) (findObj_own (qk (nQ hf)) (nR hf) rfl ((J.1 _).trans (congrArg some b.1))) (r4 b.2) (K _ _ b.2)
theorem Cn{op:Operator}{x y z:Int}{a b:Value}(q:K_ op x y z)(g:RV N s.heap (.int x) a)(rb:RV N s.heap (.int y) b){Q:Value→Shared→Prop}{E:Value→Shared→Prop}(k:∀t,Q (.int z t) {s with toks:=s.toks+1}):wpAny (model pw C.G.w) C.A (inplaceOp op a b) Q E s:=
 g.d.elim λt e=>rb.d.elim λc e'=>e▸e'▸K_.casesOn (motive:=λop x y z _=>(∀t,Q (.int z t) {s with toks:=s.toks+1})→wpAny (model pw C.G.w) C.A (inplaceOp op (.int x t) (.int y c)) Q E s) q (λa b k=>PySem.AutoIntOps.iadd_0 (k _)) (λa b k=>PySem.AutoIntOps.isub_0 (k _)) k
noncomputable def y_(n:Nm)(op:Operator)(e:XE):XS:=⟨λp=>.AugAssign (.Name n.str (pE (sub p 0))) op (e.b (sub p 1)) (pS p),λsc p=>isLocal (ba sc n.str)&&e.ok sc (sub p 1)⟩
theorem Cp(a:C.env.scope=C.sc)(h:isLocal (ba C.sc n.str)=true):C.env.kindOf n.str=some .local:=(show C.env.kindOf n.str=ba C.sc n.str from a▸rfl).trans (jU h)
theorem FH{op:Operator}{e:XE}{x y z:Int}(l:look n ρ=some (.int x))(h:Ev d e ρ H (.int y) H1)(q:K_ op x y z):eu d (y_ n op e) ρ H .next (put n (.int z) ρ) H1:=λC p O o w N s Q E I F k=>by
 show aX _ _ (exec (.AugAssign (.Name n.str (pE (sub p 0))) op (e.b (sub p 1)) (pS p)) C.env) _ _ _
 rw[exec_AugAssign_Name]
 have hk:=Cp o (aV w)
 exact bz (F.ns.elim λm r=>(r.2 n _ l hk).elim λu y=>bF (wpAny_loadName_local O.kind hk r.1 y.1 (bK (b0 (h C _ O (aF w) N s _ _ I F λb c A D a j=>bz (bK (KX (.of (Cn q (y.2.ext a) j λt=>
  bz (bF (wpAny_bindName (gk (s:={c with toks:=c.toks+1}) O.kind (D.tok _) (F.ext a) hk (.int z t) λi B G g=>a9 (k _ i A .next B ((a.fU F).trans (g.wk (λ_ q=>.inl q) (mz (F.ext a)))) G)))))))))))))
noncomputable def k0(o:XE)(a:Nm)(op:Operator)(e:XE):XS:=⟨λp=>.AugAssign (.Attribute (o.b (sub (sub p 0) 0)) a.str (pE (sub p 0))) op (e.b (sub p 1)) (pS p),λsc p=>o.ok sc (sub (sub p 0) 0)&&e.ok sc (sub p 1)⟩
theorem kF(o attr a op value pos)(env:Env):exec (.AugAssign (.Attribute o attr a) op value pos) env=(do
  standAt pos
  let ov←eval o env
  let new←holding [ov] do
   standAt a.atName
   let old←getAttr ov attr true
   let v←holding [old] (eval value env)
   standAt pos
   operate [old,v] (inplaceOp op old v)
  standAt a.atName
  holding [new,ov] (setAttr ov attr new)
  release [new,ov] []
  pure .next):=rfl
theorem i6{o:XE}{a:Nm}{op:Operator}{e:XE}{c:Cl}{j:Nat}{fs i:Loc}{x y z:Int}(h:Ev d o ρ H (.ref c j) H1)(g:H1.o c j=.inst fs)(hf:mr c a=true)(l:look a fs=some (.int x))(M:Ev d e ρ H1 (.int y) H2)(q:K_ op x y z)(P:H2.o c j=.inst i)(hl:i.length≤1000):
  eu d (k0 o a op e) ρ H .next ρ (H2.set c j (.inst (put a (.int z) i))):=λC p O V w N s Q E I F k=>by
 show aX _ _ (exec (.AugAssign (.Attribute (o.b (sub (sub p 0) 0)) a.str (pE (sub p 0))) op (e.b (sub p 1)) (pS p)) C.env) _ _ _
 rw[kF]
 exact bz (bK (h C _ O (aV w) N s _ _ I F λu K S G r D=>bK (b0 (bz (bF (Ji O G D g hf l λb t py=>bK (b0 (M C _ O (aF w) S {K with toks:=t} _ _ (G.tok _) (F.ext r) λb' B R U m L=>
  bz (KX (.of (Cn q (py.ext m) L λt=>bz (bK (b0 (.of (BX (s:={B with toks:=B.toks+1}) O (U.tok _) P (D.ext m) hf hl (.int z t) λJ T A=>
   bF (wpAny_release' (a9 (k _ J R .next T (((r.trans m).trans A).fU F) (F.ext ((r.trans m).trans A))))))))))))))))))))
noncomputable def LM(o i:XE):XS:=⟨λp=>.Delete [.Subscript (o.b (sub (sub p 0) 0)) (i.b (sub (sub p 0) 1)) (pE (sub p 0))] (pS p),λsc p=>o.ok sc (sub (sub p 0) 0)&&i.ok sc (sub (sub p 0) 1)⟩
theorem Jj{o i:XE}{j:Nat}{m:Int}{fs:List (Int×MV)}{v:MV}(h:Ev d o ρ H (.ref .D j) H1)(hi:Ev d i ρ H1 (.int m) H2)(g:H2.o .D j=.dy fs)(hl:fs.length≤1000)(l:jT m fs=some v):eu d (LM o i) ρ H .next ρ (H2.set .D j (.dy (xN m fs))):=λC p O U w N s Q E I F k=>by
 show aX _ _ (do
   standAt (pS p)
   (do(do let ov←eval (o.b (sub (sub p 0) 0)) C.env;let c←holding [ov] (eval (i.b (sub (sub p 0) 1)) C.env);standAt (pE (sub p 0));holding [ov,c] (delItem ov c);release [ov,c] []);pure ())
   pure Flow.next) _ _ _
 refine bz (bK (bK (bK (h C _ O (aV w) N s _ _ I F λu K R S A M=>bK (b0 (hi C _ O (aF w) R K _ _ S (F.ext A) λb T B J y L=>bz (bK (b0 (.of ?_)))))))))
 have o:=cT J (M.ext y) g
 have e:=o.1
 subst e
 obtain⟨t,rfl⟩:=L.d
 obtain⟨nm,kvs,D,P⟩:=o.2.2
 have nd:=i5 D
 unfold delItem
 refine wpAny_holding (wpAny_bind (wpAny_sequenceKey D.typeIs (by decide) ?_))
 refine wpAny_bind (wpAny_callSpecial?_slot (name:=Str.ofString "__delitem__") D.typeIs PySem.F.slot_dict_delitem
  (call_meetsIn PySem.F.slot_dict_delitem D.typeIs PySem.F.entry_dict_delitem (PySem.F.args_dict_delitem_2 _ _) (meets_dict_delitem_pairs (PySem.intKind pw C.G.w) (B.x .D j) (intKind_is pw C.G.w m t)) ⟨kvs,D,(by rw[P.len];exact small hl),?_,λh' q a=>?_⟩))
 ·exact(oR P).elim (λz=>nomatch z.2.symm.trans l) λz=>z.elim λu z=>z.elim λv z=>z.1▸rfl
 have ex:=ew o.2.1 (d_ q) a
 have r:=(A.trans y).trans ex
 exact wpAny_pure (.of (wpAny_release' (a9 (a9 (k _ _ B .next (J.set (v:=.dy _) o.2.1 (d_ q) a ⟨o.2.1,nm,_,q,xP ⟨P.1,P.2.ext ex⟩ nd⟩ _) (r.fU F) (F.ext r))))))
end
end Mine
end
section
open PySem PySem.W PyProof.Rows PySem.Calls
open Sem (wp)
namespace Mine
open Nm
section
variable{α:Type}{M:Model}{A:Around}{E:Value→Shared→Prop}{s:Shared}{env:Env}
theorem LN{vs:List Value}{m:Sem α}{Q:α→Shared→Prop}(h:aX M A m Q E s):aX M A (m.keep vs) Q E s:=λb p a c=>by rw[Sem.wp_keep];exact h b p a c
theorem i7(pos:Pos)(ts:List (Bool×Sem Value)):(backTo pos ts).any (·.1)=ts.any (·.1):=by
 simp[backTo,List.any_map,Function.comp_def]
theorem Aw{f:Value}{args:List (Bool×Sem Value)}{Q:Args→Shared→Prop}(c:args.any (·.1)=false)(h:aX M A (spliced args) (λvs s'=>Q ⟨vs,[]⟩ s') E s):aX M A (evalArgs f true args []) Q E s:=by
 unfold evalArgs
 have tail:∀vs s',Q ⟨vs,[]⟩ s'→aX M A (holding (vs++[]) (do let _←(pure []:Sem (List Value));let l←(pure vs:Sem (List Value));pure (⟨l,[]⟩:Args))) Q E s':=λvs s' h=>b0 (bO (bO (a9 h)))
 cases args with
 |nil=>
  show aX M A (spliced []>>=_) Q E s
  exact bG h λvs s' h'=>b0 (bO (bO (a9 h')))
 |cons a rest=>
  obtain⟨b,x⟩:=a
  cases b with
  |true=>simp at c
  |false=>
   show aX M A (spliced ((false,x)::rest)>>=_) Q E s
   exact bG h λvs s' h'=>b0 (bO (bO (a9 h')))
theorem fV{pos:Pos}{f:Value}{first:List Value}{args:List (Bool×Sem Value)}{P:Shared→Prop}{Q:Value→Shared→Prop}(d:args.any (·.1)=false)
  (hk:∀b,P b→∃k,∀(A:Around)(Q:Keeper→Shared→Prop)(E:Value→Shared→Prop),Q k b→wpAny M A (keeperOf f) Q E b)
  (h:aX M A (spliced args) (λvs b=>P b∧aX M A (call f (first++vs)) Q E b) E s):aX M A (callWith pos f first args []) Q E s:=by
 unfold callWith
 refine bG (b0 (Aw (Q:=λa b=>a.kw=[]∧P b∧aX M A (call f (first++a.pos)) Q E b) d (fu h (λvs b c=>⟨rfl,c⟩) λ_ _ x=>x))) λa b c=>bz ?_
 obtain⟨ap,i⟩:=a
 obtain⟨rfl,c⟩:=c
 obtain⟨k,L⟩:=hk _ c.1
 simp only[d,List.any_nil,Bool.or_false]
 refine bF (L _ _ _ ?_)
 have tail:∀{t:Sem Value},aX M A t Q E b→aX M A (t>>=λr=>holding [r] point>>=λ_=>pure r) Q E b:=
  λht=>bG ht λr e g=>bK (b0 (.of (wpAny_point (a9 g))))
 have marked (mk:Value):aX M A (callMarked mk f (first++ap) []) Q E b:=LN c.2
 cases k<;>dsimp only<;>first|exact tail c.2|exact tail (KX c.2)|(split<;>first|exact tail c.2|exact tail (marked _))
theorem fC(M:Model)(id:String)(s:Shared):∃k,∀(A:Around)(Q:Keeper→Shared→Prop)(E:Value→Shared→Prop),Q k s→wpAny M A (keeperOf (.builtin id)) Q E s:=⟨.machine,λA Q E q=>wpAny_pure q⟩
theorem iA(M:Model)(id:String)(s:Shared):∃k,∀(A:Around)(Q:Keeper→Shared→Prop)(E:Value→Shared→Prop),Q k s→wpAny M A (keeperOf (.type id)) Q E s:=⟨.machine,λA Q E q=>wpAny_pure q⟩
theorem nV{M:Model}{s:Shared}{a:Addr}{o:Obj}{fd:FuncData}(g:s.heap.get? a=some o)(hd:o.data=.func fd):∃k,∀(A:Around)(Q:Keeper→Shared→Prop)(E:Value→Shared→Prop),Q k s→wpAny M A (keeperOf (.ref a)) Q E s:=
 ⟨.frame,λA Q E q=>by
  unfold keeperOf
  refine wpAny_bind (wpAny_load g ?_)
  rw[hd];exact wpAny_pure q⟩
theorem dC{x:Str}{p pos:Pos}{args:List Expr}{Q:Value→Shared→Prop}(h:aX M A (eval (.Name x p) env) (λf a=>aX M A (callWith pos f [] (backTo pos (starEach args env)) []) Q E a) E s):
  aX M A (eval (.Call (.Name x p) args [] pos) env) Q E s:=by
 rw[arm_eval_Call_Name']
 exact bG h λf a b=>b
theorem sf{o:Expr}{name:Str}{apos pos:Pos}{args:List Expr}{Q:Value→Shared→Prop}(hb:attributeBase o name env (eval o env)=eval o env)(hl:(apos.endLine==pos.line)=true)(k:args.length<20)(i:(starEach args env).any (·.1)=false)
  (h:aX M A (eval o env) (λov b=>∀pl:Sem Bool,aX M A (getMethod ov name pl) (λg a=>aX M A (callWith pos g.1 g.2 (backTo pos (starEach args env)) []) Q E a) E b) E s):
  aX M A (eval (.Call (.Attribute o name apos) args [] pos) env) Q E s:=by
 rw[arm_eval_Call,hb]
 refine bG h λov b e=>bz ?_
 have c:methodCallForm (args.length+([]:List Keyword).length) (backTo pos (starEach args env)) (backToKw pos (keywordEach [] env))=true:=by
  unfold methodCallForm
  have j:((backTo pos (starEach args env)).all λx=> !x.1)=true:=by
   rw[List.all_eq_not_any_not]
   simp only[Bool.not_not,i7,i]
   rfl
  rw[j]
  simp[backToKw,keywordEach]
  lia
 unfold methodCall
 rw[c]
 unfold calleeOf
 refine bG (b0 (e _)) λg a d=>?_
 have f:methodCallPos true o env apos pos=pure pos:=by unfold methodCallPos;simp[hl]
 rw[f]
 exact bO d
end
section
variable{M:Model}{A:Around}{E:Value→Shared→Prop}{s:Shared}{env:Env}
def za(M:Model)(A:Around)(E:Value→Shared→Prop)(use:Option (Value→Sem Unit))(Q:Value→Shared→Prop)(acc:Value)(C:Addr)(r:Result)(s':Shared):Prop:=
 match r,use with
 | .ok _,none=>∃m,s'.heap.Ns C m∧∀h' b,h'.Ns C b→Heap.SameBut C s'.heap h'→Q acc {s' with heap:=h'}
 | .ok _,some u=>aX M A (u acc) (λ_ a=>∃m,a.heap.Ns C m∧∀h' b,h'.Ns C b→Heap.SameBut C a.heap h'→Q .none {a with heap:=h'}) E s'
 | .error _,_=>False
theorem Cq{a:Type}{c:Prop}[Decidable c]{pos:Pos}{k:PUnit→Sem a}{Q:a→Shared→Prop}(h:aX M A (k ()) Q E s):aX M A (if c then(standAt pos>>=k)else k ()) Q E s:=by
 split
 ·exact bz h
 ·exact h
theorem qx{e:Expr}{scope:Scope}{pos:Pos}{a first:Sem Value}{g:Comprehension}{K:List Comprehension}{cl:List (Str×Addr)}{use:Option (Value→Sem Unit)}
  {Q:Value→Shared→Prop}
  (H:clausesOf e=g::K)(J:∀x,foldedSetIterable g.iter env x=pure x)(p:closureFor scope env=pure cl)
  (b:scope.kind=.function)(c:∀x∈scope.names,x.2=.local→scope.names.lookup x.1=some .local)(hd:gy (.compStart e 0 .none .none env)=false)
  (h:aX M A first (λx k=>aX M A (pyIter x) (λit j=>aX M A a (λacc i=>
   aX M A (newFunctionEnv scope env.globals cl [] env.qual none .none (some env)) (λcenv d=>
    cq M A (.compStart e 0 it acc {cenv with scope:=relabel scope env}) (za M A E use Q acc cenv.locals) d) E i) E j) E k) E s):
  aX M A (comprehension e scope env pos a false first use) Q E s:=by
 unfold comprehension
 rw[p,H]
 refine bG h λx k w=>bz (bF (wpAny_of_eq (J x) (bG (b0 w) λit j v=>Cq (bG v λacc i t=>bO (bG t λcenv d q=>?_)))))
 dsimp only
 have F:∀x∈(scope.names.filter λx=>(x.2==.local||x.2==.cell)&&x.1 !=(".0" :Str)).reverse,x.2=.local→
   Env.kindOf {cenv with scope:=relabel scope env} x.1=some .local:=λx C hl=>lookup_relabel_local (c x (List.mem_filter.mp (List.mem_reverse.mp C)).1 hl)
 have D:∀x∈(scope.names.filter λx=>(x.2==.local||x.2==.cell)&&x.1 !=(".0" :Str)).reverse.drop 1++(scope.names.filter λx=>(x.2==.local||x.2==.cell)&&x.1 !=(".0" :Str)).reverse.take 1,
   x.2=.local→Env.kindOf {cenv with scope:=relabel scope env} x.1=some .local:=λx C hl=>by
  rcases List.mem_append.mp C with I|I
  ·exact F x (List.mem_of_mem_drop I) hl
  ·exact F x (List.mem_of_mem_take I) hl
 refine b0 (bK (l9 (b0 (Ln (rQ q λr s' y=>?_) rfl nofun))))
 cases r with
 |ok f=>
  cases use with
  |none=>
   obtain⟨m,G,y⟩:=y
   exact bK (b0 (.of (wpAny_comp_letGo (cenv:={cenv with scope:=relabel scope env}) b _ s' m F G λh' B o l=>a9 (y h' B o l))))
  |some u=>
   refine bF (wpAny_rule (bK (b0 (fu y (λ_ z n=>?_) λ_ _ h'=>h'))))
   obtain⟨m,G,n⟩:=n
   exact bF (wpAny_comp_letGo (cenv:={cenv with scope:=relabel scope env}) b _ z m D G λh' B o l=>a9 (n h' B o l))
 |error x=>cases use<;>exact y.elim
end
section
variable{prog:Program}{w:World}{A:Around}{R:Result→Shared→Prop}{s:Shared}{env:Env}
abbrev oS:Value→Shared→Prop:=λ_ _=>False
theorem oT(env:Env):∀ifs:List Expr,(forIn ifs false λc r=>if r=true then do let ok←isTrue c env (eval c env);pure (ForInStep.yield ok)else pure (ForInStep.yield r))=(pure false:Sem Bool)
 |[]=>rfl
 |c::r=>by rw[List.forIn_cons];simp only[Bool.false_eq_true,if_false,pure_bind];exact oT env r
theorem vq(env:Env):∀ifs:List Expr,(forIn ifs true λc r=>if r=true then do let ok←isTrue c env (eval c env);pure (ForInStep.yield ok)else pure (ForInStep.yield r))=(allTrue .And ifs env:Sem Bool)
 |[]=>rfl
 |c::ifs=>by
  show _=(do match BoolOp.And,←isTrue c env (eval c env)with| .And,false=>pure false| .Or,true=>pure true|_,_=>allTrue .And ifs env)
  rw[List.forIn_cons]
  simp only[if_true,bind_assoc,pure_bind]
  refine bind_congr λb=>?_
  cases b with
  |true=>exact vq env ifs
  |false=>exact oT env ifs
theorem Jk(ifs:List Expr){Q:Bool→Shared→Prop}{E:Value→Shared→Prop}{s:Shared}(h:aX (model prog w) A (allTrue .And ifs env) Q E s):
  aX (model prog w) A (forIn ifs true λc r=>if r=true then do let ok←isTrue c env (eval c env);pure (ForInStep.yield ok)else pure (ForInStep.yield r)) Q E s:=by
 rw[vq];exact h
theorem Ax{elt target iter:Expr}{ifs:List Expr}{scope:Scope}{pos:Pos}{it acc:Value}(I:Nat→Shared→Prop)
  (turn:∀n s,I n s→aX (model prog w) A (pyNext it) (λr d=>match r with
   |none=>R (.ok .next) d
   |some v=>aX (model prog w) A (letOwnedTupleGo target it v) (λ_ c=>aX (model prog w) A (assign target env v) (λ_ g=>
     aX (model prog w) A (allTrue .And ifs env) (λok b=>
      if ok=true then aX (model prog w) A (eval elt env) (λx f=>
       aX (model prog w) A (call (.builtin "list.append") [acc,x]) (λ_ e=>∃m,m<n∧I m e) oS f) oS b
      else∃m,m<n∧I m b) oS g) oS c) oS d) oS s)
  (n:Nat)(h:I n s):cq (model prog w) A (.compLoop (.ListComp elt [⟨target,iter,ifs,0⟩] scope pos) 0 it acc env) R s:=by
 refine Br rfl rfl I (λn s u=>?_) n h
 show aX _ A ((compTurn (.ListComp elt [⟨target,iter,ifs,0⟩] scope pos) 0 it acc env).onRaise (λx=>do noteFrame x env;theTreesLotGoes x)) _ _ s
 refine xk ?_
 rw[compTurn_list]
 have a:∀{q:Type}{t:Sem q}{Q:q→Shared→Prop}{E:Value→Shared→Prop}{s:Shared},aX (model prog w) A t Q oS s→aX (model prog w) A t Q E s:=λh=>fu h (λ_ _ x=>x) λ_ _ x=>x.elim
 refine bz (bG (a (turn n s u)) λr d j=>?_)
 cases r with
 |none=>exact a9 j
 |some v=>
  refine bG (a j) λ_ c k=>bG (a k) λ_ g p=>?_
  refine bG (Jk ifs (a p)) λok b i=>?_
  cases ok with
  |false=>exact a9 (.inl ⟨rfl,i⟩)
  |true=>exact bK (bG (a i) λx f o=>bG (a o) λ_ e l=>a9 (a9 (.inl ⟨rfl,l⟩)))
theorem xT{elt target iter:Expr}{ifs:List Expr}{scope:Scope}{pos:Pos}{it acc:Value}
  (a:cq (model prog w) A (.compLoop (.ListComp elt [⟨target,iter,ifs,0⟩] scope pos) 0 it acc env) R s)
  (hi:∀{Q:Value→Shared→Prop}{E:Value→Shared→Prop},Q it s→wpAny (model prog w) A (pyIter it) Q E s):
  cq (model prog w) A (.compStart (.ListComp elt [⟨target,iter,ifs,0⟩] scope pos) 0 it acc env) R s:=by
 refine iq ?_
 show aX _ _ ((compStart (.ListComp elt [⟨target,iter,ifs,0⟩] scope pos) 0 it acc env).onRaise (λx=>do noteFrame x env;standAt theWindowsPlace)) _ _ s
 refine nE ?_
 unfold compStart
 show aX _ _ (ask>>=_) _ _ s
 rw[Around.under_of_weight (c:=.compStart (.ListComp elt [⟨target,iter,ifs,0⟩] scope pos) 0 it acc env) rfl rfl]
 refine bF (wpAny_askSetting ?_)
 split
 ·first
   |exact bO (a9 ⟨rfl,rfl,a⟩)
   |exact a9 ⟨rfl,rfl,a⟩
 ·first
   |exact bF (wpAny_rule (bz (bF (hi (a9 ⟨rfl,rfl,a⟩)))))
   |(refine bF (wpAny_rule ?_);show aX _ _ (standAt iter.pos>>=_) _ _ s;exact bz (bF (hi (a9 ⟨rfl,rfl,a⟩))))
end
end Mine
end
section
open PySem PySem.W PyProof.Rows PySem.Calls Builtin
namespace Mine
open Nm
section
variable{prog:Program}{w:World}{A:Around}{R:Result→Shared→Prop}{s:Shared}{env:Env}
theorem Ay(h:R (.ok .next) s):cq (model prog w) A (.block [] env) R s:=.of (codeAny_block (wpAny_pure h))
theorem rE{a:Type}{t:Sem a}{Q:a→Shared→Prop}{E:Value→Shared→Prop}{s:Shared}(h:aX (model prog w) A t Q oS s):aX (model prog w) A t Q E s:=fu h (λ_ _ x=>x) λ_ _ x=>x.elim
theorem Cr{target:Expr}{it:Value}{body:List Stmt}(I:Nat→Shared→Prop)
  (turn:∀n s,I n s→aX (model prog w) A (pyNext it) (λr d=>match r with
   |none=>R (.ok .next) d
   |some v=>aX (model prog w) A (letOwnedTupleGo target it v) (λ_ c=>
     aX (model prog w) A (assign target env v) (λ_ e=>aX (model prog w) A (execs body env) (λf a=>match f with
      | .next| .cont=>∃m,m<n∧I m a
      | .brk=>R (.ok .next) a
      | .ret v=>R (.ok (.ret v)) a) oS e) oS c) oS d) oS s)
  (n:Nat)(h:I n s):cq (model prog w) A (.forLoop target it body [] env) R s:=by
 refine Br rfl rfl I (λn s k=>?_) n h
 show aX _ A ((forTurn target it body [] env).onRaise (λx=>do noteFrame x env;theTreesLotGoes x)) _ _ s
 refine xk ?_
 unfold forTurn
 refine bz (bK (nE (fu (turn n s k) (λr d g=>?_) λ_ _ h'=>h'.elim)))
 cases r with
 |none=>exact a9 (.inr ⟨rfl,rfl,Ay g⟩)
 |some v=>
  refine bG (rE g) λ_ c i=>bG (rE i) λ_ e j=>bG (rE j) λf a b=>?_
  cases f with
  |next=>exact a9 (.inl ⟨rfl,b⟩)
  |cont=>exact a9 (.inl ⟨rfl,b⟩)
  |brk=>exact a9 b
  |ret v=>exact a9 b
end
inductive Ib(H:Hp):MV→It→Prop where
 |l {k:Nat} {vs:List MV}:H.o .L k=.list vs→Ib H (.ref .L k) (.lst k 0)
 |s (vs:List MV):Ib H (.lst vs) (.nC vs)
 |t (vs:List MV):Ib H (.tup vs) (.tup vs)
 |b (bs:List UInt8):Ib H (.bytes bs) (.yM bs)
def M5(C:FC)(t:Sem Value)(ρ:Loc)(H:Hp)(i:It)(c:Hp):Prop:=
 ∀N s(Q:Value→Shared→Prop)(E:Value→Shared→Prop),aO C.G N H s→dU C N ρ s.heap→(∀x s' b Z,aO C.G b c s'→Ext YN N b s.heap s'.heap→Fx b s'.heap i x Z→(∀a,Z a→¬aR s.heap a)→Q x s')→aX (model pw C.G.w) C.A t Q E s
def Ic(d:Nat)(x:XE)(ρ:Loc)(H:Hp)(i:It)(a:Hp):Prop:=∀C p,FC.Ok C d→x.ok C.sc p=true→M5 C (eval (x.b p) C.env) ρ H i a
inductive e9(d:Nat)(t:XT)(b:List XS):Nat→It→Loc→Hp→Fl→Loc→Hp→Prop where
 |stop {n:Nat} {i:It} {ρ:Loc} {H:Hp}:Nd H i→e9 d t b n i ρ H .next ρ H
 |step {n:Nat} {i i':It} {v:MV} {ρ ρ1 xR ρ':Loc} {H H1 H2 H':Hp} {f:Fl}:Nx H i v i'→Au d t ρ H v ρ1 H1→gj d b ρ1 H1 .next xR H2→e9 d t b n i' xR H2 f ρ' H'→e9 d t b (n+1) i ρ H f ρ' H'
 |cont {n:Nat} {i i':It} {v:MV} {ρ ρ1 xR ρ':Loc} {H H1 H2 H':Hp} {f:Fl}:Nx H i v i'→Au d t ρ H v ρ1 H1→gj d b ρ1 H1 .cont xR H2→e9 d t b n i' xR H2 f ρ' H'→e9 d t b (n+1) i ρ H f ρ' H'
 |brk {n:Nat} {i i':It} {v:MV} {ρ ρ1 xR:Loc} {H H1 H2:Hp}:Nx H i v i'→Au d t ρ H v ρ1 H1→gj d b ρ1 H1 .brk xR H2→e9 d t b (n+1) i ρ H .next xR H2
 |ret {n:Nat} {i i':It} {v r:MV} {ρ ρ1 xR:Loc} {H H1 H2:Hp}:Nx H i v i'→Au d t ρ H v ρ1 H1→gj d b ρ1 H1 (.ret r) xR H2→e9 d t b (n+1) i ρ H (.ret r) xR H2
inductive Jl(d:Nat)(t:XE)(b:List XS):Nat→Loc→Hp→Fl→Loc→Hp→Prop where
 |stop {n:Nat} {ρ:Loc} {H H1:Hp}:ik d t ρ H false H1→Jl d t b (n+1) ρ H .next ρ H1
 |step {n:Nat} {ρ xR ρ':Loc} {H H1 H2 H':Hp} {f:Fl}:ik d t ρ H true H1→gj d b ρ H1 .next xR H2→Jl d t b n xR H2 f ρ' H'→Jl d t b (n+1) ρ H f ρ' H'
noncomputable def gA(t:XT):It→Bool
 | .lst _ _| .nC _=>true
 | .enum _ _=> !t.pl
 |_=>t.pl
section
variable{C:FC}{d:Nat}{N:cb}{H:Hp}{s:Shared}{ρ ρ1 ρ':Loc}{H1 H2 H3 H':Hp}{n:Nm}{mv v:MV}{f:Fl}{i i':It}{I J:Addr}{x:Value}
theorem eM{e:XE}(h:Ev d e ρ H v H1)(q:Ib H1 v i):Ic d e ρ H i H1:=λC p O z N s Q E I F k=>h C p O z N s _ _ I F λx r m c g j=>by
 have no:∀a,YN a→¬aR s.heap a:=λ_ q=>q.elim
 cases q with
 |l e=>exact have o:=cT c j e;o.2.2.elim λxs z=>z.elim λn z=>o.1▸k _ _ m YN c g (.lst _ xs n o.2.1 z.1) no
 |s vs=>exact j.d.elim λa z=>z.elim λxs z=>z.elim λn z=>z.1▸k _ _ m YN c g (.nC a xs ⟨z.2.2.1,z.2.2.2.1,n,z.2.1⟩ z.2.2.2.2) no
 |t vs=>exact j.d.elim λa z=>z.elim λxs z=>z.1▸k _ _ m YN c g (.tup a xs ⟨z.2.2.1,z.2.2.2.1,z.2.1⟩ z.2.2.2.2) no
 |b bs=>exact j.d.elim λt z=>z▸k _ _ m YN c g (.yM bs t) no
theorem qy{t:XT}(q:Nx H i mv i')(h:gA t i=true):gA t i'=true:=by cases q<;>exact h
theorem zb{es:List Expr}{kk:Nat}{ps:Pos}{l:Addr}{j:Nat}(hi:s.heap.IsListIter I l j){Q:Unit→Shared→Prop}{E:Value→Shared→Prop}(k:Q () s):wpAny (model pw C.G.w) C.A (letOwnedTupleGo (.Tuple es kk ps) (.ref I) x) Q E s:=by
 cases x with
 |ref a=>exact wpAny_letOwnedTupleGo_listiter hi k
 |_=>exact wpAny_pure k
theorem Cs{t:XT}{p:PT}(hk:gA t i=true)(In:aO C.G N H s)(M:Oa N s.heap I J x i){Q:Unit→Shared→Prop}{E:Value→Shared→Prop}
  (k:∀s',aO C.G N H s'→Ext (ZZ I J) N N s.heap s'.heap→r8 N s'.heap I J i→Q () s'):wpAny (model pw C.G.w) C.A (letOwnedTupleGo (t.b p) (.ref I) x) Q E s:=by
 cases hp:t.pl with
 |true=>
  rw[t.og hp]
  exact M.elim (λM=>wpAny_pure (k s In ((Ext.refl N s.heap).wk (λ_ q=>q.elim) λx q=>.inl ((M.2.marks x q).elim λ_ m=>m.1)) M.2)) λM=>M.elim λkk M=>M.elim λj M=>M.elim λa M=>M.elim λit M=>M.elim λo M=>by
   rw[M.1]at hk
   exact nomatch (show(!t.pl)=true from hk).symm.trans (congrArg _ hp)
 |false=>
  exact(t.tp hp p).elim λes q=>q.elim λkk q=>q.elim λps q=>q▸M.elim (λM=>by
   have same:=k s In ((Ext.refl N s.heap).wk (λ_ q=>q.elim) λx q=>.inl ((M.2.marks x q).elim λ_ m=>m.1)) M.2
   exact(match i,M,hk with
    | .lst _ _,M,_=>M.2.2.elim λo y=>zb ⟨o,y.1.2.2.1,y.2.1⟩ same
    | .nC _,M,_=>M.2.2.elim λo y=>y.elim λ_ y=>y.elim λ_ y=>y.elim λ_ y=>zb ⟨o,y.1.2.2.1,y.2.1⟩ same
    | .enum _ _,M,_=>nomatch M.1
    | .tup _,_,h=>nomatch (show t.pl=true from h).symm.trans hp
    | .ny _ _,_,h=>nomatch (show t.pl=true from h).symm.trans hp
    | .yM _,_,h=>nomatch (show t.pl=true from h).symm.trans hp))
   λM=>M.elim λkk M=>M.elim λj M=>M.elim λa M=>M.elim λitem M=>M.elim λo M=>M.2.1▸
    wpAny_letOwnedTupleGo_enum M.2.2.1.2.2.1 λh' hi c=>
     have m:=M.2.2.2.1
     have w:=In.xJ (Z:=ZZ I J) (h':=h') (λx q=>q.elim (λq=>q▸M.2.2.1.1) λq=>q▸m.1) (λx o q g=>(c.2 x λz=>q (.inl z)).trans g)
      (λx q=>q.elim (λq=>q▸⟨_,hi⟩) λq=>q▸⟨o,(c.2 J λz=>M.2.2.2.2.1 z.symm).trans m.2.2.1⟩) s.toks
     k _ w.1 w.2 (M.1▸⟨M.2.2.2.2.1,item,o,⟨M.2.2.1.1,M.2.2.1.2.1,hi,e8 rfl⟩,⟨m.1,m.2.1,(c.2 J λz=>M.2.2.2.2.1 z.symm).trans m.2.2.1,m.2.2.2⟩,M.2.2.2.2.2.1,M.2.2.2.2.2.2⟩)
end
section
variable{C:FC}{d:Nat}{N:cb}{H:Hp}{s:Shared}{ρ ρ1 ρ':Loc}{H1 H2 H3 H':Hp}{n:Nm}{mv v:MV}{f:Fl}{i i':It}{I J:Addr}{x:Value}
noncomputable def g6(t:XT)(e:XE)(b:XB):XS:=⟨λp=>.For (t.b (sub p 0)) (e.b (sub p 1)) (b.b (sub p 2)) [] (pS p),λsc p=>t.ok sc (sub p 0)&&(e.ok sc (sub p 1)&&b.ok sc (sub p 2))⟩
def Jm(C:FC)(N:cb)(h:Heap)(d:Nat)(t:XT)(b:List XS)(I J:Addr)(f:Fl)(ρ':Loc)(H':Hp)(n:Nat)(s':Shared):Prop:=
 ∃e c a i',aO C.G e c s'∧dU C e a s'.heap∧Ext (fK C) N e h s'.heap∧r8 e s'.heap I J i'∧gA t i'=true∧e9 d t b n i' a c f ρ' H'
def Az(C:FC)(N:cb)(h:Heap)(f:Fl)(ρ':Loc)(H':Hp)(r:Result)(s':Shared):Prop:=match r with
 | .ok fl=>∃a,Ao a s'.heap f fl∧aO C.G a H' s'∧Ext (fK C) N a h s'.heap∧dU C a ρ' s'.heap
 | .error _=>False
noncomputable def Jn(C:FC)(t:XT)(b:List XS)(p q:PT)(I:Addr)(R0:Shared→Prop)(P:Flow→Shared→Prop)(r:Option Value)(a:Shared):Prop:=match r with
 |none=>R0 a
 |some v=>aX (model pw C.G.w) C.A (letOwnedTupleGo (t.b p) (.ref I) v) (λ_ c=>
   aX (model pw C.G.w) C.A (assign (t.b p) C.env v) (λ_ e=>aX (model pw C.G.w) C.A (execs (y5 b q 0) C.env) P oS e) oS c) oS a
noncomputable def LO(C:FC)(e:cb)(c:Heap)(d:Nat)(t:XT)(b:List XS)(I J:Addr)(f:Fl)(ρ':Loc)(H':Hp)(m:Nat)(h:Flow)(a:Shared):Prop:=match h with
 | .next| .cont=>∃g,g<m∧Jm C e c d t b I J f ρ' H' g a
 | .brk=>Az C e c f ρ' H' (.ok .next) a
 | .ret v=>Az C e c f ρ' H' (.ok (.ret v)) a
theorem Ao.inv{N:cb}{h:Heap}{f:Fl}{fl:Flow}(r:Ao N h f fl):match f with
  | .next=>fl=.next
  | .brk=>fl=.brk
  | .cont=>fl=.cont
  | .ret v=>∃u,RV N h v u∧fl=.ret u:=by cases r<;>first|rfl|exact⟨_,‹_›,rfl⟩
theorem tQ(O:C.Ok d)(E:C.env.scope=C.sc){K:cb}{r:Heap}{t:XT}{b:List XS}{p q:PT}(X:t.ok C.sc p=true)(Y:pf b C.sc q 0=true)(F0:∀x,lg C x→aR r x)(m:∀x,K.own x≠ .no→aR r x)(dead:∀x,ZZ I J x→¬aR r x)
  {u:cb}{L:Hp}{j:Loc}{D B:It}{mv:MV}{h g:Loc}{W V:Hp}{S:Fl}(I5:aO C.G u L s)(F5:dU C u j s.heap)(x5:Ext (fK C) K u r s.heap)(R5:r8 u s.heap I J D)(y:gA t D=true){R0:Shared→Prop}{P:Flow→Shared→Prop}
  (nx:Nx L D mv B)(ht:Au d t j L mv h W)(hb:gj d b h W S g V)(k:∀fl c e,Ao e c.heap S fl→aO C.G e V c→dU C e g c.heap→Ext (fK C) K e r c.heap→r8 e c.heap I J B→gA t B=true→P fl c):
  aX (model pw C.G.w) C.A (pyNext (.ref I)) (Jn C t b p q I R0 P) oS s:=by
 have a:∀x,lg C x→¬ZZ I J x:=λx o z=>dead x z (F0 x o)
 have R:¬fK C I:=λz=>a I z.at (.inl rfl)
 have Q:¬fK C J:=λz=>a J z.at (.inr rfl)
 exact
  .of (y2 O I5 R5 nx λx s6 I6 U M6 r6=>
   have l:=qy nx y
   have F6:=F5.moved U a
   have x6:=x5.comp U (λx o=>.inr (dead x o)) m
   .of (Cs l I6 M6 λs7 I7 F R7=>
    have F7:=F6.moved F a
    have Z:=x6.comp F (λx o=>.inr (dead x o)) m
    ht C p O X u s7 x _ _ I7 F7 (r6.ext F) λs8 N8 I8 T F8=>
     have R8:=R7.ext T R Q
     hb C q 0 O E Y N8 s8 _ _ I8 F8 λfl c e f9 I9 M F9=>k fl c e f9 I9 F9 ((Z.trans T).trans M) (R8.ext M R Q) l))
theorem Ct(O:C.Ok d)(k:C.env.scope=C.sc){K:cb}{l:Heap}{t:XT}{b:List XS}{p q:PT}(R:t.ok C.sc p=true)(T:pf b C.sc q 0=true)(Q:∀x,lg C x→aR l x)(e:∀x,K.own x≠ .no→aR l x)(dead:∀x,ZZ I J x→¬aR l x){m:Nat}(S:Jm C K l d t b I J f ρ' H' m s):
  aX (model pw C.G.w) C.A (pyNext (.ref I)) (Jn C t b p q I (Az C K l f ρ' H' (.ok .next)) (LO C K l d t b I J f ρ' H' m)) oS s:=by
 obtain⟨X,Z,L,V,h,j,M,g,a,D⟩:=S
 have y:∀x,lg C x→¬ZZ I J x:=λx W z=>dead x z (Q x W)
 exact D.casesOn (motive:=λm V L Z f ρ' H' _=>aO C.G X Z s→dU C X L s.heap→r8 X s.heap I J V→gA t V=true→aX (model pw C.G.w) C.A (pyNext (.ref I)) (Jn C t b p q I (Az C K l f ρ' H' (.ok .next)) (LO C K l d t b I J f ρ' H' m)) oS s)
  (λnd h j g a=>.of (y4 O h g nd λN6 s6 I6 Y _=>⟨N6,.next,I6,M.comp Y (λx W=>.inr (dead x W)) e,j.moved Y y⟩))
  (λnx ht hb D h j g a=>tQ O k R T Q e dead h j M g a nx ht hb λfl U B r E F o P c=>(Ao.inv r:fl=.next)▸⟨_,Nat.lt_succ_self _,B,_,_,_,E,F,o,P,c,D⟩)
  (λnx ht hb D h j g a=>tQ O k R T Q e dead h j M g a nx ht hb λfl U B r E F o P c=>(Ao.inv r:fl=.cont)▸⟨_,Nat.lt_succ_self _,B,_,_,_,E,F,o,P,c,D⟩)
  (λnx ht hb h j g a=>tQ O k R T Q e dead h j M g a nx ht hb λfl U B r E F o P c=>(Ao.inv r:fl=.brk)▸⟨B,.next,E,o,F⟩)
  (λnx ht hb h j g a=>tQ O k R T Q e dead h j M g a nx ht hb λfl U B r E F o P c=>(Ao.inv r).elim λu p=>p.2▸⟨B,.ret p.1,E,o,F⟩)
  h j g a
theorem dQ{t:XT}{e:XE}{b:List XS}{m:Nat}(h:Ic d e ρ H i H1)(ok:gA t i=true)(D:e9 d t b m i ρ H1 f ρ' H'):eu d (g6 t e (xB b)) ρ H f ρ' H':=λC p O A z N s Q E I F k=>by
 show aX _ _ (exec (.For (t.b (sub p 0)) (e.b (sub p 1)) (y5 b (sub p 2) 0) [] (pS p)) C.env) _ _ _
 rw[exec_For]
 exact bz (bK (h C _ O (aV (aF z)) N s _ _ I F λx T U Z M l B c=>(e.fo (sub p 1) C.env x).symm▸bO (bz (bK (b0 (.of (y1 O M B λG a b' P L o R2 j=>
  have g:=l.trans o
  have dead:∀y,ZZ a b' y→¬aR s.heap y:=λy u=>(j y u).elim (c y) λq w=>q (l.al y w λz=>z)
  yN (rQ (R:=Az C N s.heap f ρ' H') (Cr (Jm C N s.heap d t b a b' f ρ' H') (λm s' S=>Ct O A (aV z) (aF (aF z)) F.al I.hp.lt dead S) m ⟨G,H1,ρ,i,L,F.ext g,g.fU F,R2,ok,D⟩) λr s' h'=>by
   cases r with
   |ok fl=>exact h'.elim λK h'=>k fl s' K h'.1 h'.2.1 h'.2.2.1 h'.2.2.2
   |error _=>exact h'.elim) rfl nofun)))))))
end
section
variable{C:FC}{d:Nat}{N:cb}{H:Hp}{s:Shared}{ρ ρ1 ρ':Loc}{H1 H2 H3 H':Hp}{n:Nm}{mv v:MV}{f:Fl}{i i':It}{I J:Addr}{x:Value}
noncomputable def xU(t:XE)(b:XB):XS:=⟨λp=>.While (t.b (sub p 0)) (b.b (sub p 1)) [] (pS p),λsc p=>t.ok sc (sub p 0)&&b.ok sc (sub p 1)⟩
def OB(C:FC)(N:cb)(h:Heap)(d:Nat)(t:XE)(b:List XS)(f:Fl)(ρ':Loc)(H':Hp)(n:Nat)(s':Shared):Prop:=
 ∃e c a,aO C.G e c s'∧dU C e a s'.heap∧Ext (fK C) N e h s'.heap∧Jl d t b n a c f ρ' H'
theorem Cu{t:XE}{b:List XS}{m:Nat}(D:Jl d t b m ρ H f ρ' H'):eu d (xU t (xB b)) ρ H f ρ' H':=λC p O A z N s Q E I F k=>
 IJ (rQ (R:=Az C N s.heap f ρ' H') (xo (OB C N s.heap d t b f ρ' H') (λm s' S=>by
  obtain⟨q,T,u,r,a,l,D⟩:=S
  cases D with
  |stop ht=>exact ht C _ O (aV z) q s' _ _ r a λc o h j e g=>Am g (iQ ⟨h,.next,j,l.trans (e.fU a),a.ext e⟩)
  |step ht hb D=>exact ht C _ O (aV z) q s' _ _ r a λc o h j e g=>xI g (hb C _ 0 O A (aF z) h o _ _ j (a.ext e) λfl P G B L w M=>by
    cases B;exact⟨_,Nat.lt_succ_self _,G,_,_,L,M,(l.trans (e.fU a)).trans w,D⟩)) m ⟨N,H,ρ,I,F,(Ext.refl N s.heap).fU F,D⟩) λy s' h'=>by
   cases y with
   |ok fl=>exact h'.elim λK h'=>k fl s' K h'.1 h'.2.1 h'.2.2.1 h'.2.2.2
   |error _=>exact h'.elim)
end
theorem mem_of_lookup{a b:Type}[BEq a][LawfulBEq a]{k:a}{v:b}{l:List (a×b)}(h:l.lookup k=some v):(k,v)∈l:=by
 induction l with
 |nil=>cases h
 |cons e r ih=>
  rw[List.lookup_cons]at h
  cases q:k==e.1 with
  |true=>rw[q]at h;cases h;rw[beq_iff_eq.mp q];exact .head _
  |false=>rw[q]at h;exact .tail _ (ih h)
noncomputable def rz(x:Str):Nm:=⟨num x.cps.toList⟩
noncomputable def tR:ScopeKind→Bool
 | .function=>true
 |_=>false
theorem nW{k:ScopeKind}(h:tR k=true):k=.function:=by cases k<;>first|rfl|cases h
noncomputable def AA:Option NameKind→Bool
 |some .cell|some .free=>true
 |_=>false
noncomputable def Jo(sc s:Scope)(ns:List Nm)(x:Str×NameKind):Bool:=s.names.lookup x.1==some x.2&&(match x.2 with
 | .local=> !(((rz x.1).str==x.1)&& !(ns.any λn=>n.c.beq (rz x.1).c))
 | .free=>(rz x.1).str==x.1&&AA (ba sc x.1)
 | .globalImplicit=>true
 |_=>false)
noncomputable def Cv(sc s:Scope)(ns:List Nm):Bool:=tR s.kind&&s.names.all (Jo sc s ns)
structure qz(sc s:Scope)(ns:List Nm):Prop where
 k:s.kind=.function
 names:∀x∈s.names,s.names.lookup x.1=some x.2∧(x.2=.local∨x.2=.free∨x.2=.globalImplicit)
 loc:∀n:Nm,ba s n.str=some .local→∃m∈ns,m=n
 free:∀x∈s.names,x.2=.free→∃n:Nm,n.str=x.1∧AA (ba sc n.str)=true
theorem Cw(n:Nm):rz n.str=n:=by
 cases n with
 |mk c=>exact congrArg Nm.mk (sU c c (Nat.le_refl _))
theorem LP{sc s:Scope}{ns:List Nm}(h:Cv sc s ns=true):qz sc s ns:=by
 have a:=List.all_eq_true.mp (aF h)
 refine⟨nW (aV h),λx m=>⟨beq_iff_eq.mp (aV (a x m)),?_⟩,λn q=>?_,λx m e=>?_⟩
 ·have z:=aF (a x m)
  revert z
  cases x.2 with
  |«local»=>exactλ_=>.inl rfl
  |free=>exactλ_=>.inr (.inl rfl)
  |globalImplicit=>exactλ_=>.inr (.inr rfl)
  |_=>exactλz=>nomatch z
 ·have z:(!(((rz n.str).str==n.str)&& !(ns.any λm=>m.c.beq (rz n.str).c)))=true:=aF (a (n.str,.local) (mem_of_lookup q))
  rw[Cw,beq_self_eq_true,Bool.true_and,Bool.not_not]at z
  exact(List.any_eq_true.mp z).imp λm y=>⟨y.1,fp.mp y.2⟩
 ·obtain⟨x,k⟩:=x
  cases e
  have z:((rz x).str==x&&AA (ba sc x))=true:=aF (a (x,.free) m)
  exact⟨rz x,beq_iff_eq.mp (aV z),(beq_iff_eq.mp (aV z)).symm▸aF z⟩
noncomputable def jV(env:Env):List (Str×NameKind)→List (Str×Addr)→List (Str×Addr)
 |[],cs=>cs
 |(n,k)::r,cs=>jV env r (if k==.free then(n,(env.cells.lookup n).getD 0)::cs else cs)
theorem vr{scope:Scope}{env:Env}(h:∀x∈scope.names,x.2=.free→(env.cells.lookup x.1).isSome=true):closureFor scope env=pure (jV env scope.names []):=by
 have:∀(l:List (Str×NameKind))(cs:List (Str×Addr)),(∀x∈l,x.2=.free→(env.cells.lookup x.1).isSome=true)→
   (forIn l cs λx cs=>if(x.2==.free)=true then do let c←cellOf env x.1;pure (ForInStep.yield ((x.1,c)::cs))else pure (ForInStep.yield cs))=(pure (jV env l cs):Sem _):=by
  intro l
  induction l with
  |nil=>intro cs _;rfl
  |cons x r ih=>
   intro cs hl
   obtain⟨n,k⟩:=x
   rw[List.forIn_cons]
   by_cases hk:k=.free
   ·subst hk
    obtain⟨c,e⟩:=Option.isSome_iff_exists.mp (hl (n,.free) (List.mem_cons_self ..) rfl)
    have b:cellOf env n=pure c:=by unfold cellOf;rw[e]
    rw[if_pos (beq_self_eq_true _),b,pure_bind,pure_bind]
    show forIn r ((n,c)::cs) _=pure (jV env r ((n,(env.cells.lookup n).getD 0)::cs))
    rw[e]
    exact ih _ λy a=>hl y (List.mem_cons_of_mem _ a)
   ·have:(k==NameKind.free)=false:=beq_eq_false_iff_ne.mpr hk
    rw[if_neg (by rw[this];exact Bool.false_ne_true),pure_bind]
    show forIn r cs _=pure (jV env r (if(k==NameKind.free)=true then _ else cs))
    rw[this]
    exact ih _ λy a=>hl y (List.mem_cons_of_mem _ a)
 have h2:=this scope.names [] h
 unfold closureFor
 exact(congrArg (· >>=pure) h2).trans rfl
theorem nX{env:Env}{l:List (Str×NameKind)}:∀{cs:List (Str×Addr)},(∀x∈l,x.2=.free→(env.cells.lookup x.1).isSome=true)→(∀n c,cs.lookup n=some c→env.cells.lookup n=some c)→∀n c,(jV env l cs).lookup n=some c→env.cells.lookup n=some c:=by
 induction l with
 |nil=>exactλ_ h=>h
 |cons e r ih=>
  intro cs hl h
  refine ih (λx a=>hl x (List.mem_cons_of_mem _ a)) λn c q=>?_
  split at q
  ·rename_i hk
   rw[List.lookup_cons]at q
   cases z:n==e.1 with
   |true=>
    rw[z]at q
    cases q
    rw[beq_iff_eq.mp z]
    exact(Option.isSome_iff_exists.mp (hl e (List.mem_cons_self ..) (beq_iff_eq.mp hk))).elim λc b=>b▸rfl
   |false=>rw[z]at q;exact h n c q
  ·exact h n c q
theorem sg{env:Env}{l:List (Str×NameKind)}{n:Str}:∀{cs:List (Str×Addr)},(n,NameKind.free)∈l∨(cs.lookup n).isSome=true→((jV env l cs).lookup n).isSome=true:=by
 induction l with
 |nil=>exactλh=>h.elim (λh=>nomatch h) id
 |cons e r ih=>
  intro cs h
  refine ih (h.elim (λh=>(List.mem_cons.mp h).elim (λq=>.inr ?_) .inl) λh=>.inr ?_)
  ·cases q;rw[if_pos (beq_self_eq_true _),List.lookup_cons,beq_self_eq_true];rfl
  ·split
   ·rw[List.lookup_cons]
    cases n==e.1 with
    |true=>rfl
    |false=>exact h
   ·exact h
theorem tS(b:Str→Bool)(l:List (Str×NameKind))(x:Str):(l.map λ(n,k)=>if(k==NameKind.free&&b n)then(n,NameKind.cell)else(n,k)).lookup x=(l.lookup x).map λk=>if(k==NameKind.free&&b x)then .cell else k:=by
 induction l with
 |nil=>rfl
 |cons e r ih=>
  have q:(if(e.2==NameKind.free&&b e.1)=true then(e.1,NameKind.cell)else(e.1,e.2))=(e.1,if(e.2==NameKind.free&&b e.1)=true then NameKind.cell else e.2):=by split<;>rfl
  show List.lookup x ((if(e.2==NameKind.free&&b e.1)=true then(e.1,NameKind.cell)else(e.1,e.2))::_)=_
  rw[q,List.lookup_cons,List.lookup_cons]
  cases a:x==e.1 with
  |true=>rw[beq_iff_eq.mp a];rfl
  |false=>exact ih
section
variable{C:FC}{d:Nat}{s:Scope}{ns:List Nm}
noncomputable def gB(C:FC)(s:Scope)(L:Addr):FC:={G:=C.G,env:=compEnvC s (jV C.env s.names []) L C.env,sc:=s,fr:=C.fr,A:=C.A}
theorem AB(C:FC)(s:Scope)(L:Addr)(x:Str):(gB C s L).env.kindOf x=(s.names.lookup x).map λk=>if(k==NameKind.free&&(C.env.scope.kind==.function&&C.env.kindOf x==some .cell))then .cell else k:=by
 have:=tS (λn=>C.env.scope.kind==.function&&C.env.kindOf n==some .cell) s.names x
 simp only[←Bool.and_assoc]at this⊢
 exact this
theorem FC.Ok.cf(O:C.Ok d){n:Nm}(h:AA (ba C.sc n.str)=true):C.env.kindOf n.str=some .cell∨C.env.kindOf n.str=some .free:=by
 have o:=O.scope n
 cases q:ba C.sc n.str with
 |none=>rw[q]at h;cases h
 |some k=>
  rw[q]at h o
  cases k with
  |cell=>exact .inl o
  |free=>exact o
  |_=>cases h
theorem qA(O:C.Ok d)(F:qz C.sc s ns):∀x∈s.names,x.2=.free→(C.env.cells.lookup x.1).isSome=true:=λx a e=>(F.free x a e).elim λn q=>q.1▸O.gr n (O.cf q.2)
theorem i8(F:qz C.sc s ns)(L:Addr)(n:Nm):(ba s n.str=some .local∧(gB C s L).env.kindOf n.str=some .local)∨(ba s n.str=some .free∧((gB C s L).env.kindOf n.str=some .cell∨(gB C s L).env.kindOf n.str=some .free))∨
  (ba s n.str=some .globalImplicit∧(gB C s L).env.kindOf n.str=some .globalImplicit)∨(ba s n.str=none∧(gB C s L).env.kindOf n.str=none):=by
 have k:=AB C s L n.str
 cases q:ba s n.str with
 |none=>exact .inr (.inr (.inr ⟨rfl,by rw[k,show s.names.lookup n.str=none from q];rfl⟩))
 |some v=>
  rw[show s.names.lookup n.str=some v from q]at k
  refine(F.names (n.str,v) (mem_of_lookup q)).2.elim (λe=>.inl ?_) λe=>e.elim (λe=>.inr (.inl ?_)) λe=>.inr (.inr (.inl ?_))
  ·cases(show v=.local from e);exact⟨rfl,k⟩
  ·cases(show v=.free from e)
   refine⟨rfl,?_⟩
   rw[k,Option.map_some]
   split
   ·exact .inl rfl
   ·exact .inr rfl
  ·cases(show v=.globalImplicit from e);exact⟨rfl,k⟩
theorem zc(O:C.Ok d)(F:qz C.sc s ns)(L:Addr):(gB C s L).Ok d:=by
 have sub:=nX (qA O F) (cs:=[]) λ_ _ h=>nomatch h
 refine{G:=O.G,hA:=O.hA,hd:=O.hd,guards:=O.guards,kind:=F.k,scope:=λn=>?_,glob:=O.glob,blt:=O.blt,room:=O.room,units:=O.units,lb:=λn m c f h2=>O.lb n m c (sub _ _ f) (sub _ _ h2),gr:=λn h=>?_,code:=λh=>?_}
 ·show match ba s n.str with|some .local=>_|some .cell=>_|some .free=>_|some .globalImplicit=>_|_=>_
  rcases i8 F L n with q|q|q|q<;>rw[q.1]<;>first|exact q.2|trivial
 ·refine sg (.inl ?_)
  rcases i8 F L n with q|q|q|q
  ·rw[q.2]at h;exact h.elim (λh=>nomatch h) λh=>nomatch h
  ·exact mem_of_lookup q.1
  ·rw[q.2]at h;exact h.elim (λh=>nomatch h) λh=>nomatch h
  ·rw[q.2]at h;exact h.elim (λh=>nomatch h) λh=>nomatch h
 ·obtain⟨x,b,a⟩:=List.any_eq_true.mp h
  have e:x.2=.cell:=beq_iff_eq.mp a
  have:=(F.names x b).2
  rw[e]at this
  exact this.elim (λh=>nomatch h) λh=>h.elim (λh=>nomatch h) λh=>nomatch h
theorem xV(O:C.Ok d)(F:qz C.sc s ns){N:cb}{ρ:Loc}{h:Heap}{L:Addr}{m:Str→Option Value}(f:dU C N ρ h)(e:∀n∈ns,look n ρ=none)(oL:N.own L=.t)(gL:h.Ns L m)(j:C.G.h₀.get? L=none)(i:L∉ff):dU (gB C s L) N ρ h:=by
 have sub:=nX (qA O F) (cs:=[]) λ_ _ h=>nomatch h
 refine⟨λx q=>q.elim (λq=>q▸⟨oL,i,j⟩) λq=>q.elim (λq=>q.elim λn q=>f.ok x (.inr (.inl ⟨n,sub _ _ q⟩))) λq=>f.ok x (.inr (.inr q)),⟨m,gL,λn v a b=>?_⟩,λn c q=>(f.cells n c (sub _ _ q)).imp λov g=>⟨g.1,λv a b=>g.2 v a ?_⟩,f.frames⟩
 ·rcases i8 F L n with q|q|q|q
  ·exact(F.loc n q.1).elim λm y=>nomatch (y.2▸e m y.1).symm.trans a
  ·rw[b]at q;exact q.2.elim (λh=>nomatch h) λh=>nomatch h
  ·rw[b]at q;exact nomatch q.2
  ·rw[b]at q;exact nomatch q.2
 ·rcases i8 F L n with q|q|q|q
  ·rw[q.2]at b;exact b.elim (λh=>nomatch h) λh=>nomatch h
  ·exact(F.free _ (mem_of_lookup q.1) rfl).elim λk y=>O.cf (str_inj y.1▸y.2)
  ·rw[q.2]at b;exact b.elim (λh=>nomatch h) λh=>nomatch h
  ·rw[q.2]at b;exact b.elim (λh=>nomatch h) λh=>nomatch h
end
noncomputable def vt:Nm:=⟨12334⟩
def Ie(d:Nat)(t:XT)(ns:List Nm)(ρ:Loc)(v:MV)(ρ':Loc):Prop:=∀C p,FC.Ok C d→(∀n∈ns,C.env.kindOf n.str=some .local)→∀H N s x(Q:Unit→Shared→Prop)(E:Value→Shared→Prop),aO C.G N H s→dU C N ρ s.heap→RV N s.heap v x→
 (∀s',aO C.G N H s'→Ext (· =C.env.locals) N N s.heap s'.heap→dU C N ρ' s'.heap→Q () s')→aX (model pw C.G.w) C.A (assign (t.b p) C.env x) Q E s
section
variable{C:FC}{d:Nat}{N:cb}{H:Hp}{s:Shared}{ρ ρ1 ρ':Loc}{H1 H2 H3 H':Hp}{n:Nm}{mv v:MV}{f:Fl}{i i':It}{I J:Addr}{x:Value}
theorem gw:Ie d (bE n) [n] ρ v (put n v ρ):=λC p O hk H N s x Q E I F r k=>.of (wpAny_assign_Name (gk O.kind I F (hk n (.head _)) r λs' a b e=>k s' a e b))
theorem LQ{C:FC}(O:C.Ok d){ns:List Nm}{p:PT}:∀{i:Nat}{vs:List MV}{xs:List Value}{s:Shared}{ρ:Loc},(∀n∈ns,C.env.kindOf n.str=some .local)→ns.length=vs.length→aO C.G N H s→dU C N ρ s.heap→dE N s.heap vs xs→
  ∀{Q:Unit→Shared→Prop}{E:Value→Shared→Prop},(∀s',aO C.G N H s'→Ext (· =C.env.locals) N N s.heap s'.heap→dU C N (bindAll ns vs ρ) s'.heap→Q () s')→wpAny (model pw C.G.w) C.A (assignInOrder ((assignEach (bT (ns.map bE) p i) C.env).map (·.2)) xs) Q E s:=by
 induction ns with
 |nil=>exactλ{i vs xs s ρ} hk hl I F r Q E k=>(show dE N s.heap [] xs from List.eq_nil_of_length_eq_zero hl.symm▸r).nil_eq▸assignInOrder_nil (k s I ((Ext.refl N s.heap).wk (λ_ q=>q.elim) λz q=>.inl (q▸(F.ok _ (.inl rfl)).1)) F)
 |cons n ns ih=>
  intro i vs xs s ρ hk hl I F r Q E k
  cases vs with
  |nil=>cases hl
  |cons v vs=>
   exact r.split.elim λu q=>q.elim λus q=>q.1▸assignInOrder_cons (wpAny_assign_Name (gk O.kind I F (hk n (List.mem_cons_self ..)) q.2.1 λo h l a=>
    ih (λm e=>hk m (List.mem_cons_of_mem _ e)) (Nat.succ.inj hl) h l (q.2.2.ext a) λc g b j=>k c g (a.trans b) j))
theorem LR{ns:List Nm}{vs:List MV}(hl:ns.length=vs.length):Ie d (et (ns.map bE)) ns ρ (.tup vs) (bindAll ns vs ρ):=λC p O hk H N s x Q E I F r k=>
 r.d.elim λa q=>q.elim λxs q=>q.1▸(show aX _ _ (assign (.Tuple (bT (ns.map bE) p 0) (pK p) (pE p)) C.env (.ref a)) _ _ _ from by
  rw[assign_Tuple]
  unfold unpack
  rw[(mD C.env (ts:=ns.map bE)).1,(mD C.env (ts:=ns.map bE)).2,show(ns.map bE).length=xs.toArray.size from(List.length_map _).trans (hl.trans q.2.2.2.2.1.symm)]
  exact bz (bF (wpAny_holding (unpackItems_tuple O.hd q.2.1 λh' b=>
   have e0:=Ext.ir N (iz b)
   .of (LQ O hk hl (I.ir (iz b) s.toks) (F.ext e0) (q.2.2.2.2.ext e0) λe g c h=>k e g ((e0.wk (Y':=(· =C.env.locals)) (λ_ q=>q.elim) λz q=>.inl (q▸(F.ok _ (.inl rfl)).1)).trans c) h)))))
end
inductive rA(d:Nat)(t:XT)(ns:List Nm)(ifs:List XE)(e:XE)(ρ:Loc):Nat→It→Hp→List MV→Hp→Prop where
 |stop {n:Nat} {i:It} {H:Hp}:Nd H i→rA d t ns ifs e ρ n i H [] H
 |yes {n:Nat} {i i':It} {v y:MV} {ys:List MV} {ρ1:Loc} {H H1 H2 H':Hp}:Nx H i v i'→Ie d t ns ρ v ρ1→jS d .And ifs ρ1 H true H1→Ev d e ρ1 H1 y H2→rA d t ns ifs e ρ n i' H2 ys H'→rA d t ns ifs e ρ (n+1) i H (y::ys) H'
 |no {n:Nat} {i i':It} {v:MV} {ys:List MV} {ρ1:Loc} {H H1 H':Hp}:Nx H i v i'→Ie d t ns ρ v ρ1→jS d .And ifs ρ1 H false H1→rA d t ns ifs e ρ n i' H1 ys H'→rA d t ns ifs e ρ (n+1) i H ys H'
theorem vu{xs:Array Value}{n:Nat}:¬f_ (listOf xs n):=λq=>absurd q.1 (show¬Value.type "list" =Value.type "frame" by decide)
structure hB(C:FC)(N0:cb)(h0:Heap)(ρ:Loc)(D L:Addr)(done:List MV)(N:cb)(h:Heap):Prop where
 F:dU C N ρ h
 x:Ext YN N0 N h0 h
 l:∃ys n,Mk N h D (listOf ys.toArray n)∧dE N h done ys
 oL:N.own L=.t
 gL:∃m,h.Ns L m
section
variable{C:FC}{d:Nat}{N N0 N':cb}{h0 h h':Heap}{Z:Addr→Prop}{done:List MV}{D L:Addr}{ρ:Loc}
theorem hB.go(k:hB C N0 h0 ρ D L done N h)(b:∀x,lg C x→aR h0 x)(lt:∀x,N0.own x≠ .no→aR h0 x)(e:Ext Z N N' h h')(a:∀x,Z x→¬aR h0 x∧x≠D)(oL:N'.own L=.t)(gL:∃m,h'.Ns L m):hB C N0 h0 ρ D L done N' h':=
 ⟨k.F.moved e λx q z=>(a x z).1 (b x q),k.x.comp e (λx q=>.inr (a x q).1) lt,k.l.imp λys l=>l.imp λn l=>⟨l.1.ext e λz=>(a D z).2 rfl,l.2.ext e⟩,oL,gL⟩
theorem hB.moved(k:hB C N0 h0 ρ D L done N h)(b:∀x,lg C x→aR h0 x)(lt:∀x,N0.own x≠ .no→aR h0 x)(e:Ext Z N N' h h')(a:∀x,Z x→¬aR h0 x∧x≠D∧x≠L):hB C N0 h0 ρ D L done N' h':=
 k.go b lt e (λx z=>⟨(a x z).1,(a x z).2.1⟩) ((e.own L (k.gL.elim λ_ g=>f' g) λz=>(a L z).2.2 rfl).trans k.oL) (k.gL.imp λm g=>s_ e g k.oL λz=>(a L z).2.2 rfl)
theorem dE.snoc{vs:List MV}{xs:List Value}{v:MV}{x:Value}(r:dE N h vs xs)(a:RV N h v x):dE N h (vs++[v]) (xs++[x]):=r.append (.cons a .nil)
end
def CompI(C:FC)(N0:cb)(h0:Heap)(d:Nat)(t:XT)(ns:List Nm)(ifs:List XE)(e:XE)(I J D L:Addr)(ρ:Loc)(vs:List MV)(c:Hp)(m:Nat)(s':Shared):Prop:=
 ∃N' a b done rest,aO C.G N' a s'∧hB C N0 h0 ρ D L done N' s'.heap∧r8 N' s'.heap I J b∧gA t b=true∧rA d t ns ifs e ρ m b a rest c∧vs=done++rest
def Cx(C:FC)(N0:cb)(h0:Heap)(D L:Addr)(ρ:Loc)(vs:List MV)(a:Hp)(r:Result)(s':Shared):Prop:=match r with
 | .ok _=>∃N',aO C.G N' a s'∧hB C N0 h0 ρ D L vs N' s'.heap
 | .error _=>False
structure M7(h0:Heap)(I J D L:Addr):Prop where
 it:∀x,ZZ I J x→¬aR h0 x∧x≠D∧x≠L
 nD:¬aR h0 D
 nL:¬aR h0 L
 ne:L≠D
section
variable{C:FC}{d:Nat}{N:cb}{H:Hp}{s:Shared}{ρ ρ1 ρ':Loc}{H1 H2 H3 H':Hp}{n:Nm}{mv v:MV}{f:Fl}{i i':It}{I J D L:Addr}{x:Value}
noncomputable def Cy(C:FC)(sc:Scope)(L:Addr)(t:XT)(ifs:List XE)(p q:PT)(j:Nat)(I:Addr)(R0:Shared→Prop)(P:Bool→Shared→Prop)(y:Option Value)(a:Shared):Prop:=match y with
 |none=>R0 a
 |some v=>aX (model pw C.G.w) C.A (letOwnedTupleGo (t.b p) (.ref I) v) (λ_ c=>aX (model pw C.G.w) C.A (assign (t.b p) (gB C sc L).env v) (λ_ e=>
   aX (model pw C.G.w) C.A (allTrue .And (bL ifs q j) (gB C sc L).env) P oS e) oS c) oS a
noncomputable def Ig(C:FC)(sc:Scope)(k:cb)(j:Heap)(d:Nat)(t:XT)(ns:List Nm)(ifs:List XE)(e:XE)(I J D L:Addr)(ρ:Loc)(vs:List MV)(H':Hp)(r:PT)(m:Nat)(ok:Bool)(a:Shared):Prop:=
 if ok=true then aX (model pw C.G.w) C.A (eval (e.b r) (gB C sc L).env) (λx g=>
   aX (model pw C.G.w) C.A (call (.builtin "list.append") [.ref D,x]) (λ_ c=>∃h,h<m∧CompI C k j d t ns ifs e I J D L ρ vs H' h c) oS g) oS a
  else∃h,h<m∧CompI C k j d t ns ifs e I J D L ρ vs H' h a
theorem zd(O:C.Ok d){sc:Scope}{ns:List Nm}(CF:qz C.sc sc (vt::ns))(hl:∀n∈ns,ba sc n.str=some .local)(T:∀n∈vt::ns,look n ρ=none){B:cb}{h:Heap}{t:XT}{ifs:List XE}{p q:PT}{j:Nat}(zi:xe ifs sc q j=true)(K:∀x,lg C x→aR h x)
  (a:∀x,B.own x≠ .no→aR h x)(ap:M7 h I J D L)(tL:L∉ff)(hL:C.G.h₀.get? L=none){r:cb}{E:Hp}{S R:It}{done:List MV}(I5:aO C.G r E s)(K5:hB C B h ρ D L done r s.heap)(R5:r8 r s.heap I J S)(Q:gA t S=true){mv:MV}{c:Loc}{H9:Hp}{b:Bool}{R0:Shared→Prop}{P:Bool→Shared→Prop}
  (nx:Nx E S mv R)(ht:Ie d t ns ρ mv c)(hb:jS d .And ifs c E b H9)(k:∀e l,aO C.G l H9 e→hB C B h ρ D L done l e.heap→dU (gB C sc L) l c e.heap→r8 l e.heap I J R→gA t R=true→P b e):
  aX (model pw C.G.w) C.A (pyNext (.ref I)) (Cy C sc L t ifs p q j I R0 P) oS s:=by
 have U:=zc O CF L
 have y:∀{x},ZZ I J x→¬x=L:=λz=>(ap.it _ z).2.2
 exact
  .of (y2 O I5 R5 nx λx s6 I6 e6 M6 r6=>
   have u:=qy nx Q
   have K6:=K5.moved K a e6 ap.it
   .of (Cs u I6 M6 λs7 I7 e7 R7=>
    have K7:=K6.moved K a e7 ap.it
    K7.gL.elim λm7 g7=>
    ht (gB C sc L) p U (λn hn=>(show match ba sc n.str with|some .local=>_|some .cell=>_|some .free=>_|some .globalImplicit=>_|_=>_ from U.scope n)|>λo=>by rw[hl n hn]at o;exact o) E r s7 x _ _ I7 (xV O CF K7.F T K7.oL g7 hL tL) (r6.ext e7) λW I8 X V=>
     have K8:hB C B h ρ D L done r W.heap:=K7.go K a (Z:=(· =L)) X (λx z=>z▸⟨ap.nL,ap.ne⟩) K7.oL (V.ns.imp λm g=>g.1)
     have R8:=R7.ext (Y:=(· =L)) X (y (.inl rfl)) (y (.inr rfl))
     hb (gB C sc L) q j U zi r W _ _ I8 V λb e l I9 M p9=>(show b=_ from p9)▸k e l I9 (K8.moved K a M λ_ z=>z.elim) (V.ext M) (R8.ext M id id) u))
theorem AD(O:C.Ok d){sc:Scope}{ns:List Nm}(CF:qz C.sc sc (vt::ns))(hl:∀n∈ns,ba sc n.str=some .local)(P:∀n∈vt::ns,look n ρ=none){K:cb}{u:Heap}{t:XT}{ifs:List XE}{e:XE}{p q r:PT}{j:Nat}(zi:xe ifs sc q j=true)(ze:e.ok sc r=true)(R:∀x,lg C x→aR u x)
  (k:∀x,K.own x≠ .no→aR u x)(ap:M7 u I J D L)(tL:L∉ff)(hL:C.G.h₀.get? L=none){vs:List MV}(hv:vs.length≤1000){m:Nat}(S:CompI C K u d t ns ifs e I J D L ρ vs H' m s):
  aX (model pw C.G.w) C.A (pyNext (.ref I)) (Cy C sc L t ifs p q j I (Cx C K u D L ρ vs H' (.ok .next)) (Ig C sc K u d t ns ifs e I J D L ρ vs H' r m)) oS s:=by
 obtain⟨N5,H5,U,done,rest,E,K5,B,b,D5,a⟩:=S
 have O':=zc O CF L
 exact D5.casesOn (motive:=λm U H5 rest H' _=>aO C.G N5 H5 s→r8 N5 s.heap I J U→gA t U=true→vs=done++rest→aX (model pw C.G.w) C.A (pyNext (.ref I)) (Cy C sc L t ifs p q j I (Cx C K u D L ρ vs H' (.ok .next)) (Ig C sc K u d t ns ifs e I J D L ρ vs H' r m)) oS s)
  (λnd E B b a=>.of (y4 O E B nd λN6 s6 I6 e6 _=>⟨N6,I6,(a.trans (List.append_nil _))▸K5.moved R k e6 ap.it⟩))
  (λnx ht hb he D6 E B b a=>zd O CF hl P zi R k ap tL hL E K5 B b nx ht hb λs9 X I9 Z F9 V y=>xI rfl (he (gB C sc L) r O' ze X s9 _ _ I9 F9 λx OZ Y OD M T=>
   have h:=Z.moved R k M λ_ z=>z.elim
   have W:=V.ext M id id
   h.l.elim λys l=>l.elim λn l=>.of (append_at l.1.2.2.1 (λO0 o Q=>
    have c:=gO l.1.1 o
    ⟨_,Nat.lt_succ_self _,Y,_,_,done++[_],_,OD.va l.1.1 o ⟨_,Q⟩ _,⟨h.F.moved c λx q z=>ap.nD (z▸R x q),h.x.comp c (λx z=>.inr (z▸ap.nD)) k,⟨ys++[x],n+1,⟨l.1.1,l.1.2.1,by rw[Q,List.push_toArray],vu⟩,(l.2.ext c).snoc (T.ext c)⟩,h.oL,h.gL.imp λm g=>s_ c g h.oL ap.ne⟩,
     W.ext c (ap.it I (.inl rfl)).2.1 (ap.it J (.inr rfl)).2.1,y,D6,a.trans (List.append_cons _ _ _)⟩)
    (by rw[List.size_toArray,l.2.1];exact small (Nat.le_trans (Nat.le_trans (Nat.le_add_right _ _) (Nat.le_of_eq ((congrArg List.length a).trans List.length_append).symm)) hv)))))
  (λnx ht hb D6 E B b a=>zd O CF hl P zi R k ap tL hL E K5 B b nx ht hb λs9 X I9 Z F9 V y=>Am rfl ⟨_,Nat.lt_succ_self _,X,_,_,_,_,I9,Z,V,y,D6,a⟩)
  E B b a
end
noncomputable def M8:Expr→Scope
 | .ListComp _ _ s _=>s
 | .Lambda _ _ s _=>s
 |_=>default
noncomputable def uY(p:PT):Scope:=M8 (p []).e
noncomputable def eb(t:XT)(ns:List Nm)(i:XE)(ifs:List XE)(e:XE):XE:={b:=λp=>.ListComp (e.b (sub p 0)) [⟨t.b (sub p 1),i.b (sub p 2),bL ifs p 3,0⟩] (uY p) (pE p),ok:=λsc p=>i.ok sc (sub p 2)&&(Cv sc (uY p) (vt::ns)&&(ns.all (λn=>isLocal (ba (uY p) n.str))&&(xe ifs (uY p) p 3&&e.ok (uY p) (sub p 0)))),cp:=false}
section
variable{C:FC}{d:Nat}{N:cb}{H:Hp}{s:Shared}{ρ ρ1 ρ':Loc}{H1 H2 H3 H':Hp}{n:Nm}{mv v:MV}{f:Fl}{j:It}{I J D L:Addr}{x:Value}
theorem xW{h:Heap}{c:Cl}{k:Nat}{a b:Addr}:RV (N.add c k a b) h (.ref c k) (.ref a):=by
 have r:=RV.ref (N:=N.add c k a b) (h:=h) c k (cb.rW.symm▸cb.yS)
 rw[cb.rW]at r
 exact r
theorem jW{h a:Heap}{o:Obj}(c:Heap.SameBut h.objs.size (h.push o) a):∀b o,h.get? b=some o→a.get? b=some o:=λb o g=>(c.2 b (show aR h b from⟨o,g⟩).ne).trans (Heap.get?_push_of_some _ g)
theorem vv(O:C.Ok d){t:XT}{ns:List Nm}{i:XE}{ifs:List XE}{e:XE}{p:PT}(z:(eb t ns i ifs e).ok C.sc p=true)(OE:∀n∈vt::ns,look n ρ=none)(hi:Ic d i ρ H j H1)(ok:gA t j=true){vs:List MV}{m:Nat}(cp:rA d t ns ifs e ρ m j H1 vs H')(hv:vs.length≤1000)
  {use:Option (Value→Sem Unit)}{Q:Value→Shared→Prop}{E:Value→Shared→Prop}(In:aO C.G N H s)(F:dU C N ρ s.heap)
  (fin:∀fl N' D L s',aO C.G N' H' s'→hB C N s.heap ρ D L vs N' s'.heap→¬aR s.heap D→¬aR s.heap L→L≠D→za (model pw C.G.w) C.A E use Q (.ref D) L (.ok fl) s'):
  aX (model pw C.G.w) C.A (comprehension ((eb t ns i ifs e).b p) (uY p) C.env (i.b (sub p 2)).pos (newList []) false (eval (i.b (sub p 2)) C.env) use) Q E s:=by
 have W:=LP (aV (aF z))
 have hl:∀n∈ns,ba (uY p) n.str=some .local:=λn hn=>jU (List.all_eq_true.mp (aV (aF (aF z))) n hn)
 refine qx (g:=⟨t.b (sub p 1),i.b (sub p 2),bL ifs p 3,0⟩) rfl (λx=>i.fo _ _ _) (vr (qA O W)) W.k (λx hx e=>(W.names x hx).1.trans (congrArg some e)) rfl ?_
 refine hi C _ O (aV z) N s _ _ In F λx s1 N1 Z I1 x1 S1 U=>.of (y1 O I1 S1 λN2 a b M I2 x2 R2 hd2=>.of (wpAny_newObj_type ?_))
 have B:=x1.trans x2
 have dead:∀y,ZZ a b y→¬aR s.heap y:=λy K=>(hd2 y K).elim (U y) λq w=>q (x1.al y w λz=>z)
 have X:∀y,ZZ a b y→aR M.heap y:=λy K=>(R2.marks y K).elim λo m=>⟨o,m.2.2.1⟩
 obtain⟨V,T,M3⟩:=lz O I2 (o:=listOf ([]:List Value).toArray 0) rfl vu M.toks
 have nD:=cj M.heap
 have R3:=R2.ext T id id
 show aX _ _ _ _ _ {M with heap:=M.heap.push (listOf ([]:List Value).toArray 0)}
 revert V T M3 R3
 generalize M.heap.push (listOf ([]:List Value).toArray 0)=c
 generalize M.heap.objs.size=D at nD⊢
 generalize N2.upd (λx=>x=D) .t=N3
 intro V T M3 R3
 refine .of (wpAny_newFunctionEnv (λx hx e=>(W.names x hx).2.elim (λq=>nomatch q.symm.trans e) λq=>q.elim (λq=>nomatch q.symm.trans e) λq=>nomatch q.symm.trans e) (λy K=>nomatch K) (λh4 l P=>?_) W.k)
 dsimp only at l P⊢
 have nL:=cj c
 have tL:c.objs.size∉ff:=gS O V
 have k4:=jW P
 have I4:=V.mark (· =c.objs.size) k4 (λy q=>q▸⟨nL,tL,f' l⟩) (M.toks+([]:List (Str×Value)).length)
 have Y:=Ext.yU V (· =c.objs.size) k4 (λy q=>q▸nL)
 have u:¬aR s.heap c.objs.size:=λq=>nL (T.al _ (B.al _ q λz=>z) λz=>z)
 have OF:C.G.h₀.get? c.objs.size=none:=match q:C.G.h₀.get? c.objs.size with
  |none=>rfl
  |some o=>absurd q (V.yT nL tL o)
 have LD:c.objs.size≠D:=λq=>nL (q▸⟨_,M3.2.2.1⟩)
 have ap:M7 s.heap a b D c.objs.size:=⟨λy K=>⟨dead y K,λq=>nD (q▸X y K),λq=>nL (q▸T.al y (X y K) λz=>z)⟩,λq=>nD (B.al _ q λz=>z),u,LD⟩
 have R4:=R3.ext Y id id
 have K4:hB C N s.heap ρ D c.objs.size [] (N3.upd (λx=>x=c.objs.size) .t) h4:=
  ⟨((F.ext B).ext T).ext Y,(B.trans T).trans Y,⟨[],0,M3.ext Y id,.nil⟩,if_pos rfl,⟨_,l⟩⟩
 show cq _ _ (.compStart ((eb t ns i ifs e).b p) 0 (.ref a) (.ref D) (gB C (uY p) c.objs.size).env) _ _
 refine rQ (R:=Cx C N s.heap D c.objs.size ρ vs H') (xT (it:=.ref a) (Ax (CompI C N s.heap d t ns ifs e a b D c.objs.size ρ vs H') (λm s' S=>
   AD O W hl OE (aV (aF (aF (aF z)))) (aF (aF (aF (aF z)))) F.al In.hp.lt ap tL OF hv S) m ⟨_,_,j,[],vs,I4,K4,R4,ok,cp,rfl⟩) λ{Q E} h=>Ce R4 h) λr s' h'=>?_
 cases r with
 |ok fl=>exact h'.elim λN' h'=>fin fl N' D _ s' h'.1 h'.2 ap.nD u LD
 |error _=>exact h'.elim
theorem vw{c:cb}{a:Heap}{vs:List MV}(I:aO C.G N H s)(K:hB C c a ρ D L vs N s.heap)(nD:¬aR a D)(e:L≠D)(lt:∀x,c.own x≠ .no→aR a x)(h:∀x,lg C x→aR a x){P:Prop}
  (k:∀b,aO C.G b H s→dU C b ρ s.heap→Ext YN c b a s.heap→RV b s.heap (.lst vs) (.ref D)→b.own L=.t→P):P:=
 K.l.elim λys l=>l.elim λn l=>
  have u:=y3 (Z:=(· =D)) I (h':=s.heap) (λx q=>q▸l.1.1) (λx o q g=>g) s.toks
  k _ u.1 (K.F.moved u.2 λx q z=>nD (z▸h x q)) (K.x.comp u.2 (λx q=>.inr (q▸nD)) lt) (.lst ys n l.1.2.2.1 (if_pos rfl) l.1.2.1 (l.2.ext u.2).1 (l.2.ext u.2).2) ((if_neg e).trans K.oL)
theorem Jp{b:cb}{a h':Heap}{g:Str→Option Value}(I:aO C.G N H s)(x:Ext YN b N a s.heap)(oL:N.own L=.t)(nL:¬aR a L)(lt:∀x,b.own x≠ .no→aR a x)(h:h'.Ns L g)(c:Heap.SameBut L s.heap h'):aO C.G N H {s with heap:=h'}∧Ext YN b N a h'∧Ext (· =L) N N s.heap h':=
 have e:=gO oL c
 ⟨I.va oL c (f' h) s.toks,x.comp e (λy q=>.inr (q▸nL)) lt,e⟩
theorem fD{t:XT}{ns:List Nm}{i:XE}{ifs:List XE}{e:XE}(a:∀n∈vt::ns,look n ρ=none)(hi:Ic d i ρ H j H1)(ok:gA t j=true){vs:List MV}{m:Nat}(cp:rA d t ns ifs e ρ m j H1 vs H')(o:vs.length≤1000):Ev d (eb t ns i ifs e) ρ H (.lst vs) H':=λC p O z N s Q E I F k=>
 show aX _ _ (eval (.ListComp _ _ _ _) C.env) _ _ _ from eval_ListComp _ _ _ _▸vv O z a hi ok cp o I F λ_ A D L s' w K nD nL r=>K.gL.elim λm g=>⟨m,g,λh' y c b=>vw w K nD r I.hp.lt F.al λq u B h l oL=>
  have g:=Jp u h oL nL I.hp.lt c b
  k _ _ q g.1 g.2.1 (l.ext g.2.2)⟩
end
noncomputable def qB{b:Type}(lt:Nat→Nat→Bool):KasT b→b
 | .ret a=>a
 | .ask i j k=>qB lt (k (lt i j))
noncomputable def K'{a:Type}(n:Nat):KasT a→Bool
 | .ret _=>true
 | .ask i j k=>decide (i<n)&&decide (j<n)&&K' n (k true)&&K' n (k false)
theorem Cz:∀n,n<6→2≤n→K' n (kas_sort n)=true:=by
 intro n a h2
 have:n=2∨n=3∨n=4∨n=5:=by omega
 rcases this with rfl|rfl|rfl|rfl<;>decide+kernel
noncomputable def CA{b:Type}(p:b→Bool):KasT b→Bool
 | .ret a=>p a
 | .ask i j k=>CA p (k true)&&CA p (k false)
theorem qC{b:Type}{p:b→Bool}{lt:Nat→Nat→Bool}:∀{t:KasT b},CA p t=true→p (qB lt t)=true
 | .ret a,h=>h
 | .ask i j k,h=>by
  simp only[CA,Bool.and_eq_true]at h
  show p (qB lt (k (lt i j)))=true
  cases lt i j
  ·exact qC h.2
  ·exact qC h.1
theorem vx{n:Nat}(a:n≤5)(h2:2≤n){lt:Nat→Nat→Bool}:∀i∈(qB lt (kas_sort n)).toList,i<n:=by
 have key:CA (λp:Array Nat=>p.toList.all λi=>decide (i<n)) (kas_sort n)=true:=by
  have:n=2∨n=3∨n=4∨n=5:=by omega
  rcases this with rfl|rfl|rfl|rfl<;>decide+kernel
 have:=qC (lt:=lt) key
 intro i hi
 exact of_decide_eq_true (List.all_eq_true.mp this i hi)
theorem vy{c:Type}{cmp:Nat→Nat→(Bool→Shared→Prop)→Shared→Prop}{lt:Nat→Nat→Bool}{n:Nat}{hp:Heap}{g:Array GenState}{d:Drawn}{os:OsState}{Q:c→Shared→Prop}
  (e:∀i j b C,i<n→j<n→(∀b,C (lt i j) ⟨hp,g,d,b,os⟩)→cmp i j C ⟨hp,g,d,b,os⟩):∀(t:KasT c)(b:Nat),K' n t=true→(∀b,Q (qB lt t) ⟨hp,g,d,b,os⟩)→t.kasWp cmp Q ⟨hp,g,d,b,os⟩
 | .ret a,b,_,h=>h b
 | .ask i j k,b,hi,h=>by
  simp only[K',Bool.and_eq_true,decide_eq_true_eq]at hi
  refine e i j b _ hi.1.1.1 hi.1.1.2 λb=>?_
  have hk:K' n (k (lt i j))=true:=by cases lt i j;exact hi.2;exact hi.1.2
  exact vy e (k (lt i j)) b hk h
section
variable{prog:Program}{w:World}{A:Around}{E:Value→Shared→Prop}{s:Shared}{a:Addr}{vs:List Value}
theorem tT{n:Nat}{P:PySem.Fin→Shared→Prop}{R:Array Nat→Shared→Prop}(r:s.heap.get? a=some (seqObj "list" vs.toArray n))(h2:2≤vs.length)(v:vs.length<64)
  (h:∀g h',h'.get? a=some (seqObj "list" #[] g)→(∀b o,b≠a→s.heap.get? b=some o→h'.get? b=some o)→
   wpAny (model prog w) A (keyKind' vs.toArray) (λz s'=>(kas_sort vs.length).kasWp (kas_ask prog w A z vs) (λp f=>f.heap.get? a=some (seqObj "list" #[] g)∧∀h2 c,h2.get? a=some (listOf (List.toArray (p.toList.map λi=>vs.getD i Value.none)) c)→Heap.SameBut a f.heap h2→P (.done (.ret .none)) {f with heap:=h2}) s') (λ_ _=>False) {s with heap:=h'}):
  wpAny (model prog w) A (Builtin.«list.sort» ⟨[.ref a],[]⟩) P E s:=by
 have I:a<s.heap.objs.size:=Heap.lt_size r
 have C:=Heap.SameBut.update s.heap a (Obj.mapSeq λ_=>(#[]:Array Value))
 obtain⟨g,l⟩:∃g,(s.heap.update a (Obj.mapSeq λ_=>(#[]:Array Value))).get? a=some (seqObj "list" #[] g):=⟨_,get?_update_seq r λ_=> #[]⟩
 have ask:=h g (((s.heap.update a (Obj.mapSeq λ_=>(#[]:Array Value))).push (seqObj "tuple" vs.toArray 0)).push (seqObj "list" #[] 0)) (Heap.get?_push_of_some _ (Heap.get?_push_of_some _ l)) λb o hb q=>Heap.get?_push_of_some _ (Heap.get?_push_of_some _ ((C.2 b hb).trans q))
 rw[list_sort_plain]
 refine wpAny_bind (listItems_at r rfl ?_)
 refine wpAny_bind (listUpdate_at r rfl ?_ (by rw[List.size_toArray,sizeLine_eq];omega) (Nat.zero_le _))
 refine wpAny_bind (seqEpoch_at l rfl ?_)
 refine wpAny_bind (wpAny_newTuple ?_ (by show vs.length≤_;rw[sizeLine_eq];omega))
 refine wpAny_bind (wpAny_newList ?_ (Nat.zero_le _))
 refine wpAny_holding ?_
 show wpAny (model prog w) A _ P E {s with heap:=((s.heap.update a (Obj.mapSeq λ_=>(#[]:Array Value))).push (seqObj "tuple" vs.toArray 0)).push (seqObj "list" #[] 0)}
 dsimp only
 have m:¬vs.toArray.size<2:=by rw[List.size_toArray];omega
 rw[if_neg m,if_neg m]
 refine wpAny_bind (wpAny_mono ask (λz s0 hk=>?_) λ_ _ x=>x.elim)
 refine wpAny_bind (wpAny_mono (kat_run (Q:=λd s'=>∃p:Array Nat,p.size=vs.length∧arrOf d=p.map (kas_item (vs.toArray.zip vs.toArray))∧failedOf d=none∧s'.heap.get? a=some (seqObj "list" #[] g)∧∀h2 c,h2.get? a=some (listOf (List.toArray (p.toList.map λi=>vs.getD i Value.none)) c)→Heap.SameBut a s'.heap h2→P (.done (.ret .none)) {s' with heap:=h2})
  rfl h2 v (λp' d s' H G F D=>⟨p',H,G,F,D⟩) hk) ?_ λ_ _ e=>e)
 rintro⟨⟨⟩,d⟩ s' ⟨p,hp,u,hf,na,k⟩
 dsimp only
 have j:=kat_snds rfl u
 have hsz:(List.toArray (p.toList.map λi=>vs.getD i Value.none)).size=vs.length:=by rw[List.size_toArray,List.length_map,Array.length_toList,hp]
 rw[j]
 have B:=Heap.SameBut.update s'.heap a (Obj.mapSeq λ_=>List.toArray (p.toList.map λi=>vs.getD i Value.none))
 obtain⟨y,t⟩:∃y,(s'.heap.update a (Obj.mapSeq λ_=>List.toArray (p.toList.map λi=>vs.getD i Value.none))).get? a=some (seqObj "list" (List.toArray (p.toList.map λi=>vs.getD i Value.none)) y):=⟨_,get?_update_seq na λ_=>List.toArray (p.toList.map λi=>vs.getD i Value.none)⟩
 refine wpAny_bind (seqEpoch_at na rfl ?_)
 refine wpAny_bind (listUpdate_at na rfl ?_ (Nat.zero_le _) (Nat.le_trans (Nat.le_of_eq hsz) (by rw[sizeLine_eq];omega)))
 rw[hf]
 simp only[bne_self_eq_false,Bool.false_eq_true,if_false]
 exact wpAny_pure (k _ y t B)
theorem AE{l:Addr}{Q:Value→Shared→Prop}(hl:s.heap.IsList l vs.toArray)(h2:2≤vs.length)(k:vs.length<64)
  (h:∀j h',h'.get? (s.heap.objs.size+1)=some (seqObj "list" #[] j)→(∀b o,s.heap.get? b=some o→h'.get? b=some o)→
   wpAny (model prog w) A.in1.in1 (keyKind' vs.toArray) (λn s'=>(kas_sort vs.length).kasWp (kas_ask prog w A.in1.in1 n vs) (λp d=>d.heap.get? (s.heap.objs.size+1)=some (seqObj "list" #[] j)∧∀h2 c,h2.get? (s.heap.objs.size+1)=some (listOf (List.toArray (p.toList.map λi=>vs.getD i Value.none)) c)→Heap.SameBut (s.heap.objs.size+1) d.heap h2→Q (.ref (s.heap.objs.size+1)) {d with heap:=h2}) s') (λ_ _=>False) {s with heap:=h'}):
  wpAny (model prog w) A (call (.builtin "sorted") [.ref l]) Q E s:=by
 refine Calls.call_function_entry kind_sorted plain_sorted entry_sorted (args_sorted1 _) ?_
 unfold Builtin.«sorted»
 refine wpAny_bind (m:=checkCount "sorted" 1 1 _) (wpAny_pure ?_)
 refine wpAny_bind (collect_list hl ?_ (by rw[sizeLine_eq];omega))
 refine wpAny_bind (wpAny_newList ?_ (by rw[sizeLine_eq];omega))
 have hsz:((s.heap.push (seqObj "list" #[] 0)).update s.heap.objs.size (Obj.mapSeq (· ++vs.toArray))).objs.size=s.heap.objs.size+1:=by
  rw[Heap.size_update,size_push']
 have f:(((s.heap.push (seqObj "list" #[] 0)).update s.heap.objs.size (Obj.mapSeq (· ++vs.toArray))).push (seqObj "list" vs.toArray 0)).get? (s.heap.objs.size+1)=some (seqObj "list" vs.toArray 0):=by
  rw[←hsz];exact Heap.get?_push_size _ rfl
 have keep:∀b o,s.heap.get? b=some o→(((s.heap.push (seqObj "list" #[] 0)).update s.heap.objs.size (Obj.mapSeq (· ++vs.toArray))).push (seqObj "list" vs.toArray 0)).get? b=some o:=λb o q=>by
  have e:b<s.heap.objs.size:=Heap.lt_size q
  rw[Heap.get?_push_ne _ _ _ (by rw[hsz];exact Nat.ne_of_lt (Nat.lt_succ_of_lt e)),Heap.get?_update_ne _ _ _ _ (Nat.ne_of_lt e),Heap.get?_push_ne _ _ _ (Nat.ne_of_lt e)]
  exact q
 show wpAny _ _ _ _ _ {s with heap:=((s.heap.push (seqObj "list" #[] 0)).update s.heap.objs.size (Obj.mapSeq (· ++vs.toArray))).push (seqObj "list" vs.toArray 0)}
 rw[hsz]
 refine wpAny_bind (wpAny_holding (wpAny_call_entry slot_list_sort ⟨_,f,rfl⟩ entry_list_sort ?body (args_list_sort _)))
 case body=>
  refine tT (R:=λ_ _=>True) (s:={s with heap:=((s.heap.push (seqObj "list" #[] 0)).update s.heap.objs.size (Obj.mapSeq (· ++vs.toArray))).push (seqObj "list" vs.toArray 0)}) f h2 k λj h' u r=>?_
  refine wpAny_mono (h j h' u λb o q=>r b o (Nat.ne_of_lt (Nat.lt_succ_of_lt (Heap.lt_size q))) (keep b o q)) (λn s' hk=>?_) λ_ _ x=>x
  rw[kat_ask_eq rfl]at hk⊢
  exact kas_wp_mono hk λp d g=>⟨g.1,λh2 c t sb=>⟨_,rfl,wpAny_pure ⟨_,rfl,g.2 h2 c t sb⟩⟩⟩
end
def CB(h:Heap)(u:Value)(p:Int×Int):Prop:=∃a o n c b,u=.ref a∧h.get? a=some o∧o.cls=.type "tuple"∧o.data=.seq #[.int p.1 c,.int p.2 b] n
inductive eo(h:Heap):List Value→List (Int×Int)→Prop where
 |nil:eo h [] []
 |cons {u:Value} {p:Int×Int} {us:List Value} {ps:List (Int×Int)}:CB h u p→eo h us ps→eo h (u::us) (p::ps)
theorem eo.len{h:Heap}{us:List Value}{ps:List (Int×Int)}(r:eo h us ps):us.length=ps.length:=by
 induction r with
 |nil=>rfl
 |cons _ _ ih=>simp[ih]
theorem eo.get{h:Heap}{us:List Value}{ps:List (Int×Int)}(r:eo h us ps):∀i,i<us.length→CB h (us.getD i Value.none) (ps.getD i (0,0)):=by
 induction r with
 |nil=>intro i hi;simp at hi
 |cons a _ ih=>
  intro i hi
  cases i with
  |zero=>simpa using a
  |succ i=>simpa using ih i (by simpa using hi)
theorem eo.keep{h h':Heap}(k:∀b o,h.get? b=some o→h'.get? b=some o){us:List Value}{ps:List (Int×Int)}(r:eo h us ps):eo h' us ps:=by
 induction r with
 |nil=>exact .nil
 |cons a _ ih=>obtain⟨a,o,n,d,c,f,h2,e⟩:=a;exact .cons ⟨a,o,n,d,c,f,k _ _ h2,e⟩ ih
noncomputable def FI(ps:List (Int×Int))(i j:Nat):Bool:=decide ((ps.getD i (0,0)).1<(ps.getD j (0,0)).1)
noncomputable def sortBy{b:Type}(ps:List (Int×Int))(d:b)(xs:List b):List b:=(qB (FI ps) (kas_sort ps.length)).toList.map λi=>xs.getD i d
theorem qD:∀{ps:List (Int×Int)}{i j:Nat},(ps.map (·.1)).Nodup→i<ps.length→j<ps.length→(ps.getD i (0,0)).1=(ps.getD j (0,0)).1→i=j
 |[],i,j,_,hi,_,_=>by simp at hi
 |p::ps,i,j,nd,hi,c,e=>by
  simp only[List.map_cons,List.nodup_cons]at nd
  have mem:∀k,k<ps.length→(ps.getD k (0,0)).1∈ps.map (·.1):=λk hk=>by
   refine List.mem_map.mpr ⟨ps.getD k (0,0),?_,rfl⟩
   have:ps.getD k (0,0)=ps[k]:=by simp[hk]
   rw[this];exact List.getElem_mem hk
  have e0:(p::ps).getD 0 (0,0)=p:=rfl
  have b:∀k,(p::ps).getD (k+1) (0,0)=ps.getD k (0,0):=λk=>rfl
  cases i with
  |zero=>
   cases j with
   |zero=>rfl
   |succ j=>rw[e0,b]at e;exact absurd (e▸mem j (by simpa using c)) nd.1
  |succ i=>
   cases j with
   |zero=>rw[e0,b]at e;exact absurd (e▸mem i (by simpa using hi)) nd.1
   |succ j=>
    rw[b,b]at e
    have:=qD nd.2 (by simpa using hi) (by simpa using c) e
    rw[this]
section
variable{prog:Program}{w:World}{A:Around}{E:Value→Shared→Prop}{s:Shared}
theorem CC{A:Around}{us:List Value}{ps:List (Int×Int)}{hp:Heap}{g:Array GenState}{d:Drawn}{os:OsState}(nd:(ps.map (·.1)).Nodup)(r:eo hp us ps){i j:Nat}{b:Nat}{C:Bool→Shared→Prop}(hi:i<us.length)(k:j<us.length)(h:∀b,C (FI ps i j) ⟨hp,g,d,b,os⟩):
  kas_ask prog w A (tuples' true) us i j C ⟨hp,g,d,b,os⟩:=by
 unfold kas_ask
 obtain⟨a,o,n,x,v,u,t,_,p⟩:=r.get i hi
 obtain⟨a',y,z,m,l,f,e,_,c⟩:=r.get j k
 rw[u,f]
 refine kat_lt t p e c (kat_cons (wpAny_eqBool_int ?_))
 by_cases q:(ps.getD i (0,0)).1=(ps.getD j (0,0)).1
 ·have:=qD nd (r.len▸hi) (r.len▸k) q
  subst this
  rw[beq_self_eq_true]
  refine kat_yes (kat_cons (wpAny_eqBool_int ?_))
  rw[beq_self_eq_true]
  refine kat_yes (kat_nil ?_)
  have:=h b
  unfold FI at this
  simpa using this
 ·rw[show((ps.getD i (0,0)).1==(ps.getD j (0,0)).1)=false from by simpa using q]
  exact kat_no (oneLt_int (h b))
theorem tU{l:Addr}{us:List Value}{ps:List (Int×Int)}{Q:Value→Shared→Prop}(hl:s.heap.IsList l us.toArray)(r:eo s.heap us ps)(nd:(ps.map (·.1)).Nodup)(h2:2≤ps.length)(M:ps.length≤5)
  (h:∀h' c k,h'.get? (s.heap.objs.size+1)=some (listOf (List.toArray (sortBy ps Value.none us)) c)→(∀b o,s.heap.get? b=some o→h'.get? b=some o)→Q (.ref (s.heap.objs.size+1)) {s with heap:=h',toks:=k}):
  wpAny (model prog w) A (call (.builtin "sorted") [.ref l]) Q E s:=by
 have hlen:=r.len
 refine AE hl (by omega) (by omega) λy h' F x=>?_
 obtain⟨L,g,d,t,os⟩:=s
 have u:=r.keep x
 have e:∀{us:List Value}{ps:List (Int×Int)},eo h' us ps→∃fs,KatTups h' us fs∧fs.length=us.length∧∀v∈fs,∃i t,v=.int i t:=λ{us ps} r=>by
  induction r with
  |nil=>exact⟨[],KatTups.nil,rfl,nofun⟩
  |cons a _ ih=>
   obtain⟨a,o,n,K,J,y,I,H,G⟩:=a
   obtain⟨fs,p,h2,m⟩:=ih
   subst y
   refine⟨_::fs,KatTups.cons I H G rfl p,by simp[h2],λv f=>?_⟩
   rcases List.mem_cons.mp f with rfl|f
   ·exact⟨_,_,rfl⟩
   ·exact m v f
 obtain⟨fs,p,D,m⟩:=e u
 refine kat_kind (T:=.type "int") p (by omega) (λv f=>?_) (by decide) ?_
 ·obtain⟨i,t,rfl⟩:=m v f
  exact Looks.of_pure rfl
 rw[show(Value.type "int" !=Value.type "tuple")=true from by decide]
 refine vy (lt:=FI ps) (n:=us.length) (λi j k C hi z B=>CC nd u hi z B) _ t (Cz _ (by omega) (by omega)) λk=>⟨F,λh2 c q sb=>?_⟩
 refine h h2 c k ?_ λb o q=>(sb.2 b (Nat.ne_of_lt (Nat.lt_succ_of_lt (Heap.lt_size q)))).trans (x b o q)
 rw[q]
 unfold sortBy
 rw[hlen]
end
end Mine
end
section
open PySem PySem.W PyProof.Rows PySem.Calls Builtin
open Sem (wp)
namespace Mine
open Nm
section
variable{prog:Program}{w:World}{A:Around}{E:Value→Shared→Prop}{s:Shared}{b:Array UInt8}{t:Tok}
def zf(b:Array UInt8)(i:Nat)(v:Value):Prop:=∃c u,b[i]? =some c∧v=.int (c.toNat:Int) u
theorem tV{R:Result→Shared→Prop}(p:A.handled=none)(S:Addr)(res:Value)(c₀:Nat)(k:s.heap.get? S=some {cls:=.type "list",data:=.seq #[] c₀})
  (q:∀h' l a c',(∀b o,b≠S→s.heap.get? b=some o→h'.get? b=some o)→h'.get? S=some {cls:=.type "list",dict:=none,data:=.seq a c',slots:= #[]}→
   ItemsOf (zf b) a b.size→R (.ok (.ret res)) {s with heap:=h',toks:=l})(n:b.size≤sizeLine):
  wpAny (model prog w) A.in1 (Builtin.List.listExtendWith (.ref S) (.bytes b t) res)
   (λfin s'=>match fin with| .done f=>R (.ok f) s'| .again c'=>c'.quiet=true∧codeAny (model prog w) A c' R s') (λe s'=>R (.error e) s') s:=by
 have i:S≠s.heap.objs.size:=Nat.ne_of_lt (Heap.lt_size k)
 have h:S∉[s.heap.objs.size]:=λg=>i (List.mem_singleton.mp g)
 unfold Builtin.List.listExtendWith
 refine wpAny_bind (wpAny_typeOf (typeIs_bytes s b t) ?_)
 have u:Builtin.List.listSameRef (.ref S) (.bytes b t)=false:=rfl
 have h2:(Value.type "bytes" ==Value.type "list")=false:=by decide
 have r:(Value.type "bytes" ==Value.type "tuple")=false:=by decide
 simp only[u,h2,r,Bool.or_false,Bool.false_eq_true,if_false]
 refine wpAny_bind (KBw.pyIter_bytes ?_)
 refine wpAny_bind (wpAny_holding ?_)
 unfold Builtin.List.listLengthHint
 refine wpAny_bind (wpAny_specialOf (typeIs_bytes _ b t) FB.slot_bytes_len.lookup ?_)
 wp_delta
 refine wpAny_bind (wpAny_isInstance (typeIs_bytes _ b t) F.bm_sub ?_)
 show wpAny _ _ (typeOf (Value.bytes b t)>>=_) _ _ _
 refine wpAny_bind (wpAny_typeOf (typeIs_bytes _ b t) ?_)
 refine wpAny_pure ?_
 rw[if_neg (by decide)]
 refine wpAny_pure ⟨plainId_quiet F.plain_extend_loop _,codeAny_extend_loopS (A:=A) (KBw.walks (prog:=prog) (w:=w) (A:=A.in1) p s.heap.objs.size b t).toS n _ h _ b.size 0 _ _ _ rfl (Nat.zero_le _) ⟨_,Heap.get?_push_size _ rfl,rfl,rfl⟩ (Heap.get?_push_of_some _ k) (ItemsOf.nil _) λs' a c' g j d=>?_⟩
 rw[Moved.eq_with g]
 refine q s'.heap s'.toks a c' (λb m hb e=>g.heap b m (λc=>?_) (Heap.get?_push_of_some _ e)) j d
 rcases List.mem_cons.mp c with e'|c
 ·exact hb e'
 ·exact absurd (Heap.lt_size e) (by rw[List.mem_singleton.mp c];exact Nat.lt_irrefl _)
theorem xX{R:Result→Shared→Prop}(l:A.handled=none)(S:Addr)(j:s.heap.get? S=some {cls:=.type "list",data:=.seq #[]})
  (m:∀h' g a c',(∀b o,b≠S→s.heap.get? b=some o→h'.get? b=some o)→h'.get? S=some {cls:=.type "list",dict:=none,data:=.seq a c',slots:= #[]}→
   ItemsOf (zf b) a b.size→R (.ok (.ret .none)) {s with heap:=h',toks:=g})(k:b.size≤sizeLine):
  wpAny (model prog w) A.in1 (Builtin.«list.__init__» ⟨[.ref S,.bytes b t],[]⟩)
   (λfin s'=>match fin with| .done f=>R (.ok f) s'| .again c'=>c'.quiet=true∧codeAny (model prog w) A c' R s') (λe s'=>R (.error e) s') s:=by
 show wpAny _ _ (do let old←Builtin.List.listItems (.ref S);Builtin.List.listUpdate (.ref S) (λ_=> #[]);letGo old.toList.reverse;Builtin.List.listExtendWith (.ref S) (.bytes b t) .none) _ _ s
 refine wpAny_bind ?_
 unfold Builtin.List.listItems
 refine wpAny_bind (wpAny_seqItems j rfl (wpAny_pure ?_))
 show wpAny _ _ (updateSeq S (λ_=> #[])>>=λ_=>letGo (#[]:Array Value).toList.reverse>>=λ_=>Builtin.List.listExtendWith (.ref S) (.bytes b t) .none) _ _ s
 refine wpAny_bind (wpAny_updateSeq j rfl ?_)
 have c:=Heap.get?_update_self (Obj.mapSeq (λ_=>(#[]:Array Value))) j rfl
 have h:∀b o,b≠S→s.heap.get? b=some o→(s.heap.update S (Obj.mapSeq (λ_=>(#[]:Array Value)))).get? b=some o:=
  λb o hb e=>(Heap.get?_update_other _ _ (Ne.symm hb)).trans e
 refine wpAny_bind (wpAny_letGo ?_)
 refine tV l S .none _ c (λh' g a c' hk i d=>?_) k
 exact m h' g a c' (λb o hb e=>hk b o hb (h b o hb e)) i d
theorem rB{Q:Value→Shared→Prop}(k:A.handled=none)(j:b.size≤sizeLine)
  (l:∀h' g a c',(∀b o,s.heap.get? b=some o→h'.get? b=some o)→
   h'.get? s.heap.objs.size=some {cls:=.type "list",dict:=none,data:=.seq a c',slots:= #[]}→ItemsOf (zf b) a b.size→Q (.ref s.heap.objs.size) {s with heap:=h',toks:=g}):
  wpAny (model prog w) A (call (.type "list") [.bytes b t]) Q E s:=by
 refine callType_codes (Q₁:=λobj c=>obj=.ref s.heap.objs.size∧c={s with heap:=s.heap.push {cls:=.type "list",data:=.seq #[]}}) F.called_list (F.typeCall_list_1 _) F.entry_list_init
  (code_list_new _ ⟨rfl,rfl⟩) λobj c d=>?_
 obtain⟨rfl,rfl⟩:=d
 have i:(s.heap.push {cls:=.type "list",data:=.seq #[]}).get? s.heap.objs.size=some {cls:=.type "list",data:=.seq #[]}:=Heap.get?_push_size _ rfl
 refine⟨⟨_,i,rfl⟩,F.args_list_init_2 _ _,xX (A:=A.in1) k _ i (λh' g a c' hk h f=>?_) j⟩
 exact⟨rfl,l h' g a c' (λb o e=>hk b o (Nat.ne_of_lt (Heap.lt_size e)) (Heap.get?_push_of_some _ e)) h f⟩
end
end Mine
end
section
open PySem PySem.W PyProof.Rows PySem.Calls Builtin
namespace Mine
open Nm
noncomputable def k1(ps:List (Int×Int)):List (Int×Int):=sortBy ps (0,0) ps
noncomputable def eT(p:Int×Int):MV:=.tup [.int p.1,.int p.2]
noncomputable def lB(x:UInt8):MV:=.int x.toNat
inductive Bi(H:Hp):Value→List MV→MV→Prop where
 |qE {v:MV} {vs:List MV}:LstAt H v vs→vs.length≤1000000→Bi H (.builtin "len") [v] (.int vs.length)
 |LS {k:Nat} {bs:List UInt8}:H.o .B k=.dD bs→bs.length≤1000000→Bi H (.builtin "len") [.ref .B k] (.int bs.length)
 |LU {k:Nat} {fs:List (Int×MV)}:H.o .D k=.dy fs→fs.length≤1000000→Bi H (.builtin "len") [.ref .D k] (.int fs.length)
 |AF {bs:List UInt8}:bs.length≤1000000→Bi H (.builtin "len") [.bytes bs] (.int bs.length)
 |M9 {vs:List MV}:vs.length≤1000000→Bi H (.builtin "len") [.tup vs] (.int vs.length)
 |min (a b:Int):Bi H (.builtin "min") [.int a,.int b] (.int (min a b))
 |max (a b:Int):Bi H (.builtin "max") [.int a,.int b] (.int (max a b))
 |abs (a:Int):Bi H (.builtin "abs") [.int a] (.int a.natAbs)
 |int (b:Bool):Bi H (.type "int") [.bool b] (.int (if b then 1 else 0))
 |CD (bs:List UInt8):Bi H (.type "bytes") [.bytes bs] (.bytes bs)
 |CE {k:Nat} {bs:List UInt8}:H.o .B k=.dD bs→bs.length≤1000→Bi H (.type "bytes") [.ref .B k] (.bytes bs)
 |CG {v:MV} {bs:List UInt8}:LstAt H v (bs.map lB)→bs.length≤1000→Bi H (.type "bytes") [v] (.bytes bs)
 |sum {v:MV} {is:List Int}:LstAt H v (is.map .int)→Bi H (.builtin "sum") [v] (.int is.sum)
 |Ih {bs:List UInt8}:bs.length≤1000→Bi H (.type "list") [.bytes bs] (.lst (bs.map lB))
 |sorted {v:MV} {ps:List (Int×Int)}:LstAt H v (ps.map eT)→2≤ps.length→ps.length≤5→(ps.map (·.1)).Nodup→Bi H (.builtin "sorted") [v] (.lst ((k1 ps).map eT))
inductive Bn(H:Hp):Value→List MV→Cl→MO→Prop where
 |Ob:Bn H (.type "bytearray") [] .B (.dD [])
 |Oc {n:Nat}:n≤1000→Bn H (.type "bytearray") [.int n] .B (.dD (List.replicate n 0))
 |lst {v:MV} {vs:List MV}:LstAt H v vs→vs.length≤1000→Bn H (.type "list") [v] .L (.list vs)
section
variable{C:FC}{d:Nat}{N:cb}{H:Hp}{s:Shared}{ρ ρ1 ρ':Loc}{H1 H2 H3 H':Hp}{n:Nm}{mv v z:MV}{f:Value}
theorem dE.two{h:Heap}{xs:List Value}{w:MV}(r:dE N h [v,w] xs):∃x y,xs=[x,y]∧RV N h v x∧RV N h w y:=r.split.imp λx q=>q.elim λus q=>q.2.2.one.imp λy p=>⟨q.1.trans (congrArg (x:: ·) p.1),q.2.1,p.2⟩
theorem Jq{n:Nat}(h:n≤1000000):(n:Int)<2^63:=by omega
theorem CH{h:Heap}{bs:List UInt8}:∀{xs:List Value},dE N h (bs.map lB) xs→IntsAre xs (bs.map λx=>(x.toNat:Int)):=by
 induction bs with
 |nil=>exactλr=>r.nil_eq▸ .nil
 |cons b bs ih=>exactλr=>(show dE N h (lB b::bs.map lB) _ from r).split.elim λx q=>q.elim λus q=>q.2.1.d.elim λt e=>q.1▸e▸ .cons _ _ (ih q.2.2)
theorem CI(b:UInt8):(b.toNat:Int).toNat.toUInt8=b:=by rw[Int.toNat_natCast];exact UInt8.ofNat_toNat
theorem CJ{h:Heap}{b:List UInt8}{acc:Array Value}(hi:ItemsOf (zf b.toArray) acc b.toArray.size):dE N h (b.map lB) acc.toList:=by
 refine⟨by simpa using hi.1,λj v x a c=>?_⟩
 obtain⟨u,t,e,rfl⟩:=hi.2 j x (by simpa using c)
 rw[List.getElem?_map,(show b[j]? =some u by simpa using e)]at a
 cases a
 exact .int _ _
theorem CK{h:Heap}{is:List Int}:∀{xs:List Value},dE N h (is.map .int) xs→∃ps:List (Int×Tok),xs=ps.map (λp=>.int p.1 p.2)∧ps.map (·.1)=is:=by
 induction is with
 |nil=>exactλr=>⟨[],r.nil_eq,rfl⟩
 |cons i is ih=>exactλr=>(show dE N h (MV.int i::is.map .int) _ from r).split.elim λx q=>q.elim λus q=>q.2.1.d.elim λt e=>(ih q.2.2).elim λps y=>⟨(i,t)::ps,q.1.trans (e▸y.1▸rfl),congrArg (i:: ·) y.2⟩
theorem pairs_at{h:Heap}{ps:List (Int×Int)}:∀{xs:List Value},dE N h (ps.map eT) xs→eo h xs ps:=by
 induction ps with
 |nil=>exactλr=>r.nil_eq▸ .nil
 |cons p ps ih=>exactλr=>(show dE N h (eT p::ps.map eT) _ from r).split.elim λx q=>q.elim λus q=>q.1▸ .cons (q.2.1.d.elim λa y=>y.elim λxs y=>y.2.2.2.2.two.elim λm e=>e.elim λl e=>e.2.1.d.elim λc j=>e.2.2.d.elim λb i=>y.2.1.elim λo g=>g.2.2.elim λn k=>⟨a,o,n,c,b,y.1,g.1,g.2.1,k.trans (by rw[e.1,j,i])⟩) (ih q.2.2)
theorem FJ{h:Heap}(f:Nat→MV)(g:Nat→Value){l:List Nat}(k:∀i∈l,RV N h (f i) (g i)):dE N h (l.map f) (l.map g):=by
 induction l with
 |nil=>exact .nil
 |cons i l ih=>exact .cons (k i (List.mem_cons_self ..)) (ih λj a=>k j (List.mem_cons_of_mem _ a))
theorem ef(I:aO C.G N H s){a:Addr}(h:s.heap.objs.size≤a):N.own a=.no∧¬aR s.heap a:=
 have z:¬aR s.heap a:=λz=>z.elim λ_ g=>Nat.not_lt.mpr h (Heap.lt_size g)
 ⟨Classical.byContradiction λq=>z (I.hp.lt a q),z⟩
theorem LV(O:C.Ok d)(I:aO C.G N H s){vs:List MV}{xs:List Value}(r:dE N s.heap vs xs)(q:Bi H f vs z){Q:Value→Shared→Prop}{E:Value→Shared→Prop}
  (fin:∀v h' t,(∀b o,s.heap.get? b=some o→h'.get? b=some o)→RV N h' z v→Q v {s with heap:=h',toks:=t}):wpAny (model pw C.G.w) C.A (call f xs) Q E s:=by
 have tok:∀v t,RV N s.heap z v→Q v {s with toks:=t}:=λv t r=>fin v s.heap t (λ_ _ g=>g) r
 cases q with
 |qE l hl=>exact r.one.elim λx p=>(e5 I p.2 l).elim λa y=>y.elim λus y=>y.elim λm y=>p.1▸y.1▸call_len_list (qp y.2.1) (by rw[List.size_toArray,y.2.2.1];exact Jq hl) (by rw[List.size_toArray,y.2.2.1];exact tok _ _ (.int _ _))
 |LS e hl=>exact r.one.elim λx p=>have o:=cT I p.2 e;p.1▸o.1▸I_ o.2.2 (by rw[List.size_toArray];exact hl) (by rw[List.size_toArray];exact tok _ _ (.int _ _))
 |LU e hl=>exact r.one.elim λx p=>have o:=cT I p.2 e;o.2.2.2.elim λkvs y=>p.1▸o.1▸call_len_dict o.2.2.1 y.1 (by rw[y.2.len];exact Jq hl) (by rw[y.2.len];exact tok _ _ (.int _ _))
 |AF hl=>exact r.one.elim λx p=>p.2.d.elim λt e=>p.1▸e▸len_bytes (by rw[List.size_toArray];exact Nat.le_trans hl (by decide)) (by rw[List.size_toArray];exact tok _ _ (.int _ _))
 |M9 hl=>exact r.one.elim λx p=>p.2.d.elim λa y=>y.elim λus y=>p.1▸y.1▸len_tuple y.2.1 (by rw[List.size_toArray,y.2.2.2.2.1];exact Jq hl) (by rw[List.size_toArray,y.2.2.2.2.1];exact tok _ _ (.int _ _))
 |min a b=>
  obtain⟨x,y,rfl,J,F⟩:=r.two
  obtain⟨t,rfl⟩:=J.d
  obtain⟨u,rfl⟩:=F.d
  refine min_two_ints O.hd λh' B k=>?_
  split
  ·rename_i j;exact fin _ _ _ k (by rw[Int.min_eq_right (Int.le_of_lt j)];exact .int _ _)
  ·rename_i j;exact fin _ _ _ k (by rw[Int.min_eq_left (Int.not_lt.mp j)];exact .int _ _)
 |max a b=>
  obtain⟨x,y,rfl,J,F⟩:=r.two
  obtain⟨t,rfl⟩:=J.d
  obtain⟨u,rfl⟩:=F.d
  refine max_two_ints O.hd λh' B k=>?_
  split
  ·rename_i j;exact fin _ _ _ k (by rw[Int.max_eq_right (Int.le_of_lt j)];exact .int _ _)
  ·rename_i j;exact fin _ _ _ k (by rw[Int.max_eq_left (Int.not_lt.mp j)];exact .int _ _)
 |abs a=>exact r.one.elim λx p=>p.2.d.elim λt e=>p.1▸e▸call_abs_int λu B=>(show(if a<0 then-a else a)=(a.natAbs:Int) by split<;>omega)▸tok _ _ (.int _ _)
 |int b=>exact r.one.elim λx p=>p.1▸(show x=.bool b from p.2.d)▸call_int_bool (tok _ _ (.int _ _))
 |CD bs=>exact r.one.elim λx p=>p.2.d.elim λt e=>p.1▸e▸qo (tok _ _ (.bytes _ _))
 |CE e hl=>exact r.one.elim λx p=>have o:=cT I p.2 e;p.1▸o.1▸vm o.2.2 (by rw[List.size_toArray];exact small hl) (tok _ _ (.bytes _ _))
 |CG l hl=>
  rename_i bs
  exact r.one.elim λx p=>(e5 I p.2 l).elim λa y=>y.elim λus y=>y.elim λm y=>p.1▸y.1▸call_bytes_ints (qp y.2.1) (CH y.2.2)
   (λn L=>(List.mem_map.mp L).elim λb q=>q.2▸⟨Int.natCast_nonneg _,Int.ofNat_lt.mpr b.toNat_lt⟩) (by rw[y.2.2.1,List.length_map];exact small hl) O.hd λh' t k kk=>
    (show byteArr (bs.map λx=>(x.toNat:Int))=bs.toArray by unfold byteArr;rw[List.map_map];exact congrArg List.toArray ((List.map_congr_left λb _=>CI b).trans (List.map_id bs)))▸fin _ _ _ kk (.bytes _ _)
 |sum l=>
  exact r.one.elim λx p=>(e5 I p.2 l).elim λa y=>y.elim λus y=>y.elim λm y=>(CK y.2.2).elim λps q=>p.1▸y.1▸
   have hi:us.toArray=intItems ps.toArray:=by rw[q.1];simp[intItems]
   sum_intListG O.hd (hi▸qp y.2.1) λh' B P kk=>
    (show preSum (numAt ps.toArray) ps.toArray.size=_ by rw[preSum_eq,List.take_of_length_le (by simp),q.2])▸fin _ _ _ kk (.int _ _)
 |Ih hl=>
  exact r.one.elim λx p=>p.2.d.elim λt e=>p.1▸e▸rB O.hd (by rw[List.size_toArray];exact small hl) λh' B D c' k g hi=>
   have w:=CJ (N:=N) (h:=h') hi
   fin _ _ _ k (.lst D.toList c' g (ef I (Nat.le_refl _)).1 (gS O I) w.1 w.2)
 |sorted l h2 K nd=>
  rename_i ps
  exact r.one.elim λx p=>(e5 I p.2 l).elim λa y=>y.elim λus y=>y.elim λm y=>p.1▸y.1▸
   tU (qp y.2.1) (pairs_at y.2.2) nd h2 K λh' c B g kk=>
    have hi:=vx (lt:=FI ps) K h2
    have w:dE N h' ((k1 ps).map eT) (sortBy ps Value.none us):=by
     unfold k1 sortBy
     rw[List.map_map]
     refine(FJ (λi=>eT (ps.getD i (0,0))) (λi=>us.getD i Value.none) λi M=>?_).ext (Ext.ir N kk)
     have hl:=hi i M
     refine y.2.2.2 i _ _ ?_ ?_
     ·rw[List.getElem?_map,List.getD_eq_getElem?_getD,List.getElem?_eq_getElem hl];rfl
     ·have:i<us.length:=by rw[y.2.2.1,List.length_map];exact hl
      rw[List.getD_eq_getElem?_getD,List.getElem?_eq_getElem this];rfl
    fin _ _ _ kk (.lst _ c g (ef I (Nat.le_succ _)).1 (dB O I (Nat.le_succ _)) w.1 w.2)
theorem made(O:C.Ok d)(I:aO C.G N H s){h':Heap}{c:Cl}{o:MO}{a:Addr}(j:s.heap.objs.size≤a)(kk:∀b o,s.heap.get? b=some o→h'.get? b=some o)(al:aR h' a)
  (new:∀h,Ext YN N h s.heap h'→xq C.G.w h h' c (H.n c) a a o)(t:Nat):aO C.G (N.add c (H.n c) a a) (H.new c o) {s with heap:=h',toks:=t}∧Ext YN N (N.add c (H.n c) a a) s.heap h'∧RV (N.add c (H.n c) a a) h' (.ref c (H.n c)) (.ref a):=
 have f:=ef I j
 have g:s.heap.get? a=none:=match q:s.heap.get? a with
  |none=>rfl
  |some o=>absurd ⟨o,q⟩ f.2
 have e:=(mf (c:=c) I.hp (.inr ⟨f.1,g⟩) (.inr ⟨f.1,g⟩) (h':=h') λx i _ g=>kk x i g).dead (λx q=>q.elim (λq=>q▸f.2) λq=>q▸f.2) I.hp.lt
 ⟨I.add (.inr ⟨f.1,g,dB O I j⟩) (.inr ⟨f.1,g,dB O I j⟩) (λx i _ g=>kk x i g) al al (λh q=>new h (q▸e)) t,e,xW⟩
theorem LW(O:C.Ok d)(I:aO C.G N H s){vs:List MV}{xs:List Value}{c:Cl}{o:MO}(r:dE N s.heap vs xs)(q:Bn H f vs c o){Q:Value→Shared→Prop}{E:Value→Shared→Prop}
  (fin:∀v s' h,aO C.G h (H.new c o) s'→Ext YN N h s.heap s'.heap→RV h s'.heap (.ref c (H.n c)) v→Q v s'):aX (model pw C.G.w) C.A (call f xs) Q E s:=by
 cases q with
 |Ob=>
  exact r.nil_eq▸Ja O.guards λh' g b=>have m:=made (c:=.B) (o:=.dD []) O I (Nat.le_refl _) (jW b) ⟨_,g⟩ (λ_ _=>g) s.toks;fin _ _ _ m.1 m.2.1 m.2.2
 |Oc i=>
  rename_i k
  exact r.one.elim λx p=>p.2.d.elim λt e=>p.1▸e▸Fg O.guards (Int.natCast_nonneg _) (Int.ofNat_le.mpr i) λh' g b=>
   have m:=made (c:=.B) (o:=.dD (List.replicate k 0)) O I (Nat.le_refl _) (jW b) ⟨_,g⟩ (λ_ _=>g.trans (by rw[Int.toNat_natCast];simp)) s.toks;fin _ _ _ m.1 m.2.1 m.2.2
 |lst l hl=>
  rename_i vs
  exact r.one.elim λx p=>(e5 I p.2 l).elim λa y=>y.elim λus y=>y.elim λj y=>p.1▸y.1▸ .of (call_list_seq (hsz:=by rw[List.size_toArray,y.2.2.1];exact small hl) _ (.inl rfl) y.2.1 rfl rfl λh' c' k g=>
   have m:=made (c:=.L) (o:=.list vs) O I (Nat.le_refl _) k ⟨_,g⟩ (λ_ e=>⟨us,c',g,y.2.2.ext e⟩) s.toks;fin _ _ _ m.1 m.2.1 m.2.2)
end
noncomputable def M_(P:Params)(n:Nm)(f:Value):Bool:=nsIn (Kf P) mainGlobals n.str==some none&&(bootBuiltins n.str==some f&& !(n.str== "__name__"))
def sh(n:Nm)(f:Value):Prop:=∀P,M_ P n f=true
section
variable{C:FC}{d:Nat}{N:cb}{H:Hp}{s:Shared}{ρ ρ1 ρ':Loc}{H1 H2 H3 H':Hp}{n:Nm}{mv v z:MV}{f:Value}{i:It}
theorem c7(O:C.Ok d)(I:aO C.G N H s)(w:(gT (ba C.sc n.str)&&te n)=true)(hb:sh n f){pos:Pos}{Q:Value→Shared→Prop}{E:Value→Shared→Prop}(h:Q f s):wpAny (model pw C.G.w) C.A (eval (.Name n.str pos) C.env) Q E s:=
 have b:=hb C.G.w.params
 have ne:n.str≠"__name__" :=λe=>by
  have:=aF (aF b)
  rw[e]at this
  revert this
  decide
 Calls.Name_function_global O.kind (O.gl (aV w)) (Calls.loadGlobal_builtin (mg:=C.G.mg) (mb:=C.G.mb) (O.glob.symm▸p6 O I O.G.g (by decide)) (mg_none_of O.G.jH O.G.g (beq_iff_eq.mp (aV b))) (O.blt.symm▸p6 O I O.G.b (by decide))
  ((O.G.blt _ ne).trans (beq_iff_eq.mp (aV (aF b)))) h) (BG (aF w))
theorem vz{es:List XE}{p:PT}{i:Nat}(env:Env):(starEach (bL es p i) env).any (·.1)=false:=by
 induction es generalizing i with
 |nil=>rfl
 |cons e es ih=>show(starEach (e.b (sub p i)::bL es p (i+1)) env).any (·.1)=false;rw[e.st];exact ih
def jm(w:World)(f:Value)(s:Shared):Prop:=∃k,∀(A:Around)(Q:Keeper→Shared→Prop)(E:Value→Shared→Prop),Q k s→wpAny (model pw w) A (keeperOf f) Q E s
theorem eg(O:C.Ok d){f:Value}{first:List Value}{es:List XE}{p:PT}{i:Nat}{pos:Pos}{vs:List MV}{Q:Value→Shared→Prop}{E:Value→Shared→Prop}(z:xe es C.sc p i=true)(h:p8 d es ρ H vs H1)(I:aO C.G N H s)(F:dU C N ρ s.heap)
  (next:∀xs a b,aO C.G b H1 a→dU C b ρ a.heap→Ext YN N b s.heap a.heap→dE b a.heap vs xs→jm C.G.w f a∧aX (model pw C.G.w) C.A (call f (first++xs)) Q E a):aX (model pw C.G.w) C.A (callWith pos f first (backTo pos (starEach (bL es p i) C.env)) []) Q E s:=
 fV (P:=λa=>jm C.G.w f a) ((i7 _ _).trans (vz _)) (λa h=>h) (h C p i pos O z N s _ _ I F λxs a b g c e=>next xs a b g (F.ext c) c e)
noncomputable def ak(n:Nm)(es:List XE):XE:={b:=λp=>.Call (.Name n.str (pE (sub p 0))) (bL es p 1) [] (pE p),ok:=λsc p=>(gT (ba sc n.str)&&te n)&&xe es sc p 1,pb:=false}
theorem FK{vs:List MV}(q:Bi H f vs z)(s:Shared)(w:World):jm w f s:=by cases q<;>first|exact fC _ _ _|exact iA _ _ _
theorem FL{vs:List MV}{c:Cl}{o:MO}(q:Bn H f vs c o)(s:Shared)(w:World):jm w f s:=by cases q<;>exact iA _ _ _
theorem dr{es:List XE}{vs:List MV}(g:sh n f)(h:p8 d es ρ H vs H1)(q:Bi H1 f vs z):Ev d (ak n es) ρ H z H1:=λC p O w N s Q E I F k=>
 dC (.of (c7 O I (aV w) g (eg O (aF w) h I F λxs j a b l c e=>⟨FK q _ _,.of (LV O b e q λv h' t kk r=>k v _ a (b.ir kk t) (c.trans (Ext.ir a kk)) r)⟩)))
theorem CL{es:List XE}{vs:List MV}{c:Cl}{o:MO}(g:sh n f)(h:p8 d es ρ H vs H1)(q:Bn H1 f vs c o):Ev d (ak n es) ρ H (.ref c (H1.n c)) (H1.new c o):=λC p O w N s Q E I F k=>
 dC (.of (c7 O I (aV w) g (eg O (aF w) h I F λxs u x t y b j=>⟨FL q _ _,LW O t j q λv e l m a r=>k v e l m (b.trans a) r⟩)))
theorem Ii{c:cb}{b:Shared}(l:aO C.G c H1 b)(g:Ext YN N c s.heap b.heap){lo hi:Int}{t u v:Tok}(j:lo.natAbs<2147483648)(h2:hi.natAbs<2147483648){Q:Value→Shared→Prop}
  (k:∀x s' e Z,aO C.G e H1 s'→Ext YN N e s.heap s'.heap→Fx e s'.heap (.ny lo hi) x Z→(∀a,Z a→¬aR s.heap a)→Q x s')(h:Nat):Q (.ref b.heap.objs.size) {b with heap:=b.heap.push {cls:=.type "range",data:=.fields #[.int lo t,.int hi u,.int 1 v]},toks:=h}:=
 k _ _ c YN (l.push _ _) (g.trans (Ext.push _ _ _)) (.ny _ t u v (IsRange.new _ _ _ _ _ _ _) j h2) λ_ q=>q.elim
theorem eI{es:List XE}{b:Int}(g:sh n (.type "range"))(h:p8 d es ρ H [.int b] H1)(hb:b.natAbs<2147483648):Ic d (ak n es) ρ H (.ny 0 b) H1:=λC p O w N s Q E I F k=>
 dC (.of (c7 O I (aV w) g (eg O (aF w) h I F λxs l m j o a c=>⟨iA _ _ _,c.one.elim λx q=>q.2.d.elim λt e=>q.1▸e▸ .of (call_range_1 (Ii j a (by decide) hb k _))⟩)))
theorem si{es:List XE}{a b:Int}(g:sh n (.type "range"))(h:p8 d es ρ H [.int a,.int b] H1)(l:a.natAbs<2147483648)(hb:b.natAbs<2147483648):Ic d (ak n es) ρ H (.ny a b) H1:=λC p O w N s Q E I F k=>
 dC (.of (c7 O I (aV w) g (eg O (aF w) h I F λxs o r m A c j=>⟨iA _ _ _,j.two.elim λx q=>q.elim λy q=>q.2.1.d.elim λt e=>q.2.2.d.elim λu e'=>q.1▸e▸e'▸ .of (call_range_2 (Ii m c l hb k _))⟩)))
theorem FN{es:List XE}{j:Nat}{vs:List MV}(g:sh n (.type "enumerate"))(h:p8 d es ρ H [.ref .L j] H1)(G:H1.o .L j=.list vs):Ic d (ak n es) ρ H (.enum j 0) H1:=λC p O w N s Q E I F k=>
 dC (.of (c7 O I (aV w) g (eg O (aF w) h I F λxs b J c P l B=>⟨iA _ _ _,B.one.elim λx q=>have o:=cT c q.2 G;o.2.2.elim λus y=>y.elim λm y=>q.1▸o.1▸ .of (call_enumerate_1 y.1 λh' u hi M kk=>
  have n0:¬aR b.heap b.heap.objs.size:=cj b.heap
  have n1:¬aR b.heap (b.heap.objs.size+1):=λz=>z.elim λo g=>absurd (Heap.lt_size g) (Nat.not_lt.mpr (Nat.le_succ _))
  have dead:∀x,ZZ b.heap.objs.size (b.heap.objs.size+1) x→¬aR b.heap x:=λx q=>q.elim (λq=>q▸n0) λq=>q▸n1
  hi.elim λD e=>
  have K:=c.mark (ZZ b.heap.objs.size (b.heap.objs.size+1)) (h':=h') kk (λx q=>⟨dead x q,q.elim (λq=>q▸gS O c) λq=>q▸dB O c (Nat.le_succ _),q.elim (λq=>q▸⟨_,e.1⟩) λq=>q▸⟨_,u⟩⟩) b.toks
  have A:=Ext.yU c (ZZ b.heap.objs.size (b.heap.objs.size+1)) (h':=h') kk dead
  have r:Mk (J.upd (ZZ b.heap.objs.size (b.heap.objs.size+1)) .t) h' (b.heap.objs.size+1) _:=⟨if_pos (.inr rfl),dB O c (Nat.le_succ _),u,e8 rfl⟩
  k _ _ _ (ZZ (b.heap.objs.size+1) b.heap.objs.size) K (l.trans A) (.it (old:=.none) ⟨_,_,r⟩ ⟨Nat.succ_ne_self _,_,D,r,⟨if_pos (.inl rfl),gS O c,e.1,e8 e.2.2⟩,e.2,A.yP o.2.1⟩) λa q z=>(q.elim (λq=>q▸n1) λq=>q▸n0) (l.al a z λz=>z))⟩)))
end
noncomputable def FC.callee(C:FC)(env:Env):FC:=⟨C.G,env,env.scope,env::C.fr,C.A.deeper env⟩
theorem AG{x:Str}{names:List (Str×NameKind)}:∀{n:Nat}{acc:List (Str×Addr)},((x,NameKind.cell)∈names∨(acc.lookup x).isSome=true)→((cellsFrom n names acc).lookup x).isSome=true:=by
 induction names with
 |nil=>exactλh=>h.elim (λh=>nomatch h) id
 |cons e r ih=>
  intro n acc h
  unfold cellsFrom
  split
  ·refine ih (h.elim (λh=>(List.mem_cons.mp h).elim (λq=>.inr ?_) .inl) λh=>.inr ?_)
   ·cases q;rw[List.lookup_cons,beq_self_eq_true];rfl
   ·rw[List.lookup_cons]
    cases x==e.1 with
    |true=>rfl
    |false=>exact h
  ·rename_i hk
   exact ih (h.imp_left λh=>(List.mem_cons.mp h).elim (λq=>absurd (by cases q;rfl) hk) id)
theorem qF{names:List (Str×NameKind)}{acc:List (Str×Addr)}:∀{n:Nat},(∀x∈names,x.2≠ .cell)→cellsFrom n names acc=acc:=by
 induction names with
 |nil=>exactλ_=>rfl
 |cons e r ih=>
  intro n q
  unfold cellsFrom
  rw[beq_eq_false_iff_ne.mpr (q e (List.mem_cons_self ..)),if_neg Bool.false_ne_true]
  exact ih λx a=>q x (List.mem_cons_of_mem _ a)
structure Entry(C:FC)(N:cb)(h:Heap)(scope:Scope)(closure:List (Str×Addr))(hZ:Loc):Prop where
 k:scope.kind=.function
 loc:∀(n:Nm) v,look n hZ=some v→ba scope n.str≠some .local
 one:(closure=[]∧hZ=[])∨∀x∈scope.names,x.2≠ .cell
 inj:∀(n m:Nm) c,closure.lookup n.str=some c→closure.lookup m.str=some c→n=m
 cell:∀(n:Nm) c,closure.lookup n.str=some c→(N.own c=.t∧c∉ff)∧∃ov,h.IsCell c ov∧∀mv,look n hZ=some mv→∃u,ov=some u∧RV N h mv u
section
variable{C:FC}{d:Nat}{N:cb}{H:Hp}{s:Shared}{FO:Loc}
theorem vA{C':FC}(O:C'.Ok d){f:Str×Value→PUnit→Sem (ForInStep PUnit)}(hf:∀n v u,f (n,v) u=(do storeName C'.env n v;pure (.yield ⟨⟩))){A:Around}{E:Value→Shared→Prop}{ps:List Nm}:∀{vs:List MV}{xs:List Value}{s:Shared}{ρ:Loc},(∀p∈ps,C'.env.kindOf p.str=some .local∨C'.env.kindOf p.str=some .cell)→
  ps.length=vs.length→aO C'.G N H s→dU C' N ρ s.heap→dE N s.heap vs xs→∀{Q:PUnit→Shared→Prop},(∀s',aO C'.G N H s'→dU C' N (bindAll ps vs ρ) s'.heap→Ext (fK C') N N s.heap s'.heap→Q ⟨⟩ s')→wpAny (model pw C'.G.w) A (forIn ((ps.map Nm.str).zip xs) ⟨⟩ f) Q E s:=by
 induction ps with
 |nil=>exactλ{vs xs s ρ} hk hl I F r Q k=>wpAny_pure (k s I F ((Ext.refl N s.heap).fU F))
 |cons p ps ih=>
  intro vs xs s ρ hk hl I F r Q k
  cases vs with
  |nil=>cases hl
  |cons v vs=>
   exact r.split.elim λx q=>q.elim λus q=>q.1▸(by
    rw[List.map_cons,List.zip_cons_cons,List.forIn_cons,hf]
    exact wpAny_bind (wpAny_bind (qw O I F (hk p (List.mem_cons_self ..)) q.2.1 λl h j a=>wpAny_pure
     (ih (λm e=>hk m (List.mem_cons_of_mem _ e)) (Nat.succ.inj hl) h j (q.2.2.ext a) λc g i b=>k c g i (a.trans b)))))
theorem zg(I:aO C.G N H s){a:Addr}(nd:¬aR s.heap a)(nt:a∉ff):C.G.h₀.get? a=none:=match q:C.G.h₀.get? a with
 |none=>rfl
 |some o=>absurd q (I.yT nd nt o)
theorem xY{L:Addr}{cs:List (Str×Addr)}(O:C.Ok d){scope:Scope}{closure:List (Str×Addr)}{b:Loc}(S:Entry C N s.heap scope closure b)(i:s.heap.objs.size=L)(g:cellsFrom (L+1) scope.names closure=cs){a:Heap}(k:pushCells (s.heap.push {cls:=.type "frame",data:=.dict #[]}) scope.names=a)(gL:aR a L):
  (∀(n m:Nm) c,cs.lookup n.str=some c→cs.lookup m.str=some c→n=m)∧∃as:List Addr,L∈as∧(∀x∈as,L≤x∧aR a x)∧∀(n:Nm) c,cs.lookup n.str=some c→(closure.lookup n.str=some c∧ba scope n.str≠some .cell)∨(a.IsCell c none∧c∈as∧b=[]):=by
 refine S.one.elim (λe=>?_) λh=>?_
 ·cases e.1
  have ok:=cellsFrom_ok scope.names (s.heap.push {cls:=.type "frame",data:=.dict #[]}) (L+1) [] ⟨λ_ _ j=>(nomatch j),List.Pairwise.nil⟩ (by rw[Heap.size_push,i];exact Nat.le_refl _)
  rw[Heap.size_push,i,g,k]at ok
  refine⟨λn m c a h2=>str_inj (name_of_addr ok.apart (mem_of_lookup a) (mem_of_lookup h2)),L::cs.map (·.2),List.mem_cons_self ..,λx f=>(List.mem_cons.mp f).elim (λq=>q.symm▸(⟨Nat.le_refl _,gL⟩:L≤L∧aR a L)) λf=>?_,λn c q=>.inr ⟨(ok.empty _ c (mem_of_lookup q)).1,List.mem_cons_of_mem _ (List.mem_map.mpr ⟨_,mem_of_lookup q,rfl⟩),e.2⟩⟩
  exact(List.mem_map.mp f).elim λy q=>q.2▸⟨Nat.le_of_succ_le (ok.empty y.1 y.2 q.1).2,gR (ok.empty y.1 y.2 q.1).1⟩
 ·cases(qF h).symm.trans g
  exact⟨S.inj,[L],List.mem_cons_self ..,λx f=>(List.mem_singleton.mp f).symm▸(⟨Nat.le_refl _,gL⟩:L≤L∧aR a L),λn c q=>.inl ⟨q,λz=>h _ (mem_of_lookup z) rfl⟩⟩
theorem sj(O:C.Ok d)(I:aO C.G N H s)(F:dU C N FO s.heap){scope:Scope}{closure:List (Str×Addr)}{j:Loc}(S:Entry C N s.heap scope closure j){binds:List (Str×Value)}{qual:Str}{f:Option Addr}{code:Value}{A:Around}{Q:Env→Shared→Prop}{E:Value→Shared→Prop}
  (k:∀env U s',env=newEnv scope s.heap.objs.size mainGlobals (cellsFrom (s.heap.objs.size+1) scope.names closure) qual f code none builtinsNs→
   (∀(n m:Nm) c,env.cells.lookup n.str=some c→env.cells.lookup m.str=some c→n=m)→
   aO C.G U H s'→dU (C.callee env) U j s'.heap→Ext YN N U s.heap s'.heap→(∀x,fK (C.callee env) x→¬aR s.heap x)→
   ∀g,(∀n v u,g (n,v) u=(do storeName env n v;pure (ForInStep.yield PUnit.unit)))→wpAny (model pw C.G.w) A (forIn binds PUnit.unit g) (λ_ L=>Q env L) E s'):
  wpAny (model pw C.G.w) A (newFunctionEnv scope mainGlobals closure binds qual f code none builtinsNs) Q E s:=by
 have big:=me O I
 simp only[newFunctionEnv,Option.isSome_none,Bool.false_eq_true,if_false]
 refine wpAny_bind (wpAny_alloc ?_)
 refine wpAny_bind (wpAny_layCells _ (λname kind cells=>rfl) _ _ _ _ ?_)
 rw[show({s with heap:=s.heap.push {cls:=.type "frame",data:=.dict #[]}}:Shared).heap.objs.size=s.heap.objs.size+1 from Heap.size_push ..]
 dsimp only
 generalize J:pushCells _ scope.names=B
 replace J:pushCells (s.heap.push {cls:=.type "frame",data:=.dict #[]}) scope.names=B:=J
 have keep:∀b o,s.heap.get? b=some o→B.get? b=some o:=λb o e=>J▸pushCells_keeps _ _ b o (Heap.get?_push_of_some _ e)
 have gL:B.get? s.heap.objs.size=some {cls:=.type "frame",data:=.dict #[]}:=J▸pushCells_keeps _ _ _ _ (Heap.get?_push_size _ rfl)
 have P:B.Ns s.heap.objs.size λ_=>none:=J▸(Heap.Ns.new s.heap (.type "frame")).keeps (pushCells_keeps _ _)
 refine(xY O S rfl rfl J ⟨_,gL⟩).elim λlb r=>r.elim λas r=>?_
 have dead:∀x,s.heap.objs.size≤x→¬aR s.heap x:=λx i=>(ef I i).2
 have D:∀x,x∈as→¬aR s.heap x∧x∉ff∧aR B x:=λx i=>⟨dead x (r.2.1 x i).1,dB O I (r.2.1 x i).1,(r.2.1 x i).2⟩
 have W:=I.mark (· ∈as) (h':=B) keep D s.toks
 have K:=Ext.yU I (· ∈as) (h':=B) keep λx i=>(D x i).1
 have R:∀x,x∈as→(N.upd (· ∈as) .t).own x=.t∧x∉ff∧C.G.h₀.get? x=none:=λx i=>⟨if_pos i,(D x i).2.1,zg I (D x i).1 (D x i).2.1⟩
 have V:∀(n:Nm) c,(cellsFrom (s.heap.objs.size+1) scope.names closure).lookup n.str=some c→((N.upd (· ∈as) .t).own c=.t∧c∉ff∧C.G.h₀.get? c=none)∧∃ov,B.IsCell c ov∧∀M,look n j=some M→∃u,ov=some u∧RV (N.upd (· ∈as) .t) B M u:=λn c q=>
  (r.2.2 n c q).elim (λy=>have z:=S.cell n c y.1;z.2.elim λov g=>⟨⟨(K.own c (gR g.1) id).trans z.1.1,z.1.2,match q:C.G.h₀.get? c with
    |none=>rfl
    |some o=>Ow.noConfusion (z.1.1.symm.trans (I.iR _ _ q))⟩,ov,jI K g.1 z.1.1 id,λM l=>(g.2 M l).imp λu p=>⟨p.1,p.2.ext K⟩⟩)
   λy=>⟨R c y.2.1,none,y.1,λM l=>by rw[y.2.2]at l;cases l⟩
 refine wpAny_bind (wpAny_mono (k _ _ _ rfl lb W ⟨λx q=>?_,⟨_,P,λn v a b=>absurd b (S.loc n v a)⟩,λn c q=>(V n c q).2.imp λov g=>⟨g.1,λv l _=>g.2 v l⟩,λe T=>?_⟩ K (λx i=>?_) _ λn v u=>rfl) (λ_ L h=>wpAny_pure h) λ_ _ h=>h)
 ·refine q.elim (λq=>q▸R _ r.1) λq=>q.elim (λq=>q.elim λn q=>(V n x q).1) λq=>q.elim λe q=>(List.mem_cons.mp q.1).elim (λz=>Option.some.inj ((congrArg Env.frame z).symm.trans q.2)▸R _ r.1) λz=>(F.ext K).ok x (.inr (.inr ⟨e,z,q.2⟩))
 ·refine(List.mem_cons.mp T).elim (λq=>?_) λT=>(F.ext K).frames e T
  subst q
  exact⟨by show scope.kind≠_;rw[S.k];nofun,s.heap.objs.size,rfl,_,gL,rfl,_,_,rfl⟩
 ·refine i.elim (λq=>q▸dead _ (Nat.le_refl _)) λq=>q.elim λn q=>(r.2.2 n x q.1).elim (λz=>absurd q.2 z.2) λz=>(D x z.2.1).1
end
noncomputable def sk{a:Type}:List (Str×a)→List (Str×a)→List (Str×a)
 |[],S=>S
 |(n,d)::r,S=>sk r (if(S.lookup n).isNone then S++[(n,d)]else S)
noncomputable def bindL{a:Type}(ns:List Str)(xs D:List a):Option (List (Str×a)):=
 if !((ns.take (ns.length-D.length)).filter λn=>((ns.zip xs).lookup n).isNone).isEmpty then none else some (ns.filterMap λn=>((sk ((ns.drop (ns.length-D.length)).zip D) (ns.zip xs)).lookup n).map λv=>(n,v))
section
variable{α:Type}
theorem AH{l S:List (Str×α)}(h:∀p∈l,(S.lookup p.1).isNone=false):sk l S=S:=by
 induction l with
 |nil=>rfl
 |cons e r ih=>
  show sk r (if(S.lookup e.1).isNone=true then _ else S)=S
  rw[h e (List.mem_cons_self ..)]
  exact ih λp hp=>h p (List.mem_cons_of_mem _ hp)
theorem qG{n:Str}{ns:List Str}:∀{ys:List α},n∈ns→ns.length=ys.length→((ns.zip ys).lookup n).isNone=false:=by
 induction ns with
 |nil=>exactλh=>nomatch h
 |cons m ns ih=>
  intro ys h hl
  cases ys with
  |nil=>cases hl
  |cons y ys=>
   rw[List.zip_cons_cons,List.lookup_cons]
   cases q:n==m with
   |true=>rfl
   |false=>exact ih ((List.mem_cons.mp h).elim (λz=>by rw[z,beq_self_eq_true]at q;cases q) id) (Nat.succ.inj hl)
theorem CM{a b:Type}{f g:a→Option b}{l:List a}(h:∀x∈l,f x=g x):l.filterMap f=l.filterMap g:=by
 induction l with
 |nil=>rfl
 |cons x l ih=>rw[List.filterMap_cons,List.filterMap_cons,h x (List.mem_cons_self ..),ih λy c=>h y (List.mem_cons_of_mem _ c)]
theorem Jr{ns:List Str}:∀{ys:List α},ns.Nodup→ns.length=ys.length→ns.filterMap (λn=>((ns.zip ys).lookup n).map λv=>(n,v))=ns.zip ys:=by
 induction ns with
 |nil=>exactλ_ _=>rfl
 |cons m ns ih=>
  intro ys nd hl
  cases ys with
  |nil=>cases hl
  |cons y ys=>
   have nd:=List.nodup_cons.mp nd
   rw[List.filterMap_cons,List.zip_cons_cons,List.lookup_cons,beq_self_eq_true]
   show(m,y)::_=_
   refine congrArg ((m,y):: ·) ((CM λn a=>?_).trans (ih nd.2 (Nat.succ.inj hl)))
   rw[List.lookup_cons,beq_eq_false_iff_ne.mpr λe:n=m=>nd.1 (e▸a)]
theorem qH{ns:List Str}{xs D:List α}(nd:ns.Nodup)(hl:ns.length=xs.length):bindL ns xs D=some (ns.zip xs):=by
 unfold bindL
 rw[List.filter_eq_nil_iff.mpr λn a=>by rw[qG (List.mem_of_mem_take a) hl];exact Bool.false_ne_true,if_neg (by decide),AH λp hp=>qG (List.mem_of_mem_drop (List.of_mem_zip hp).1) hl,Jr nd hl]
theorem xZ{f:Str×Value→List (Str×Value)→Sem (ForInStep (List (Str×Value)))}(hf:∀n d S,f (n,d) S=if(S.lookup n).isNone=true then pure (.yield (S++[(n,d)]))else pure (.yield S)){l:List (Str×Value)}:∀{S:List (Str×Value)},forIn l S f=(pure (sk l S):Sem _):=by
 induction l with
 |nil=>exact rfl
 |cons e r ih=>
  intro S
  rw[List.forIn_cons,hf]
  show _=pure (sk r (if(S.lookup e.1).isNone=true then _ else S))
  cases(S.lookup e.1).isNone with
  |true=>exact ih
  |false=>exact ih
end
theorem Ij{M:Model}{A:Around}{E:Value→Shared→Prop}{s:Shared}{α:Type}{c:Prop}[Decidable c]{t e:Sem α}{Q:α→Shared→Prop}(h:¬c)(k:wpAny M A e Q E s):wpAny M A (ite c t e) Q E s:=by rw[if_neg h];exact k
theorem nY{s:Shared}{fd:FuncData}{xs D:List Value}{L:List (Str×Value)}(j:fd.params.posonlyargs=[])(h2:fd.params.kwonlyargs=[])(i:fd.params.vararg=none)(g:fd.params.kwarg=none)
  (f:(fd.defaults=.none∧D=[])∨∃T o n,fd.defaults=.ref T∧s.heap.get? T=some o∧o.data=.seq D.toArray n)(c:xs.length≤(fd.params.args.map (·.arg)).length)(hd:D.length≤(fd.params.args.map (·.arg)).length)(b:bindL (fd.params.args.map (·.arg)) xs D=some L):BindsTo s fd ⟨xs,[]⟩ L:=by
 intro M A E Q r
 obtain⟨nm,w,⟨po,u,v,y,B,kw,C⟩,H,sc,gl,cl,t,m,F,pm,an,co,G⟩:=fd
 dsimp only at j h2 i g f c hd b
 subst j h2 i g
 have step:∀{k:Option (Array Value)→Sem (List (Str×Value))},(∀a,(a.getD #[]).toList=D→wpAny M A (k a) Q E s)→wpAny M A (seqItems? t>>=k) Q E s:=λh=>
  f.elim (λe=>e.1▸wpAny_bind (wpAny_pure (h none e.2.symm))) λe=>e.elim λT e=>e.elim λo e=>e.elim λn e=>e.1▸wpAny_bind (wpAny_seqItems e.2.1 e.2.2 (h _ rfl))
 unfold bindL at b
 split at b
 ·cases b
 ·rename_i q
  unfold bindArgs
  refine step λa p=>?_
  subst p
  refine Ij (by rw[Bool.and_eq_true,decide_eq_true_eq];exactλz=>Nat.not_lt.mpr c z.1) ?_
  dsimp only
  rw[show List.drop ((a.getD #[]).toList.length-(List.map (λx:Arg=>x.arg) []++List.map (λx:Arg=>x.arg) u).length) (a.getD #[]).toList=(a.getD #[]).toList from(congrArg (List.drop · (a.getD #[]).toList) (Nat.sub_eq_zero_of_le hd)).trans (List.drop_zero ..)]
  refine Ij q ?_
  refine wpAny_bind (wpAny_of_eq (xZ (λn d S=>by rfl)) ?_)
  exact wpAny_pure ((congrArg (λl=>Q l s) ((congrArg (List.filterMap _) (List.append_nil _)).trans (Option.some.inj b))).mpr r)
noncomputable def M'(o:Obj):Option FuncData:=match o.data with
 | .func fd=>some fd
 |_=>none
noncomputable def Js(o:Obj):Option (List Value):=match o.data with
 | .seq D _=>some D.toList
 |_=>none
noncomputable def FP(o:Obj):Option (Array Value):=match o.data with
 | .fields vs=>some vs
 |_=>none
noncomputable def CN:Value→Option Addr
 | .ref a=>some a
 |_=>none
noncomputable def FQ:Value→Option Str
 | .str q _=>some q
 |_=>none
noncomputable def mE:Value→Bool
 | .none=>true
 |_=>false
noncomputable def x3:Value→Bool
 | .int _ _=>true
 |_=>false
noncomputable def zh:Value→Bool
 | .bool _=>true
 |_=>false
noncomputable def jX:FuncBody→List Stmt
 | .stmts b=>b
 |_=>[]
theorem CO{o:Obj}{fd:FuncData}(h:M' o=some fd):o.data=.func fd:=by
 unfold M' at h
 cases q:o.data<;>rw[q]at h<;>first|exact congrArg _ (Option.some.inj h)|cases h
theorem FR{o:Obj}{D:List Value}(h:Js o=some D):∃n,o.data=.seq D.toArray n:=by
 unfold Js at h
 cases q:o.data with
 |seq xs n=>rw[q]at h;cases h;exact⟨n,rfl⟩
 |_=>rw[q]at h;cases h
theorem zj{o:Obj}{vs:Array Value}(h:FP o=some vs):o.data=.fields vs:=by
 unfold FP at h
 cases q:o.data<;>rw[q]at h<;>first|exact congrArg _ (Option.some.inj h)|cases h
theorem pP{v:Value}{a:Addr}(h:CN v=some a):v=.ref a:=by cases v<;>first|exact congrArg _ (Option.some.inj h)|cases h
theorem tW{v:Value}{q:Str}(h:FQ v=some q):∃t,v=.str q t:=by cases v<;>first|exact⟨_,congrArg (Value.str · _) (Option.some.inj h)⟩|cases h
theorem qI{v:Value}(h:mE v=true):v=.none:=by cases v<;>first|rfl|cases h
theorem so{v:Value}(h:x3 v=true):∃i t,v=.int i t:=by cases v<;>first|exact⟨_,_,rfl⟩|cases h
theorem x4{v:Value}(h:zh v=true):∃b,v=.bool b:=by cases v<;>first|exact⟨_,rfl⟩|cases h
section
variable(P:Params)
noncomputable def atK(a:Addr):Option Obj:=(Kf P).lookup a
noncomputable def funAt(a:Addr):Option FuncData:=(atK P a).bind M'
noncomputable def LX(fd:FuncData):Option Str:=(CN fd.code).bind λc=>(atK P c).bind λo=>(FP o).bind λvs=>(vs[1]?).bind FQ
noncomputable def dflt(fd:FuncData):Option (List Value):=bif mE fd.defaults then some []else(CN fd.defaults).bind λT=>(atK P T).bind Js
noncomputable def LY(fd:FuncData):Bool:=(((CN fd.code).bind λc=>(atK P c).bind λo=>(FP o).bind λvs=>(CN (vs.getD 11 .none)).bind λT=>
 if !ff.contains c&&(ff.contains T&&(o.cls==.type "code" &&((vs[11]? ==some (.ref T))&&((FQ (vs.getD 18 .none)).isSome&&(x3 (vs.getD 7 .none)&&(zh (vs.getD 9 .none)&&(x3 (vs.getD 10 .none)&&c !=T)))))))then some (c,T)else none)).isSome
noncomputable def x7:NameKind→Bool
 | .local| .cell| .globalImplicit=>true
 |_=>false
noncomputable def Na(sc:Scope)(ps:List Nm):Bool:=tR sc.kind&&(!sc.isCoroutine&&(!sc.isGenerator&&(ps.all (λp=>Ck (ba sc p.str))&&sc.names.all λx=>x7 x.2)))
noncomputable def Nb(fd:FuncData)(ps:List Nm)(b:List XS):Bool:=(fd.globals==mainGlobals)&&(fd.closure.isEmpty&&((fd.builtins==builtinsNs)&&(fd.params.posonlyargs.isEmpty&&(fd.params.kwonlyargs.isEmpty&&(fd.params.vararg.isNone&&(fd.params.kwarg.isNone&&(decide (fd.params.args.map (·.arg)=ps.map Nm.str)&&(decide (ps.map Nm.str).Nodup&&
 ((LX P fd==some fd.qualname)&&((!(fd.scope.names.any λx=>x.2==.cell)||LY P fd)&&(Na fd.scope ps&&pf b fd.scope (BF (jX fd.body)) 0)))))))))))
structure bX(a:Addr)(ps:List Nm)(b:List XS)(nd:Nat):Prop where
 c:((funAt P a).bind λfd=>if Nb P fd ps b&&((dflt P fd).any λD=>decide (D.length≤ps.length)&&(nd.beq 0||((D.length).beq nd&&D.all mE)))then some ()else none)=some ()
 e:(funAt P a).map (λfd=>FuncBody.stmts (y5 b (BF (jX fd.body)) 0))=(funAt P a).map (·.body)
end
theorem zk{a:Type}{b:Bool}{x:a}{y:a}(h:(if b=true then some x else none)=some y):b=true∧x=y:=by
 cases b with
 |true=>exact⟨rfl,Option.some.inj h⟩
 |false=>cases h
structure MD(P:Params)(a:Addr)(ps:List Nm)(b:List XS)(fd:FuncData)(D:List Value):Prop where
 obj:∃o,(Kf P).lookup a=some o∧o.data=.func fd
 body:fd.body=.stmts (y5 b (BF (jX fd.body)) 0)
 glob:fd.globals=mainGlobals
 Nc:fd.closure=[]
 blt:fd.builtins=builtinsNs
 FT:fd.params.posonlyargs=[]
 Jt:fd.params.kwonlyargs=[]
 vararg:fd.params.vararg=none
 kwarg:fd.params.kwarg=none
 args:fd.params.args.map (·.arg)=ps.map Nm.str
 nodup:(ps.map Nm.str).Nodup
 dflt:(fd.defaults=.none∧D=[])∨∃T o n,fd.defaults=.ref T∧(Kf P).lookup T=some o∧o.data=.seq D.toArray n
 Nf:D.length≤ps.length
 code:∃c o vs t,fd.code=.ref c∧(Kf P).lookup c=some o∧o.data=.fields vs∧vs[1]? =some (.str fd.qualname t)
 cells:fd.scope.names.any (λx=>x.2==.cell)=true→∃c T,fd.code=.ref c∧c∉ff∧T∈ff∧∀h:Heap,(Kf P).In h→CodeHd h c T
 kind:fd.scope.kind=.function
 co:fd.scope.isCoroutine=false
 gen:fd.scope.isGenerator=false
 ps:∀p∈ps,Ck (ba fd.scope p.str)=true
 names:∀x∈fd.scope.names,x7 x.2=true
 ok:pf b fd.scope (BF (jX fd.body)) 0=true
theorem FU{P:Params}{fd:FuncData}(h:LY P fd=true):∃c T,fd.code=.ref c∧c∉ff∧T∈ff∧∀h:Heap,(Kf P).In h→CodeHd h c T:=by
 obtain⟨x,h⟩:=Option.isSome_iff_exists.mp h
 obtain⟨c,u,h⟩:=Option.bind_eq_some_iff.mp h
 obtain⟨o,s,h⟩:=Option.bind_eq_some_iff.mp h
 obtain⟨vs,r,h⟩:=Option.bind_eq_some_iff.mp h
 obtain⟨T,p,h⟩:=Option.bind_eq_some_iff.mp h
 have h:=(zk h).1
 have h2:=aF h
 have i:=aF h2
 have g:=aF i
 have f:=aF g
 have e:=aF f
 have a:=aF e
 obtain⟨q,d⟩:=Option.isSome_iff_exists.mp (aV f)
 obtain⟨t,d⟩:=tW d
 obtain⟨i1,k,n⟩:=so (aV e)
 obtain⟨b,m⟩:=x4 (aV a)
 obtain⟨i2,j,l⟩:=so (aV (aF a))
 exact⟨c,T,pP u,λz=>(by have:=hU (aV h);rw[List.contains_iff_mem.mpr z]at this;cases this),List.contains_iff_mem.mp (aV h2),λhp X=>
  ⟨o,vs,q,t,i1,k,b,i2,j,X _ _ s,beq_iff_eq.mp (aV i),zj r,beq_iff_eq.mp (aV g),pP p,d,n,m,l,bne_iff_ne.mp (aF (aF a))⟩⟩
theorem ME{P:Params}{a:Addr}{ps:List Nm}{b:List XS}{nd:Nat}(X:bX P a ps b nd):∃fd D,MD P a ps b fd D∧(nd=0∨(D.length=nd∧∀v∈D,v=.none)):=by
 obtain⟨fd,x,h⟩:=Option.bind_eq_some_iff.mp X.c
 have h:=(zk h).1
 have e:=X.e
 rw[x]at e
 obtain⟨o,K,J⟩:=Option.bind_eq_some_iff.mp x
 obtain⟨D,i,A⟩:=(show∃D,dflt P fd=some D∧(decide (D.length≤ps.length)&&(nd.beq 0||((D.length).beq nd&&D.all mE)))=true from by
  have:=aF h
  cases q:dflt P fd with
  |none=>rw[q]at this;cases this
  |some D=>rw[q]at this;exact⟨D,rfl,this⟩)
 have w:=aV h
 have h2:=aF w
 have u:=aF h2
 have r:=aF u
 have p:=aF r
 have m:=aF p
 have l:=aF m
 have k:=aF l
 have j:=aF k
 have g:=aF j
 have f:=aF g
 have d:=aF f
 have s:=aV d
 obtain⟨c,V,U⟩:=Option.bind_eq_some_iff.mp (beq_iff_eq.mp (aV g))
 obtain⟨H,S,R⟩:=Option.bind_eq_some_iff.mp U
 obtain⟨vs,Q,O⟩:=Option.bind_eq_some_iff.mp R
 obtain⟨q,N,M⟩:=Option.bind_eq_some_iff.mp O
 obtain⟨t,L⟩:=tW M
 refine⟨fd,D,⟨⟨o,K,CO J⟩,(Option.some.inj e).symm,beq_iff_eq.mp (aV w),List.isEmpty_iff.mp (aV h2),beq_iff_eq.mp (aV u),List.isEmpty_iff.mp (aV r),List.isEmpty_iff.mp (aV p),Option.isNone_iff_eq_none.mp (aV m),Option.isNone_iff_eq_none.mp (aV l),of_decide_eq_true (aV k),of_decide_eq_true (aV j),?_,of_decide_eq_true (aV A),
  ⟨c,H,vs,t,pP V,S,zj Q,L▸N⟩,λz=>FU ((Bool.or_eq_true_iff.mp (aV f)).elim (λy=>nomatch (hU y).symm.trans z) id),nW (aV s),hU (aV (aF s)),hU (aV (aF (aF s))),List.all_eq_true.mp (aV (aF (aF (aF s)))),List.all_eq_true.mp (aF (aF (aF (aF s)))),aF d⟩,?_⟩
 ·unfold dflt at i
  cases q:mE fd.defaults with
  |true=>rw[q]at i;exact .inl ⟨qI q,(Option.some.inj i).symm⟩
  |false=>
   rw[q]at i
   obtain⟨T,G,F⟩:=Option.bind_eq_some_iff.mp i
   obtain⟨o,E,C⟩:=Option.bind_eq_some_iff.mp F
   exact(FR C).elim λn B=>.inr ⟨T,o,n,pP G,E,B⟩
 ·exact(Bool.or_eq_true_iff.mp (aF A)).imp Nat.eq_of_beq_eq_true λy=>⟨Nat.eq_of_beq_eq_true (aV y),λv I=>qI (List.all_eq_true.mp (aF y) v I)⟩
def Fn(d:Nat)(a:Addr)(vs:List MV)(H:Hp)(v:MV)(e:Hp):Prop:=∀C,FC.Ok C d→∀N b s xs(R:Result→Shared→Prop),aO C.G N H s→dU C N b s.heap→dE N s.heap vs xs→
 (∀x s' c,aO C.G c e s'→Ext YN N c s.heap s'.heap→RV c s'.heap v x→R (.ok (.ret x)) s')→cq (model pw C.G.w) C.A (.call (.ref a) ⟨xs,[]⟩) R s
def x8(d:Nat)(a:Addr)(vs:List MV)(H c:Hp):Prop:=∀C,FC.Ok C d→∀N b s xs(R:Result→Shared→Prop),aO C.G N H s→dU C N b s.heap→dE N s.heap vs xs→
 (∀e s',u' YN C N c s.heap e s'→R (.error e) s')→cq (model pw C.G.w) C.A (.call (.ref a) ⟨xs,[]⟩) R s
theorem Fn.up{d:Nat}{a:Addr}{vs:List MV}{H b:Hp}{v:MV}(k:Nat)(h:Fn d a vs H v b):Fn (d+k) a vs H v b:=by
 induction k with
 |zero=>exact h
 |succ k ih=>exactλC O=>ih C O.less
theorem x8.up{d:Nat}{a:Addr}{vs:List MV}{H b:Hp}(k:Nat)(h:x8 d a vs H b):x8 (d+k) a vs H b:=by
 induction k with
 |zero=>exact h
 |succ k ih=>exactλC O=>ih C O.less
noncomputable def Ju:Fl→Option MV
 | .ret v=>some v
 | .next=>some .none
 |_=>none
section
variable{C:FC}{m:Nat}{N N1 N':cb}{H H':Hp}{s s' s1:Shared}{FO ρ ρ':Loc}{e:Value}
theorem sq(O:C.Ok (m+1)){env:Env}(k:env.scope.kind=.function)(g:env.globals=mainGlobals)(b:env.builtins=builtinsNs)(lb:∀(n m:Nm) c,env.cells.lookup n.str=some c→env.cells.lookup m.str=some c→n=m)
  (gr:∀n:Nm,env.kindOf n.str=some .cell∨env.kindOf n.str=some .free→(env.cells.lookup n.str).isSome=true)
  (code:env.scope.names.any (λx=>x.2==.cell)=true→∃c P,env.code=.ref c∧c∉ff∧P∈ff∧CodeHd C.G.h₀ c P):(C.callee env).Ok m where
 G:=O.G
 hA:=Around.frames_deeper O.hA
 hd:=O.hd
 guards:=O.guards
 kind:=k
 scope:=λn=>by
  show match env.kindOf n.str with|some .local=>_|some .cell=>_|some .free=>_|some .globalImplicit=>_|_=>_
  cases q:env.kindOf n.str with
  |none=>trivial
  |some k=>cases k<;>first|exact q|exact .inr q|trivial
 glob:=g
 blt:=b
 room:=by have:=O.room;show C.A.depth+1+10*m+30<_;omega
 units:=by have:=O.units;show C.A.units+3+60*m+200<_;omega
 lb:=lb
 gr:=gr
 code:=code
theorem sr(O:C.Ok (m+1)){a:Addr}{ps:List Nm}{b:List XS}{fd:FuncData}{D:List Value}(X:MD C.G.w.params a ps b fd D){xs ys:List Value}(I:aO C.G N H s)(Fr:dU C N FO s.heap)
  (F:xs.length≤ps.length)(M:bindL (ps.map Nm.str) xs D=some ((ps.map Nm.str).zip ys)){R:Result→Shared→Prop}
  (k:∀env N1 s1,env.scope=fd.scope→(C.callee env).Ok m→aO C.G N1 H s1→dU (C.callee env) N1 [] s1.heap→Ext YN N N1 s.heap s1.heap→(∀x,fK (C.callee env) x→¬aR s.heap x)→∀g,(∀n v u,g (n,v) u=(do storeName env n v;pure (ForInStep.yield PUnit.unit)))→
   wpAny (model pw C.G.w) C.A.in1 (forIn ((ps.map Nm.str).zip ys) PUnit.unit g) (λ_ r=>r.heap.NoLimit∧cq (model pw C.G.w) C.A (.func (y5 b (BF (jX fd.body)) 0) env) R r) (λe s'=>R (.error e) s') s1):
  cq (model pw C.G.w) C.A (.call (.ref a) ⟨xs,[]⟩) R s:=by
 obtain⟨o,J,hd⟩:=X.obj
 have K:=jH O I
 have p:s.heap.CodeRec fd.code fd.qualname:=X.code.elim λc q=>q.elim λE q=>q.elim λz q=>q.elim λt q=>⟨c,E,z,t,q.1,K _ _ q.2.1,q.2.2⟩
 have i:C.A.depth<recursionLimit:=Nat.lt_of_le_of_lt (Nat.le_trans (Nat.le_add_right _ (10*(m+1))) (Nat.le_add_right _ 30)) O.room
 have h:(fd.params.args.map (·.arg)).length=ps.length:=by rw[X.args,List.length_map]
 have B:BindsTo s fd ⟨xs,[]⟩ ((ps.map Nm.str).zip ys):=nY (D:=D) X.FT X.Jt X.vararg X.kwarg
  (X.dflt.imp_right λq=>q.elim λT q=>q.elim λo q=>q.elim λn q=>⟨T,o,n,q.1,K _ _ q.2.1,q.2.2⟩) (h.symm▸F) (h.symm▸X.Nf) (X.args.symm▸M)
 have S:Entry C N s.heap fd.scope [] []:={k:=X.kind,loc:=λn v q=>(nomatch q),one:=.inl ⟨rfl,rfl⟩,inj:=λn m c q=>(nomatch q),cell:=λn c q=>(nomatch q)}
 refine rS i (K _ _ J) hd X.co X.gen X.body p (.of (B _ _ _ _ ?_))
 rw[X.glob,X.Nc,X.blt]
 refine .of (sj O I Fr S λenv N1 s1 d lb Q U y dead g l=>?_)
 have f:env.scope=fd.scope:=d▸rfl
 have j:env.code=fd.code:=d▸rfl
 have gr:∀n:Nm,env.kindOf n.str=some .cell∨env.kindOf n.str=some .free→(env.cells.lookup n.str).isSome=true:=λn h=>h.elim
  (λh=>d▸AG (.inl (mem_of_lookup (show fd.scope.names.lookup n.str=some .cell from f▸h))))
  λh=>nomatch (show x7 .free=true from X.names _ (mem_of_lookup (show fd.scope.names.lookup n.str=some .free from f▸h)))
 have P:=sq O (env:=env) (f.symm▸X.kind) (d▸rfl) (d▸rfl) lb gr λL=>(X.cells (f▸L)).imp λc q=>q.imp λT q=>⟨j.trans q.1,q.2.1,q.2.2.1,q.2.2.2 _ O.G.jH⟩
 exact k env N1 s1 f P Q U y dead g l
theorem tX(O:C.Ok (m+1)){a:Addr}{ps:List Nm}{b:List XS}{fd:FuncData}{D:List Value}(X:MD C.G.w.params a ps b fd D){vs:List MV}{xs ys:List Value}(I:aO C.G N H s)(Fr:dU C N FO s.heap)
  (d:xs.length≤ps.length)(o:bindL (ps.map Nm.str) xs D=some ((ps.map Nm.str).zip ys))(hl:ps.length=vs.length)(r:dE N s.heap vs ys){R:Result→Shared→Prop}
  (k:∀env N' s',env.scope=fd.scope→(C.callee env).Ok m→aO C.G N' H s'→dU (C.callee env) N' (bindAll ps vs []) s'.heap→Ext YN N N' s.heap s'.heap→(∀x,fK (C.callee env) x→¬aR s.heap x)→cq (model pw C.G.w) C.A (.func (y5 b (BF (jX fd.body)) 0) env) R s'):
  cq (model pw C.G.w) C.A (.call (.ref a) ⟨xs,[]⟩) R s:=
 sr O X I Fr d o λenv N1 s1 c h q u i dead g f=>
  vA (C':=C.callee env) h f (λp hp=>y8 h (show Ck (ba env.scope p.str)=true from c.symm▸X.ps p hp)) hl q u (r.ext i) λn j t l=>
   ⟨p7 O j,k env N1 n c h j t (i.comp l (λx d=>.inr (dead x d)) I.hp.lt) dead⟩
theorem CP(O:C.Ok (m+1)){a:Addr}{p:Nm}{b:List XS}{fd:FuncData}{D:List Value}(X:MD C.G.w.params a [p] b fd D)(hp:ba fd.scope p.str=some .local){x:Value}(I:aO C.G N H s)(Fr:dU C N FO s.heap){R:Result→Shared→Prop}
  (k:∀env N' s',env.scope=fd.scope→(C.callee env).Ok m→aO C.G N' H s'→dU (C.callee env) N' [] s'.heap→Ext YN N N' s.heap s'.heap→(∀x,fK (C.callee env) x→¬aR s.heap x)→(∃mp,s'.heap.Ns env.locals mp∧mp p.str=some x)→cq (model pw C.G.w) C.A (.func (y5 b (BF (jX fd.body)) 0) env) R s'):
  cq (model pw C.G.w) C.A (.call (.ref a) ⟨[x],[]⟩) R s:=
 sr (xs:=[x]) (ys:=[x]) O X I Fr (Nat.le_refl 1) (qH X.nodup rfl) λenv N1 s1 c f o t j dead g d=>by
  show wpAny _ _ (forIn [(p.str,x)] _ _) _ _ _
  rw[List.forIn_cons,d]
  exact wpAny_bind (wpAny_bind (r_ (C:=C.callee env) (ρ':=[]) f.kind o t (show env.scope.names.lookup p.str=some .local from c▸hp) (λ_ _ q=>nomatch q) λl h r i mp=>
   wpAny_pure (wpAny_pure ⟨p7 O h,k env N1 l c f h r (j.comp i (λy n=>.inr (n▸dead _ (.inl rfl))) I.hp.lt) dead mp⟩)))
noncomputable def fY(l:List Env):List Addr:=l.filterMap (·.frame)
theorem qJ{h B:Heap}{l:List Env}(k:∀e∈l,e.scope.kind≠ .module∧∃L,e.frame=some L∧∃o,h.get? L=some o∧f_ o∧B.get? L=none):h.FunFrames B l:=by
 induction l with
 |nil=>trivial
 |cons e l ih=>
  obtain⟨a,L,g,o,f,⟨_,es,n,d⟩,c⟩:=k e (List.mem_cons_self ..)
  exact⟨a,⟨L,o,g,c,f,λvs q=>nomatch d.symm.trans q⟩,ih λe b=>k e (List.mem_cons_of_mem _ b)⟩
theorem su{env:Env}{a:Heap}{M:Model}(d:C.A.frames=some C.fr)(l:C.fr=env::C.fr.tail)(hf:∃L,env.frame=some L)(F:dU C N' ρ' a)(x:td a e s'.heap∨u_ C.fr N' a e s'.heap){Q:Unit→Shared→Prop}{E:Value→Shared→Prop}
  (k:∀h',u_ C.fr.tail N' a e h'→Q () {s' with heap:=h'}):wpAny M C.A (leaving env e) Q E s':=by
 obtain⟨L,t⟩:=hf
 rw[l]at d
 rcases x with⟨kept,x,J,vs,n,rfl,g,h,hd,z,D,w⟩|⟨x,n,B,rfl,c,kept,up⟩
 ·have G:∀e∈C.fr,e.scope.kind≠ .module∧∃L,e.frame=some L∧∃o,s'.heap.get? L=some o∧f_ o∧(hideAll a (fY C.fr)).get? L=none:=λe f=>
   ⟨(F.frames e f).1,(F.frames e f).2.imp λL q=>⟨q.1,q.2.imp λo q'=>⟨kept _ _ q'.1,q'.2,hideAll_none _ (List.mem_filterMap.mpr ⟨e,f,q.1⟩)⟩⟩⟩
  have nx:(hideAll a (fY C.fr)).get? x=none:=match q:(hideAll a (fY C.fr)).get? x with
   |none=>rfl
   |some o=>nomatch (of_hideAll _ q).symm.trans w
  refine wpAny_leaving_firstW (base:=hideAll a (fY C.fr)) d (qJ (l▸G)) t g (λb o q=>kept b o (of_hideAll _ q)) nx hd z D λh' y=>k h' ?_
  obtain⟨j,⟨_,_,i⟩,p,v⟩:=y
  rw[h]at p
  refine⟨x,n,_,rfl,⟨j,nx,i,p⟩,λy o q=>?_,(Heap.UpToSlots.of_keeps kept).trans v⟩
  by_cases r:y∈fY C.fr
  ·obtain⟨e,f,u⟩:=List.mem_filterMap.mp r
   obtain⟨O,b1,K,b2,I⟩:=(F.frames e f).2
   cases b1.symm.trans u
   cases b2.symm.trans q
   exact .inr ⟨(F.ok _ (.inr (.inr ⟨e,f,u⟩))).1,I⟩
  ·exact .inl (hideAll_get _ q r)
 ·rw[l]at c
  exact wpAny_leaves_onW d t c λh' j i=>k h' ⟨x,n,B,rfl,j,kept,up.trans i⟩
end
section
variable{m:Nat}{a:Addr}{ps:List Nm}{b:List XS}{nd:Nat}{vs ws:List MV}{H H':Hp}{f:Fl}{v:MV}{ρ':Loc}
theorem vB{C:FC}{N g:cb}{s d:Shared}{env:Env}{fd:FuncData}{ρ:Loc}(O:(C.callee env).Ok m)(h:env.scope=fd.scope)(ok:pf b fd.scope (BF (jX fd.body)) 0=true)(B:gj m b ρ H f ρ' H')(e:Ju f=some v)(I:aO C.G g H d)(F:dU (C.callee env) g ρ d.heap)(x:Ext YN N g s.heap d.heap)(dead:∀x,fK (C.callee env) x→¬aR s.heap x)
  (lt:∀x,N.own x≠ .no→aR s.heap x){R:Result→Shared→Prop}(k:∀x s' c,aO C.G c H' s'→Ext YN N c s.heap s'.heap→RV c s'.heap v x→R (.ok (.ret x)) s'):cq (model pw C.G.w) C.A (.func (y5 b (BF (jX fd.body)) 0) env) R d:=
 yO (B (C.callee env) _ 0 O rfl (show pf b env.scope _ 0=true from h.symm▸ok) g d _ _ I F λfl s' c o j n q=>by
  have i:=x.comp n (λy l=>.inr (dead y l)) lt
  cases o with
  |next=>cases e;exact k _ s' c j i .none
  |ret p=>cases e;exact k _ s' c j i p
  |brk=>cases e
  |cont=>cases e)
theorem CQ{C:FC}{N d:cb}{s c:Shared}{env:Env}{fd:FuncData}{ρ:Loc}(O:(C.callee env).Ok m)(g:env.scope=fd.scope)(ok:pf b fd.scope (BF (jX fd.body)) 0=true)(B:vo m b ρ H ρ' H')(I:aO C.G d H c)(F:dU (C.callee env) d ρ c.heap)(x:Ext YN N d s.heap c.heap)(dead:∀x,fK (C.callee env) x→¬aR s.heap x)
  (lt:∀x,N.own x≠ .no→aR s.heap x){R:Result→Shared→Prop}(k:∀e s',u' YN C N H' s.heap e s'→R (.error e) s'):cq (model pw C.G.w) C.A (.func (y5 b (BF (jX fd.body)) 0) env) R c:=
 yO (B (C.callee env) _ 0 O rfl (show pf b env.scope _ 0=true from g.symm▸ok) d c _ _ I F λe s' h=>h.elim λj h=>h.elim λl h=>
  .of (su (C:=C.callee env) (env:=env) O.hA rfl ((F.frames env (List.mem_cons_self ..)).2.imp λ_ q=>q.1) h.2.2.1 h.2.2.2 λh' y=>k _ _ ⟨j,l,h.1,x.comp h.2.1 (λy i=>.inr (dead y i)) lt,.inr y⟩))
theorem vC{ps:List Nm}:(ps.map Nm.str).length=ps.length:=List.length_map _
theorem aJ(X:∀P,bX P a ps b nd)(hl:ps.length=vs.length)(B:gj m b (bindAll ps vs []) H f ρ' H')(g:Ju f=some v):Fn (m+1) a vs H v H':=λC O N d s xs R I Fr r k=>
 (ME (X C.G.w.params)).elim λfd q=>q.elim λD q=>tX O q.1 I Fr (Nat.le_of_eq (r.1.trans hl.symm)) (qH q.1.nodup (vC.trans (hl.trans r.1.symm))) hl r λenv l s' c h i j e dead=>
  vB h c q.1.ok B g i j e dead I.hp.lt k
theorem tY(X:∀P,bX P a ps b nd)(hl:ps.length=vs.length)(B:vo m b (bindAll ps vs []) H ρ' H'):x8 (m+1) a vs H H':=λC O N d s xs R I Fr r k=>
 (ME (X C.G.w.params)).elim λfd q=>q.elim λD q=>tX O q.1 I Fr (Nat.le_of_eq (r.1.trans hl.symm)) (qH q.1.nodup (vC.trans (hl.trans r.1.symm))) hl r λenv j s' c g h i e dead=>
  CQ g c q.1.ok B h i e dead I.hp.lt k
theorem FV{p o n l j i g:Nm}{v1 x u:MV}(X:∀P,bX P a [p,o,n,l,j,i,g] b 4)(hp:∀e d c:Value,bindL ([p,o,n,l,j,i,g].map Nm.str) [e,d,c] [.none,.none,.none,.none]=some (([p,o,n,l,j,i,g].map Nm.str).zip [e,d,c,.none,.none,.none,.none]))
  (B:gj m b (bindAll [p,o,n,l,j,i,g] [v1,x,u,.none,.none,.none,.none] []) H f ρ' H')(J:Ju f=some v):Fn (m+1) a [v1,x,u] H v H':=λC O N y s xs R I Fr r k=>
 (ME (X C.G.w.params)).elim λfd q=>q.elim λD q=>by
  obtain⟨e,us,M,F,r⟩:=r.split
  obtain⟨d,c,L,E,A⟩:=r.two
  subst M L
  have K:D=[.none,.none,.none,.none]:=q.2.elim (λh=>nomatch h) λh=>List.eq_replicate_iff.mpr h
  exact tX (xs:=[e,d,c]) O q.1 I Fr (Nat.le_add_right 3 4) (K.symm▸hp e d c) rfl (.cons F (.cons E (.cons A (.cons .none (.cons .none (.cons .none (.cons .none .nil))))))) λenv U s' t Q S T z dead=>vB Q t q.1.ok B J S T z dead I.hp.lt k
end
end Mine
end
section
open PySem PySem.W PyProof.Rows PySem.Calls
namespace Mine
open Nm
noncomputable def FW:Scope:={kind:=.function,names:=[],isGenerator:=false,isCoroutine:=false,more:=[]}
noncomputable def Ng:Env:={scope:=FW,locals:=6,globals:=mainGlobals,cells:=[],builtins:=builtinsNs}
theorem CR{x y:String}(h:Value.type x=Value.type y):x=y:=by injection h
theorem zm(P:Params){a:Addr}{o:Obj}(h:(Kf P).lookup a=some o):(Kt P).lookup a=some o:=by
 unfold Kt
 rw[List.lookup_append,h]
 rfl
theorem Jv(P:Params):(Kt P).lookup 6=some {cls:=.type "dict",data:=.dict #[]}:=by kernel_rfl
theorem zo(P:Params):∀a∈ff,(Kt P).lookup a=some (tabObj #[]):=by
 intro a b
 simp only[ff,List.mem_cons,List.not_mem_nil,or_false]at b
 rcases b with rfl|rfl|rfl|rfl|rfl|rfl|rfl|rfl|rfl<;>kernel_rfl
theorem Jw(P:Params):(Kf P).lookup 6=none:=by kernel_rfl
theorem Jx(P:Params):nsIn (Kf P) mainGlobals "law" =some (some (.ref 910)):=by kernel_rfl
theorem FX(P:Params):∀a∈ff,∃c o,(Kf P).lookup c=some o∧o.cls=.type "code"∧∃vs,o.data=.fields vs∧vs[11]? =some (.ref a):=by
 have key:(ff.all λa=>(Kf P).any λp=>match(Kf P).lookup p.1 with|some o=>o.cls==.type "code" &&(match o.data with| .fields vs=>vs[11]? ==some (.ref a)|_=>false)|none=>false)=true:=by kernel_rfl
 intro a e
 have:=List.all_eq_true.mp key a e
 obtain⟨p,hp,h⟩:=List.any_eq_true.mp this
 split at h
 ·rename_i o d
  simp only[Bool.and_eq_true,beq_iff_eq]at h
  obtain⟨h2,b⟩:=h
  split at b
  ·rename_i vs hd
   exact⟨p.1,o,d,h2,vs,hd,eq_of_beq b⟩
  ·cases b
 ·cases h
theorem vD{R:WRecords}:∀{xs:List WData},WShape.hasItems R xs .int=true→∃ns:List Int,xs=ns.map WData.int
 |[],_=>⟨[],rfl⟩
 |d::r,h=>by
  have h:(WShape.has R d .int&&WShape.hasItems R r .int)=true:=h
  simp only[Bool.and_eq_true]at h
  obtain⟨i,rfl⟩:=hasW_int h.1
  obtain⟨ns,rfl⟩:=vD h.2
  exact⟨i::ns,rfl⟩
theorem CS{args:List WData}(h:R0.toRowW.claim.pre args=true):∃ns:List Int,args=[.list (ns.map WData.int)]∧ns.length≤63:=by
 obtain⟨g,h2⟩:=pre_splitW h
 obtain⟨d,r,rfl,f,e⟩:=hasAllW_cons g
 cases hasAllW_nil e
 obtain⟨xs,rfl,c⟩:=hasW_list f
 obtain⟨ns,rfl⟩:=vD c
 refine⟨ns,rfl,?_⟩
 have h2:(OpenLaw.pre PySem.Challenge.rw_tn0031_01).holds [] {args:=[.list (ns.map WData.int)]}=true:=h2
 have a:PySem.Challenge.rw_tn0031_01.most=some 63:=rfl
 have hb:PySem.Challenge.rw_tn0031_01.bound=none:=rfl
 unfold OpenLaw.pre at h2
 rw[a,hb]at h2
 simp[WTm.holds,WTm.value]at h2
 have hl:less? (.int 63) (.int (ns.length:Int))=some (decide ((63:Int)<(ns.length:Int))):=by first|rfl|simp[less?]
 rw[hl]at h2
 by_cases b:(63:Int)<(ns.length:Int)
 ·simp[b]at h2
 ·lia
theorem sv{P:Params}{h:Heap}:∀{ns:List Int}{vs:List Value},WellAll P h vs (ns.map WData.int)→∃ts:List Tok,vs=(ns.zip ts).map (λp=>.int p.1 p.2)∧ts.length=ns.length
 |[],vs,w=>by cases w;exact⟨[],rfl,rfl⟩
 |n::ns,vs,w=>by
  cases w with
  |cons a r=>
   cases a
   rename_i t
   obtain⟨ts,rfl,hl⟩:=sv r
   exact⟨t::ts,rfl,by simp[hl]⟩
theorem CT{N:cb}{h:Heap}{ns:List Int}:∀{ts:List Tok},ts.length=ns.length→dE N h (ns.map MV.int) ((ns.zip ts).map λp=>Value.int p.1 p.2):=by
 induction ns with
 |nil=>exactλ{ts} l=>(List.eq_nil_of_length_eq_zero l)▸ .nil
 |cons n ns ih=>
  intro ts l
  cases ts with
  |nil=>cases l
  |cons t ts=>exact .cons (.int n t) (ih (Nat.succ.inj l))
theorem Jy{w:World}{s:Shared}{mg mb:Str→Option Value}(X:(Kt w.params).In s.heap)(hg:s.heap.Ns mainGlobals mg)(hb:s.heap.Ns builtinsNs mb)(hl:s.heap.NoLimit)(K:∀x:Str,x≠"__name__"→mb x=bootBuiltins x)
  (W:∃bm A,mg "__builtins__" =some (.ref bm)∧bm≠builtinsNs∧s.heap.get? bm=some A∧A.cls=.type "module"∧A.dict=some builtinsNs∧A.data=.plain)(u:s.gens= #[])
  {D:Addr}{ns:List Int}{ts:List Tok}(M:s.heap.get? D=some {cls:=.type "list",data:=.seq ((ns.zip ts).map λp=>Value.int p.1 p.2).toArray})(U:ts.length=ns.length)
  {H':Hp}(T:Fn 25 910 [.lst (ns.map .int)] BC (.bool true) H'){E:Value→Shared→Prop}:
  aX (model pw w) callerA (PySem.call (.ref 910) [.ref D]) (λv s'=>v=.bool true∧OldK s.heap s'.heap∧s'.os=s.os∧s'.gens= #[]) E s:=by
 have L:=X _ _ (Jv w.params)
 have hK:(Kf w.params).In s.heap:=λa o e=>X a o (zm _ e)
 have D6:D≠6:=λq=>by rw[q,L]at M;exact absurd (CR (congrArg Obj.cls (Option.some.inj M))) (by decide)
 have Q:D∉ff:=λha=>by have:=X _ _ (zo w.params D ha);rw[M]at this;cases this
 have i:∀b o,s.heap.get? b=some o→b≠6→(hideAll s.heap [6]).get? b=some o:=λb o q h1=>hideAll_get _ q (by simp[h1])
 have l:∀{a m},s.heap.Ns a m→a≠6→(hideAll s.heap [6]).Ns a m:=λn h=>let⟨o,es,ep,g,r⟩:=n;⟨o,es,ep,i _ _ g h,r⟩
 have j:(hideAll s.heap [6]).get? 6=none:=hideAll_none _ (by simp)
 let G:GC:=⟨w,hideAll s.heap [6],mg,mb,s.os⟩
 have OG:G.Ok:=by
  refine⟨λa o e=>i a o (hK a o e) (λq=>?_),l hg (by decide),l hb (by decide),?_,K,?_⟩
  ·rw[q,Jw]at e;cases e
  ·obtain⟨mc,g,r⟩:=hl
   exact⟨mc,l g (by decide),r⟩
  ·obtain⟨bm,A,b1,b2,B,Z,b5,Y⟩:=W
   refine⟨bm,A,b1,b2,λq=>?_,λq=>?_,i _ _ B (λq=>?_),Z,b5,Y⟩
   ·obtain⟨o,es,ep,g,d,_⟩:=hg
    rw[q,g]at B;cases B;rw[d]at Y;cases Y
   ·have:=X _ _ (zo w.params bm q);rw[B]at this;cases this;cases Z
   ·rw[q,L]at B;cases B;exact absurd (CR Z) (by decide)
 let C:FC:=⟨G,Ng,FW,[],callerA⟩
 have OC:C.Ok 25:=by
  refine⟨OG,rfl,rfl,rfl,rfl,λn=>trivial,rfl,rfl,?_,?_,λn m c h=>?_,λn h=>?_,λh=>?_⟩
  ·show callerA.depth+10*25+30<recursionLimit
   decide
  ·show callerA.units+60*25+200<cLine
   decide
  ·cases h
  ·rcases h with h|h<;>cases h
  ·cases h
 let N:cb:=⟨λ_ _=>0,λ_ _=>0,λb=>if b=6 then .t else .no⟩
 have S:N.own 6=.t:=(if_pos rfl:(if(6:Addr)=6 then Ow.t else Ow.no)=.t)
 have H:∀b,b≠6→N.own b=.no:=λb h=>(if_neg h:(if b=(6:Addr)then Ow.t else Ow.no)=.no)
 have R:∀a∈ff,a≠6:=by decide
 have J:∀b,N.own b≠ .no→b=6:=λb q=>Classical.byContradiction λh=>q (H b h)
 have I:aO G N BC s:=by
  refine⟨λb o q _=>of_hideAll _ q,λb o q=>H b λz=>?_,⟨λc k q=>absurd q (Nat.not_lt_zero k),λP hP=>?_,λx q=>⟨_,J x q▸L⟩,λx c k q=>?_⟩,u,rfl⟩
  ·rw[z,j]at q;cases q
  ·exact⟨H P (R P hP), #[],X _ _ (zo _ P hP),(by first|trivial|simp[TriplesOk]),λpos cv q=>by cases q⟩
  ·have:=J x λz=>nomatch q.symm.trans z
   rw[this,S]at q;cases q
 have F:dU C N [] s.heap:=by
  refine⟨λx q=>?_,⟨λ_=>none,⟨_, #[],0,L,rfl,(λe V=>absurd V (by simp)),λ_=>rfl⟩,(λn v q=>by cases q)⟩,(λn c q=>by cases q),(λe V=>by cases V)⟩
  rcases q with q|⟨n,q⟩|⟨e,q,_⟩
  ·have q:x=6:=q
   subst q
   exact⟨S,by decide,j⟩
  ·cases q
  ·cases q
 have rD:RV N s.heap (.lst (ns.map .int)) (.ref D):=have r:=CT (N:=N) (h:=s.heap) U; .lst _ 0 M (H D D6) Q r.1 r.2
 refine ip (T C OC N [] s [.ref D] _ I F (.cons rD .nil) λx s' N' I' e p=>?_)
 refine⟨p.d,⟨λb o q=>?_,λb o q=>e.al b ⟨o,q⟩ λy=>y⟩,I'.os,I'.gens⟩
 by_cases h2:b=6
 ·subst h2
  refine .inl (e.xp q S (λy=>y) λf=>?_)
  rw[L]at q;cases q;exact absurd (CR f.1) (by decide)
 ·by_cases O:b∈ff
  ·have:=X _ _ (zo w.params b O)
   rw[q]at this
   cases this
   obtain⟨_,ps,g,_⟩:=I'.hp.t b O
   obtain⟨c,oc,c1,c2,vs,c3,c4⟩:=FX w.params b O
   exact .inr (.inl ⟨⟨c,oc,vs,hK _ _ c1,c2,c3,c4⟩,rfl, #[],ps,rfl,by rw[g];simp⟩)
  ·exact .inl (e.same b o q (H b h2) O)
theorem walk_law(plain:∀ns:List Int,ns.length≤63→∃y,Fn 25 910 [.lst (ns.map .int)] BC (.bool true) y)(d:DefRec)(j:List (Str×Expr))(n:defOf qv R0.name=some (d,j)):
  Bx qv lv (XL qv []) (λw h=>(Kt w.params).In h) R0.toRowW d j λf vs=>PySem.call f vs:=by
 intro w u i mg mb G Y a o pm cd doc M K L hd E I l c args vals as k x B r D
 obtain⟨ns,rfl,hlen⟩:=CS k
 have T:=G.T
 have H:(Kf w.params).In i.heap:=λa o e=>Y a o (zm _ e)
 have F:a=910:=by
  have t:=mg_of H T.g (Jx w.params)
  have h2:mg "law" =some (.ref a):=by
   have C:d.name= "law" :=defOf_name n
   rw[C]at l
   exact l
  rw[t]at h2
  cases h2
  rfl
 subst F
 cases r with
 |cons A z=>
  cases z
  cases A with
  |list m p=>
   obtain⟨ts,rfl,s⟩:=sv p
   obtain⟨y,q⟩:=plain ns hlen
   refine fu (Jy Y T.g T.b T.nolimit T.builtins T.bmain c m s q) (λv s' h=>?_) λ_ _ h=>h
   obtain⟨rfl,t,h2,J⟩:=h
   exact⟨.inl ⟨.bool true,.bool true,[],rfl,λcls=>rfl,.bool true,by first|kernel_rfl|(show(WShape.has [] (.bool true) .bool&&(WTm.eq .res (.lit (.bool true))).holds [] _)=true;simp[WTm.holds,WTm.value,WShape.has,WShape.arms]),λ_=>⟨List.nodup_nil,nofun⟩⟩,t,h2,.of_eq J⟩
end Mine
end
section
open PySem PySem.W PyProof.Rows PySem.Calls Builtin Builtin.ObjectAttr
namespace Mine
open Nm
noncomputable def Nh(P:Params)(n:Nm)(a:Addr):Bool:=nsIn (Kf P) mainGlobals n.str==some (some (.ref a))&&(funAt P a).isSome
noncomputable def Ni(P:Params)(c:Cl)(n:Nm)(a:Addr):Bool:=findIn (Kf P) (.ref c.addr) n.str==some (some (.ref a))&&(typeIn (Kf P) (.ref a)==some (.type "function")&&(funAt P a).isSome)
def tZ(n:Nm)(a:Addr):Prop:=∀P,Nh P n a=true
def fL(c:Cl)(n:Nm)(a:Addr):Prop:=∀P,Ni P c n a=true
theorem mF{G:GC}{d:Nat}{C:FC}(O:C.Ok d){N:cb}{H:Hp}{s:Shared}(I:aO C.G N H s){a:Addr}(h:(funAt C.G.w.params a).isSome=true):jm C.G.w (.ref a) s:=
 (Option.isSome_iff_exists.mp h).elim λfd q=>(Option.bind_eq_some_iff.mp q).elim λo q=>nV (jH O I _ _ q.1) (CO q.2)
noncomputable def ao(o:XE)(n:Nm)(es:List XE):XE:={b:=λp=>.Call (.Attribute (o.b (sub (sub p 0) 0)) n.str (pE (sub p 0))) (bL es p 1) [] (pE p),ok:=λsc p=>o.ok sc (sub (sub p 0) 0)&&(xe es sc p 1&&(o.pb&&(((pE (sub p 0)).endLine==(pE p).line)&&es.length.blt 20)))}
theorem CU{es:List XE}{p:PT}{i:Nat}:(bL es p i).length=es.length:=by
 induction es generalizing i with
 |nil=>rfl
 |cons e es ih=>exact congrArg Nat.succ ih
section
variable{C:FC}{d:Nat}{N:cb}{H:Hp}{s:Shared}{ρ ρ1 ρ':Loc}{H1 H2 H3 H':Hp}{n:Nm}{v:MV}{a:Addr}{vs:List MV}
theorem dt{es:List XE}(g:tZ n a)(h:p8 d es ρ H vs H1)(F:Fn d a vs H1 v H2):Ev d (ak n es) ρ H v H2:=λC p O w N s Q E I Fr k=>
 dC (.of (mh O I (aV w) (beq_iff_eq.mp (aV (g C.G.w.params))) (eg O (aF w) h I Fr λxs i o b r e l=>⟨mF (G:=C.G) O b (aF (g C.G.w.params)),ip (F C O o ρ i xs _ b r l λx f m q c j=>k x f m q (e.trans c) j)⟩)))
theorem t2(O:C.Ok d){o:XE}{es:List XE}{p:PT}(w:(ao o n es).ok C.sc p=true){b:MV}(h:Ev d o ρ H b H1)(I:aO C.G N H s)(F:dU C N ρ s.heap){Q:Value→Shared→Prop}{E:Value→Shared→Prop}
  (k:∀u c e,aO C.G e H1 c→dU C e ρ c.heap→Ext YN N e s.heap c.heap→RV e c.heap b u→∀pl:Sem Bool,aX (model pw C.G.w) C.A (getMethod u n.str pl) (λi f=>aX (model pw C.G.w) C.A (callWith (pE p) i.1 i.2 (backTo (pE p) (starEach (bL es p 1) C.env)) []) Q E f) E c):
  aX (model pw C.G.w) C.A (eval ((ao o n es).b p) C.env) Q E s:=
 sf (o.ab (aV (aF (aF w))) _ _ _ _) (aV (aF (aF (aF w)))) (by rw[CU];exact Nat.blt_eq.mp (aF (aF (aF (aF w))))) (vz _) (h C _ O (aV w) N s _ _ I F λu c e l g j pl=>k u c e l (F.ext g) g j pl)
theorem vE{N:cb}{h:Heap}{m:Str→Option Value}{fs:Loc}{b:Obj}(c:E6 N h m fs)(hl:∀x,lookIn x b=some (m x))(l:look n fs=none):shadowIn (some b) n.str=some false:=by
 unfold shadowIn
 dsimp only
 rw[hl,(c n).2 l]
 rfl
theorem qK(O:C.Ok d)(I:aO C.G N H s){c:Cl}{j:Nat}{fs:Loc}{u:Value}(g:fL c n a)(b:c.own=true)(q:H.o c j=.inst fs)(l:look n fs=none)(r:RV N s.heap (.ref c j) u){pl:Sem Bool}{Q:Value×List Value→Shared→Prop}{E:Value→Shared→Prop}(k:Q (.ref a,[u]) s):wpAny (model pw C.G.w) C.A (getMethod u n.str pl) Q E s:=
 (pL I q r).elim λe r0=>r0.2.2.2.elim λm r=>r.2.2.elim λf J=>
  have z:=g C.G.w.params
  e▸method_fn (jH O I) J.2 (tx b) (I0 b) (beq_iff_eq.mp (aV z)) (beq_iff_eq.mp (aV (aF z))) (vE r.2.1 J.1 l) (e▸k)
theorem bU{o:XE}{es:List XE}{c:Cl}{j:Nat}{fs:Loc}(g:fL c n a)(D:c.own=true)(B:Ev d o ρ H (.ref c j) H1)(q:H1.o c j=.inst fs)(l:look n fs=none)(h:p8 d es ρ H1 vs H2)(F:Fn d a (.ref c j::vs) H2 v H3):Ev d (ao o n es) ρ H v H3:=λC p O w N s Q E I Fr k=>
 t2 O w B I Fr λu R S i P r e pl=>.of (qK O i g D q l e (eg O (aV (aF w)) h i P λxs y K f M b A=>⟨mF (G:=C.G) O f (aF (aF (g C.G.w.params))),ip (F C O K ρ y (u::xs) _ f M (.cons (e.ext b) A) λx t J L m z=>k x t J L ((r.trans b).trans m) z)⟩))
theorem CV{o:XE}{es:List XE}{c:Cl}{j:Nat}{fs:Loc}(g:fL c n a)(B:c.own=true)(z:Ev d o ρ H (.ref c j) H1)(q:H1.o c j=.inst fs)(l:look n fs=none)(h:p8 d es ρ H1 vs H2)(F:x8 d a (.ref c j::vs) H2 H3):K9 d (ao o n es) ρ H H3:=λC p O w N s Q E I Fr k=>
 t2 O w z I Fr λu L M m K r f pl=>.of (qK O m g B q l f (eg O (aV (aF w)) h m K λxs x D i J b y=>⟨mF (G:=C.G) O i (aF (aF (g C.G.w.params))),ip (F C O D ρ x (u::xs) _ i J (.cons (f.ext b) y) λe t A=>k e t (A.before (r.trans b)))⟩))
end
end Mine
end
section
open PySem PySem.W PyProof.Rows PySem.Calls Builtin
namespace Mine
open Nm
theorem rC:PlainAttrs "bytearray" :=
 ⟨⟨"bytearray.__getattribute__",by rw[typeLookup_type,builtinLookup_eq_fast];kernel_rfl,by decide+kernel⟩,by rw[typeLookup_type,builtinLookup_eq_fast];kernel_rfl⟩
theorem vF:dx.str=("append" :Str):=by kernel_rfl
theorem CW:pH.str=("insert" :Str):=by kernel_rfl
theorem s_update:pI.str=("update" :Str):=by kernel_rfl
theorem LZ:kE.str=("get" :Str):=by kernel_rfl
section
variable{N:cb}{h:Heap}
theorem vG{c:Type}[DecidableEq c]{k:c}{v:Value}{kvs:List (c×Value)}(nd:(kvs.map (·.1)).Nodup):((stored kvs k v).map (·.1)).Nodup:=by
 unfold stored
 split
 ·rw[keys_map_store];exact nd
 ·rename_i q
  rw[List.map_append,List.nodup_append]
  refine⟨nd,List.nodup_cons.mpr ⟨λh=>(nomatch h),List.nodup_nil⟩,λa f b hb e=>q ?_⟩
  cases List.mem_singleton.mp hb
  exact(List.mem_map.mp f).elim λx d=>List.any_eq_true.mpr ⟨x,d.1,decide_eq_true (d.2.trans e)⟩
theorem vH{b:Loc}:∀{more kvs:List (Str×Value)}{fs:Loc},cM N h Nm.str more b→cM N h Nm.str kvs fs→(kvs.map (·.1)).Nodup→cM N h Nm.str (merged kvs more) (b.foldl (λfs e=>put e.1 e.2 fs) fs):=by
 induction b with
 |nil=>
  intro more kvs fs c p nd
  cases more with
  |nil=>exact p
  |cons _ _=>cases c.1
 |cons g b ih=>exactλ{more kvs fs} c p nd=>c.split.elim λu q=>q.elim λa q=>q.1▸ih (more:=a) (kvs:=stored kvs g.1.str u) (fs:=put g.1 g.2 fs) q.2.2 (r' q.2.1 p nd) (vG nd)
theorem x9{n:Int}{kvs:List (Int×Value)}{fs:List (Int×MV)}(p:cM N h (λx:Int=>x) kvs fs):RV N h ((jT n fs).getD .none) ((valueAt kvs n).getD .none):=
 (oR p).elim (λq=>by rw[q.1,q.2];exact .none) λq=>q.elim λu q=>q.elim λv q=>by rw[q.1,q.2.1];exact q.2.2
end
section
variable{d:Nat}{ρ:Loc}{H H1 H2 H3:Hp}{n:Nm}{v b:MV}{vs:List MV}
theorem vI{T id:String}{o:XE}{es:List XE}(z:Ev d o ρ H b H1)(look:∀C N s u,FC.Ok C d→aO C.G N H1 s→RV N s.heap b u→s.TypeIs u T∧∀a,u=.ref a→∃o,s.heap.get? a=some o∧o.dict=none)(pa:PlainAttrs T)(slot:Slot T n.str id)(ty:typeOf (.builtin id)=pure (.type "method_descriptor"))
  (h:p8 d es ρ H1 vs H2)(op:∀C N s u xs(Q:Value→Shared→Prop)(E:Value→Shared→Prop),FC.Ok C d→aO C.G N H2 s→RV N s.heap b u→dE N s.heap vs xs→(∀x s',aO C.G N H3 s'→Ext YN N N s.heap s'.heap→RV N s'.heap v x→Q x s')→aX (model pw C.G.w) C.A (call (.builtin id) (u::xs)) Q E s):Ev d (ao o n es) ρ H v H3:=λC p O w N s Q E I Fr k=>
 t2 O w z I Fr λu g j e F m c pl=>.of (getMethod_builtin (look C j g u O e c).1 pa slot ty (look C j g u O e c).2 (eg O (aV (aF w)) h e F λxs t i D J f y=>⟨fC _ _ _,op C i t u xs Q E O D (c.ext f) y λx q B l r=>k x q i B ((m.trans f).trans l) r⟩))
theorem no_dict{h:Heap}{a:Addr}{o:Obj}(g:h.get? a=some o)(hd:o.dict=none):∀a',Value.ref a=.ref a'→∃o,h.get? a'=some o∧o.dict=none:=λa' q=>Value.ref.inj q▸⟨o,g,hd⟩
theorem CX{k:Nat}{c:List MV}(q:H1.o .L k=.list c):∀C N s u,FC.Ok C d→aO C.G N H1 s→RV N s.heap (.ref .L k) u→s.TypeIs u "list"∧∀a,u=.ref a→∃o,s.heap.get? a=some o∧o.dict=none:=λC N s u O I r=>
 have o:=cT I r q;o.2.2.elim λus y=>y.elim λn y=>o.1▸⟨⟨_,y.1,rfl⟩,no_dict y.1 rfl⟩
theorem iB{o:XE}{es:List XE}{k:Nat}{e vs:List MV}(g:Ev d o ρ H (.ref .L k) H1)(q:H1.o .L k=.list e)(h:p8 d es ρ H1 [v] H2)(f:H2.o .L k=.list vs)(hl:vs.length≤1000):Ev d (ao o dx es) ρ H .none (H2.set .L k (.list (vs++[v]))):=
 vI g (CX q) PySem.F.plainAttrs_list (vF▸PySem.F.slot_list_append) PySem.F.type_list_append h λC N s u xs Q E O I r p K=>
  have o:=cT I r f;o.2.2.elim λus y=>y.elim λn y=>p.one.elim λx p=>p.1▸o.1▸ .of (append_at (hsz:=by rw[List.size_toArray,y.2.1];exact small hl) y.1 λh' c a=>
   have ex:=ew o.2.1 ⟨_,a⟩ c
   K _ _ (I.set (v:=.list _) o.2.1 ⟨_,a⟩ c ⟨o.2.1,us++[x],n+1,by rw[a,List.push_toArray],(y.2.ext ex).snoc (p.2.ext ex)⟩ s.toks) ex .none)
theorem insert_eq{us:List Value}{u:Value}{n:Nat}:Obj.mapSeq (λxs=>have k:=if(0:Int)<0 then((0:Int)+(xs.size:Int)).toNat else min (0:Int).toNat xs.size;(xs.extract 0 k).push u++xs.extract k) (W.listOf us.toArray n)=W.listOf (u::us).toArray (n+1):=by
 have a:(us.toArray.extract 0 0).push u++us.toArray.extract 0=(u::us).toArray:=by
  apply Array.toList_inj.mp
  simp
 simp only[Obj.mapSeq,W.listOf,Int.lt_irrefl,if_false,Int.toNat_zero,Nat.zero_min,a]
 simp
theorem AI{o:XE}{es:List XE}{k:Nat}{g vs:List MV}(j:Ev d o ρ H (.ref .L k) H1)(q:H1.o .L k=.list g)(h:p8 d es ρ H1 [.int 0,v] H2)(i:H2.o .L k=.list vs)(hl:vs.length≤1000):Ev d (ao o pH es) ρ H .none (H2.set .L k (.list (v::vs))):=
 vI j (CX q) PySem.F.plainAttrs_list (CW▸PySem.F.slot_list_insert) PySem.F.type_list_insert h λC N s u xs Q E O I r p K=>
  have o:=cT I r i;o.2.2.elim λus y=>y.elim λn y=>p.two.elim λx p=>p.elim λf p=>p.2.1.d.elim λt e=>p.1▸e▸o.1▸ .of (
   call_meets PySem.F.slot_list_insert ⟨_,y.1,rfl⟩ PySem.F.entry_list_insert (PySem.F.args_list_insert_3 _ _ _) (PySem.AutoSeq1.list_insert_list_int_val_1 _ _ n 0 t f (by decide) (by rw[List.size_toArray,y.2.1];exact small hl)) ⟨y.1,
   have a:=(Heap.get?_update_self _ y.1 (by rw[insert_eq];rfl)).trans (congrArg some insert_eq)
   have c:=Heap.SameBut.update s.heap _ _
   have ex:=ew o.2.1 ⟨_,a⟩ c
   K _ _ (I.set (v:=.list _) o.2.1 ⟨_,a⟩ c ⟨o.2.1,_,_,a,.cons (p.2.2.ext ex) (y.2.ext ex)⟩ s.toks) ex .none⟩)
theorem AJ{o:XE}{es:List XE}{k j:Nat}{B fs g:Loc}(A:Ev d o ρ H (.ref .S k) H1)(q:H1.o .S k=.bu B)(h:p8 d es ρ H1 [.ref .S j] H2)(t:H2.o .S k=.bu fs)(m:H2.o .S j=.bu g)(f:j≠k)(hl:fs.length+g.length≤1000):Ev d (ao o pI es) ρ H .none (H2.set .S k (.bu (g.foldl (λfs e=>put e.1 e.2 fs) fs))):=
 vI A (λC N s u O I r=>have o:=cT I r q;o.2.2.2.elim λkvs y=>o.1▸⟨y.1.typeIs,y.1.mapOf.noDict⟩) PySem.F.plainAttrs_dict (s_update▸PySem.F.slot_dict_update) PySem.F.type_dict_update h λC N s u xs Q E O I r p K=>
  have o:=cT I r t;p.one.elim λx p=>have c:=cT I p.2 m;o.2.2.2.elim λkvs y=>c.2.2.2.elim λmore a=>p.1▸c.1▸o.1▸ .of (
   call_meetsIn PySem.F.slot_dict_update y.1.typeIs PySem.F.entry_dict_update (PySem.F.args_dict_update_2 _ _) (meets_dict_update (strKind pw C.G.w) _ _ (λz=>f (by have:=c.2.1;rw[←z,o.2.1]at this;cases this;rfl)) c.2.2.1) ⟨kvs,more,y.1,a.1,by rw[y.2.len,a.2.len];exact small hl,λh' i _ l=>
   have ex:=ew o.2.1 (d_ i) l
   K _ _ (I.set (v:=.bu _) o.2.1 (d_ i) l ⟨o.2.1,o.2.2.1,_,i,vH ⟨a.2.1,a.2.2.ext ex⟩ ⟨y.2.1,y.2.2.ext ex⟩ (i5 y.1)⟩ s.toks) ex .none⟩)
theorem FY{o:XE}{es:List XE}{k:Nat}{f fs:List (Int×MV)}{i:Int}(c:Ev d o ρ H (.ref .D k) H1)(q:H1.o .D k=.dy f)(h:p8 d es ρ H1 [.int i] H2)(a:H2.o .D k=.dy fs):Ev d (ao o kE es) ρ H ((jT i fs).getD .none) H2:=
 vI c (λC N s u O I r=>have o:=cT I r q;o.2.2.2.elim λkvs y=>o.1▸⟨y.1.typeIs,y.1.mapOf.noDict⟩) PySem.F.plainAttrs_dict (LZ▸PySem.F.slot_dict_get) PySem.F.type_dict_get h λC N s u xs Q E O I r p K=>
  have o:=cT I r a;p.one.elim λx p=>p.2.d.elim λt e=>o.2.2.2.elim λkvs y=>p.1▸e▸o.1▸ .of (
   call_meetsIn PySem.F.slot_dict_get y.1.typeIs PySem.F.entry_dict_get (PySem.F.args_dict_get_2 _ _) (meets_dict_get (intKind pw C.G.w) _ (intKind_is pw C.G.w i t) o.2.2.1) ⟨_,y.1.mapOf,K _ _ (I.tok _) (.refl _ _) (x9 y.2)⟩)
theorem FZ{o:XE}{es:List XE}{k:Nat}{i bs:List UInt8}{x:UInt8}(g:Ev d o ρ H (.ref .B k) H1)(q:H1.o .B k=.dD i)(h:p8 d es ρ H1 [.int x.toNat] H2)(f:H2.o .B k=.dD bs)(hl:bs.length<1000):Ev d (ao o dx es) ρ H .none (H2.set .B k (.dD (bs++[x]))):=
 vI g (λC N s u O I r=>have o:=cT I r q;o.1▸⟨cZ o.2.2,no_dict o.2.2 rfl⟩) rC (vF▸jP) ql h λC N s u xs Q E O I r p K=>
  have o:=cT I r f;p.one.elim λy p=>p.2.d.elim λt e=>p.1▸e▸o.1▸Ah O.guards o.2.2 (Int.natCast_nonneg _) (Int.ofNat_lt.mpr x.toNat_lt) (by rw[List.size_toArray];exact small hl) λh' a c=>
   have ex:=ew o.2.1 ⟨_,a⟩ c
   K _ _ (I.set (v:=.dD _) o.2.1 ⟨_,a⟩ c ⟨o.2.1,a.trans (by simp[UInt8.ofNat,Nat.toUInt8])⟩ s.toks) ex .none
end
section
variable{prog:Program}{w:World}{A:Around}{C:Addr}{R:Result→Shared→Prop}{h:Heap}{g:Array GenState}{d:Drawn}{t:Nat}{os:OsState}
set_option maxHeartbeats 4000000 in
theorem L0{rest:List Value}{c:Addr}(Y:Makes (model prog w) h C)(hi:Looks (model prog w) h (typeLookup (.ref C) "__init__") (some (.ref c)))
  (hb:∀self,Looks (model prog w) h (bindSpecial (.ref c) self) (.ref c,[self]))
  (n:cq (model prog w) (A.under (.builtin "type.__call__" ⟨.ref C::rest,[]⟩)) (.call (.ref c) ⟨.ref (h.objs.size+1)::rest,[]⟩) (InitBack (h.objs.size+1) R) ⟨(h.push emptyDict).push (instObj C h.objs.size),g,d,t,os⟩):
  cq (model prog w) A (.call (.ref C) ⟨rest,[]⟩) R ⟨h,g,d,t,os⟩:=by
 have Y':=Y
 obtain⟨⟨u,s,cd,sl,i,y,x,q⟩,made,base,self,top,call,typ⟩:=Y
 refine iq (.of ?_)
 show wpAny _ _ (callAny (.ref C) _) _ _ _
 refine nd_load i ?_
 show wpAny _ _ (callAny.viaDunder (.ref C) _) _ _ _
 unfold callAny.viaDunder
 refine wpAny_bind (call.at ?_)
 dsimp only
 rw[tc_bind]
 refine wpAny_bind (wpAny_pure (wpAny_bind (wpAny_pure ?_)))
 refine wpAny_pure (a:=Fin.again (.call (.builtin "type.__call__") ⟨.ref C::rest,[]⟩)) ⟨rfl,rfl,?_⟩
 refine iq (.of ?_)
 show wpAny _ A.in1 (do checkBuiltinCall "type.__call__" ⟨.ref C::rest,[]⟩;again (.builtin "type.__call__" ⟨.ref C::rest,[]⟩)) _ _ _
 refine wpAny_bind (check_slot tc_kind tc_split typ (tc_args _ _ _) (wpAny_pure ⟨Code.quiet_builtin _ (by decide+kernel),rfl,md entry_typeCall ?_⟩))
 unfold Builtin.«type.__call__»
 have p:Looks (model prog w) h (mroOf (.ref C)) cd.mro:=((Looks.ld (part:=none) i).andThen .now).andThen .now
 have k:∀b o,h.get? b=some o→((h.push emptyDict).push (instObj C h.objs.size)).get? b=some o:=λb o e=>Heap.get?_push_of_some _ (Heap.get?_push_of_some _ e)
 have l:((h.push emptyDict).push (instObj C h.objs.size)).get? (h.objs.size+1)=some (instObj C h.objs.size):=by heap_get
 have f:Looks (model prog w) ((h.push emptyDict).push (instObj C h.objs.size)) (typeOf (.ref (h.objs.size+1))) (.ref C):=(Looks.ld l).andThen .now
 have j:=self.keeps k
 have i1:=hi.keeps k
 have b1:=(hb (.ref (h.objs.size+1))).keeps k
 refine bF (m:=mroOf _) (p.at ?_)
 refine jQ (r5 q) ?_
 refine bF (m:=Bind.madeBy _) (made.at ?_)
 refine bO ?_
 refine bK (b0 (.of (wpAny_call (new_K Y' hi (.inl rfl) ?_))))
 have ii:Looks (model prog w) ((h.push emptyDict).push (instObj C h.objs.size)) (isInstance (.ref (h.objs.size+1)) (.ref C)) true:=by unfold isInstance;exact f.andThen j
 refine bF (m:=isInstance _ _) (ii.at ?_)
 refine bK (b0 ?_)
 refine bF (m:=specialOf _ _) (wpAny_bind (f.at (i1.at ?_)))
 refine b0 (bF (b1.at ?_))
 refine bK (ip (rQ n λr s' z=>?_))
 rcases r with e|(v|_|_|_)<;>first|exact z|exact z.elim|skip
 obtain⟨rfl,z⟩:=z
 exact a9 (a9 z)
end
noncomputable def OH(P:Params)(n:Nm)(c:Cl)(a:Addr):Bool:=nsIn (Kf P) mainGlobals n.str==some (some (.ref c.addr))&&(makesIn (Kf P) c.addr&&(keepIn (Kf P) (.ref c.addr)&&(findIn (Kf P) (.ref c.addr) "__init__" ==some (some (.ref a))&&typeIn (Kf P) (.ref a)==some (.type "function"))))
def E1(n:Nm)(c:Cl)(a:Addr):Prop:=∀P,OH P n c a=true
section
variable{C:FC}{m d:Nat}{N N1:cb}{H H1 H2 H':Hp}{s:Shared}{ρ:Loc}{n:Nm}{c:Cl}{a:Addr}{vs:List MV}
noncomputable def FC.tc(C:FC)(a:Addr)(rest:List Value):FC:={C with A:=C.A.under (.builtin "type.__call__" ⟨.ref a::rest,[]⟩)}
theorem FC.Ok.tc(O:C.Ok (m+1))(a:Addr)(rest:List Value):(C.tc a rest).Ok m:=by
 have hd:(C.tc a rest).A.depth=C.A.depth+1:=rfl
 have b:(C.tc a rest).A.units=C.A.units+1:=rfl
 have hf:(C.tc a rest).A.frames=pushEnvs [] C.A.frames:=rfl
 have e:(C.tc a rest).A.guards=pushGuards [] C.A.guards:=rfl
 have r:=O.room
 have u:=O.units
 exact{G:=O.G,hA:=hf.trans (O.hA▸rfl),hd:=O.hd,guards:=e.trans (O.guards▸rfl),kind:=O.kind,scope:=O.scope,glob:=O.glob,blt:=O.blt,room:=by rw[hd];omega,units:=by rw[b];omega,lb:=O.lb,gr:=O.gr,code:=O.code}
theorem dU.tc{h:Heap}(F:dU C N ρ h)(a:Addr)(rest:List Value):dU (C.tc a rest) N ρ h:=⟨F.ok,F.ns,F.cells,F.frames⟩
theorem h7{es:List XE}(g:E1 n c a)(h:p8 (d+1) es ρ H vs H1)(F:Fn d a (.ref c (H1.n c)::vs) (H1.new c (.inst [])) .none H2):Ev (d+1) (ak n es) ρ H (.ref c (H1.n c)) H2:=λC p O w N s Q E I Fr k=>
 have z:=g C.G.w.params
 dC (.of (mh O I (aV w) (beq_iff_eq.mp (aV z)) (eg O (aF w) h I Fr λxs f N1 j S u D=>⟨(looks_keep (M:=model pw C.G.w) (aV (aF (aF z))) (jH O j)).imp λk L=>λA Q E q=>L.2.here q,by
  have X:=jH O j
  have t:((f.heap.push emptyDict).push (instObj c.addr f.heap.objs.size)).get? (f.heap.objs.size+1)=some (instObj c.addr f.heap.objs.size):=(congrArg _ (Heap.size_push ..).symm).trans (Heap.get?_push_size _ rfl)
  have hd:((f.heap.push emptyDict).push (instObj c.addr f.heap.objs.size)).get? f.heap.objs.size=some emptyDict:=Heap.get?_push_of_some _ (Heap.get?_push_size _ rfl)
  have kk:∀b o,f.heap.get? b=some o→((f.heap.push emptyDict).push (instObj c.addr f.heap.objs.size)).get? b=some o:=λb o e=>Heap.get?_push_of_some _ (Heap.get?_push_of_some _ e)
  have fr:∀b,f.heap.objs.size≤b→N1.own b=.no∧f.heap.get? b=none∧b∉ff:=λb hb=>⟨(ef j hb).1,(match q:f.heap.get? b with
   |none=>rfl
   |some o=>absurd ⟨o,q⟩ (ef j hb).2),dB O j hb⟩
  have fa:=fr _ (Nat.le_succ f.heap.objs.size)
  have fd:=fr _ (Nat.le_refl f.heap.objs.size)
  have e:=(mf (c:=c) j.hp (.inr ⟨fa.1,fa.2.1⟩) (.inr ⟨fd.1,fd.2.1⟩) λx o _ g=>kk x o g).dead (λx q=>q.elim (λq=>q▸(ef j (Nat.le_succ _)).2) λq=>q▸cj _) j.hp.lt
  have R:=j.add (c:=c) (v:=.inst []) (.inr fa) (.inr fd) (λx o _ g=>kk x o g) ⟨_,t⟩ ⟨_,hd⟩ (λY q=>⟨q▸cb.E',t,λ_=>none,⟨emptyDict,hd, #[],0,rfl,(λe J=>absurd J (Array.not_mem_empty e)),λ_=>rfl,Nat.le_refl _⟩,λn=>⟨λv l=>(nomatch l),λ_=>rfl⟩⟩) f.toks
  have i:=xW (N:=N1) (h:=(f.heap.push emptyDict).push (instObj c.addr f.heap.objs.size)) (c:=c) (k:=H1.n c) (a:=f.heap.objs.size+1) (b:=f.heap.objs.size)
  obtain⟨U,V,W,tt,T⟩:=f
  exact ip (L0 (makes_of X (aV (aF z))) (looks_findIn X (beq_iff_eq.mp (aV (aF (aF (aF z)))))) (λself=>bind_fn X self (beq_iff_eq.mp (aF (aF (aF (aF z)))))) (F (C.tc c.addr xs) (FC.Ok.tc O _ _) _ ρ _ _ _ R ((S.ext e).tc _ _) (.cons i (D.ext e)) λx y K P r B=>
   (show x=.none from B.d)▸⟨rfl,k _ y K P ((u.trans e).trans r) (i.ext r)⟩))⟩)))
end
end Mine
end
section
open PySem PySem.W PyProof.Rows PySem.Calls Builtin Builtin.ObjectAttr
namespace Mine
open Nm
noncomputable abbrev mG:List Value:=[.ref 39,.type "ValueError",.type "Exception",.type "BaseException",.type "object"]
theorem iC(P:Params):(Kf P).lookup 76=some (excClassObj (Str.ofString "BadCall") (Str.ofString "BadCall") 76 75 [.ref 39] mG true [] [] false none none (some (.ref 67)) none (some (.str (Str.ofString "BadCall") 256)) (some (.str (Str.ofString "BadCall") 264)) (some (.bool true)) "ValueError.__new__"):=by kernel_rfl
theorem CY(P:Params):findIn (Kf P) (.ref 76) "__init__" =some (some (.ref 36)):=by kernel_rfl
theorem F3(P:Params):findIn (Kf P) (.ref 76) "__setattr__" =some (some (.builtin "object.__setattr__")):=by kernel_rfl
theorem x_(P:Params):findIn (Kf P) (.ref 76) "reason" =some none:=by kernel_rfl
theorem CZ(P:Params):specialIn (Kf P) (.ref 76) "__call__" =some (some (.builtin "type.__call__")):=by kernel_rfl
theorem C0(P:Params):instIn (Kf P) (.ref 76) (.type "type")=some true:=by kernel_rfl
theorem Jz(P:Params):typeIn (Kf P) (.ref 36)=some (.type "function"):=by kernel_rfl
theorem F4(P:Params):subIn (Kf P) (.ref 76) (.type "object")=some true:=by kernel_rfl
theorem vJ(P:Params):nsIn (Kf P) mainGlobals "BadCall" =some (some (.ref 76)):=by kernel_rfl
theorem JA(P:Params):nsIn (Kf P) mainGlobals "ValueError" =some none:=by kernel_rfl
noncomputable abbrev js(t:Addr):Obj:={cls:=.ref 76,data:=.fields #[.ref t,.none,.none,.none,.bool false,.none]}
section
variable{prog:Program}{w:World}{A:Around}{E:Value→Shared→Prop}{R:Result→Shared→Prop}{h:Heap}{g:Array GenState}{d:Drawn}{t:Nat}{os:OsState}{P:Params}
theorem F_(X:(Kf P).In h){rest:List Value}(f:R (.ok (.ret (.ref (h.objs.size+1)))) ⟨(h.push {cls:=.type "tuple",data:=.seq rest.toArray}).push (js h.objs.size),g,d,t,os⟩)(e:rest.length≤sizeLine):
  codeAny (model prog w) A (.call (.builtin "ValueError.__new__") ⟨.ref 76::rest,[]⟩) R ⟨h,g,d,t,os⟩:=by
 have F:=PySem.F.excBase_ValueError
 have b:=X _ _ (iC P)
 have a:(Value.ref 76::mG).contains (.type "ValueError")=true:=by decide
 have k:(Value.ref 76::mG).contains (.type "AttributeError")=false:=by decide
 have j:(Value.ref 76::mG).contains (.type "NameError")=false:=by decide
 have c:=F.noStar
 have i:=F.ends
 refine codeAny_call_builtin_code (Code.quiet_builtin _ F.quiet) ?_
 have check:∀{A:Around}{Q:Unit→Shared→Prop}{E:Value→Shared→Prop},Q () ⟨h,g,d,t,os⟩→wpAny (model prog w) A (checkBuiltinCall "ValueError.__new__" ⟨.ref 76::rest,[]⟩) Q E ⟨h,g,d,t,os⟩:=λf=>by
  simp only[checkBuiltinCall,F.newKind,F.newSplit,F.newRow]
  repeat (first|refine wpAny_loadPart_at b ?_|(refine wpAny_isSubtype_exc b ?_;rw[a])|refine wpAny_staticBase_exc b ?_|refine wpAny_madeBy_exc b ?_|simp only[bne_self_eq_false,Bool.false_eq_true,if_false]|wp_step)
  exact f
 refine check ?_
 refine codeAny_builtinAt F.entry ?_
 unfold Builtin.«BaseException.__new__»
 refine PySem.wpAt_bind ?_
 show PySem.wpAt _ _ _ (stack>>=_) _ _ _
 refine PySem.wpAt_bind (PySem.wpAt_stack λp below=>PySem.wpAt_of_wpAny ?_)
 wp_walk
 refine PySem.wpAt_of_wpAny ?_
 rw[F.owner]
 repeat (first|with_reducible refine wpAny_madeHere_exc F.canon b ?_|with_reducible refine wpAny_loadPart_at b ?_|(with_reducible refine wpAny_isSubtype_exc b ?_;first|rw[a]|rw[k]|rw[j])|wp_step)
 show R _ _
 rw[Heap.size_push]
 exact f
theorem C1(X:(Kf P).In h){rest:List Value}(c:rest.length≤sizeLine)
  (n:cq (model prog w) (A.under (.builtin "type.__call__" ⟨.ref 76::rest,[]⟩)) (.call (.ref 36) ⟨.ref (h.objs.size+1)::rest,[]⟩) (InitBack (h.objs.size+1) R) ⟨(h.push {cls:=.type "tuple",data:=.seq rest.toArray}).push (js h.objs.size),g,d,t,os⟩):
  cq (model prog w) A (.call (.ref 76) ⟨rest,[]⟩) R ⟨h,g,d,t,os⟩:=by
 have f:=X _ _ (iC P)
 have hi:Looks (model prog w) h (typeLookup (.ref 76) "__init__") (some (.ref 36)):=looks_findIn X (CY P)
 have hb:∀self,Looks (model prog w) h (bindSpecial (.ref 36) self) (.ref 36,[self]):=λself=>bind_fn X self (Jz P)
 have call:Looks (model prog w) h (specialOf (.ref 76) "__call__") (some (.builtin "type.__call__")):=looks_specialIn X (CZ P)
 have typ:Looks (model prog w) h (isInstance (.ref 76) (.type "type")) true:=looks_instIn X (C0 P)
 refine iq (.of ?_)
 show wpAny _ _ (callAny (.ref 76) _) _ _ _
 refine nd_load f ?_
 show wpAny _ _ (callAny.viaDunder (.ref 76) _) _ _ _
 unfold callAny.viaDunder
 refine wpAny_bind (call.at ?_)
 dsimp only
 rw[tc_bind]
 refine wpAny_bind (wpAny_pure (wpAny_bind (wpAny_pure ?_)))
 refine wpAny_pure (a:=Fin.again (.call (.builtin "type.__call__") ⟨.ref 76::rest,[]⟩)) ⟨rfl,rfl,?_⟩
 refine iq (.of ?_)
 show wpAny _ A.in1 (do checkBuiltinCall "type.__call__" ⟨.ref 76::rest,[]⟩;again (.builtin "type.__call__" ⟨.ref 76::rest,[]⟩)) _ _ _
 refine wpAny_bind (check_slot tc_kind tc_split typ (tc_args _ _ _) (wpAny_pure ⟨Code.quiet_builtin _ (by decide+kernel),rfl,md entry_typeCall ?_⟩))
 unfold Builtin.«type.__call__»
 have k:∀b o,h.get? b=some o→((h.push {cls:=.type "tuple",data:=.seq rest.toArray}).push (js h.objs.size)).get? b=some o:=λb o e=>Heap.get?_push_of_some _ (Heap.get?_push_of_some _ e)
 have l:((h.push {cls:=.type "tuple",data:=.seq rest.toArray}).push (js h.objs.size)).get? (h.objs.size+1)=some (js h.objs.size):=by heap_get
 have i:=k _ _ f
 have p:(Value.ref 76::mG).contains (.ref 76)=true:=by decide
 have j:Looks (model prog w) ((h.push {cls:=.type "tuple",data:=.seq rest.toArray}).push (js h.objs.size)) (typeOf (.ref (h.objs.size+1))) (.ref 76):=(Looks.ld l).andThen .now
 have i1:=hi.keeps k
 have b1:=(hb (.ref (h.objs.size+1))).keeps k
 refine bF (m:=mroOf _) (wpAny_mroOf_exc f ?_)
 refine bF (m:=Bind.madeBy _) (wpAny_madeBy_exc f ?_)
 refine bO ?_
 refine bK (b0 (.of (wpAny_call (F_ X ?_ c))))
 refine bF (m:=isInstance _ _) (wpAny_bind (j.at ?_))
 refine wpAny_isSubtype_exc i ?_
 refine bK (b0 ?_)
 refine bF (m:=specialOf _ _) (wpAny_bind (j.at (i1.at ?_)))
 refine b0 (bF (b1.at ?_))
 refine bK (ip (rQ n λr s' z=>?_))
 rcases r with e|(v|_|_|_)<;>first|exact z|exact z.elim|skip
 obtain⟨rfl,z⟩:=z
 exact a9 (a9 z)
end
theorem C2(P:Params):findCls (Kf P) (.type "ValueError") (.type "type") "__init__" =some (.val (.builtin "ValueError.__init__")):=by kernel_rfl
theorem zp(P:Params):findIn (Kf P) (.type "type") "__getattribute__" =some (some (.builtin "type.__getattribute__")):=by kernel_rfl
section
variable{prog:Program}{w:World}{A:Around}{E:Value→Shared→Prop}{s:Shared}{P:Params}
theorem F'(X:(Kf P).In s.heap){pl:Sem Bool}{Q:Value×List Value→Shared→Prop}(h:Q (.builtin "ValueError.__init__",[]) {s with toks:=s.toks+1}):
  wpAny (model prog w) A (getMethod (.type "ValueError") "__init__" pl) Q E s:=by
 have a:opaqueClassAbove (.type "ValueError")=pure none:=by unfold opaqueClassAbove;dsimp only;rw[show Manifest.isStub "ValueError" =false by decide+kernel];rfl
 have ht:typeOf (.type "ValueError")=pure (.type "type"):=by first|rfl|kernel_rfl
 have b:Looks (model prog w) s.heap (typeOf (.type "ValueError")) (.type "type"):=Looks.of_pure ht
 unfold getMethod specialOf
 refine wpAny_bind (wpAny_bind (b.here ((looks_findIn X (zp P)).here ?_)))
 dsimp only
 rw[if_pos canon_tga]
 refine wpAny_bind (wpAny_mono (Q:=λv=>Q (v,[])) (E:=E) ?_ (λ_ _ z=>wpAny_pure z) λ_ _ z=>z)
 have c:Looks (model prog w) s.heap (opaqueClassAbove (.type "ValueError")) none:=Looks.of_pure a
 refine cls_open X c b (zp P) (looks_hook X (r:=none) (by rfl)) (by show subIn _ _ _=_;rfl) (C2 P) ?_
 exact wpAny_pure (wpAny_pure h)
theorem Gb(X:(Kf P).In s.heap){e t0:Addr}{v:Value}{Q:Value→Shared→Prop}(j:s.heap.get? e=some (js t0))
  (h:∀h',(∀b o,b≠e→s.heap.get? b=some o→h'.get? b=some o)→h'.get? e=some (js s.heap.objs.size)→Q .none {s with heap:=h'}):
  wpAny (model prog w) A (call (.builtin "ValueError.__init__") [.ref e,v]) Q E s:=by
 have F:=PySem.F.excBase_ValueError
 have k:=X _ _ (iC P)
 have i:(Value.ref 76::mG).contains (.type "ValueError")=true:=by decide
 have a:=F.noStar
 obtain⟨c,g,d,t,os⟩:=s
 have check:∀{A:Around}{Q:Unit→Shared→Prop}{E:Value→Shared→Prop},Q () ⟨c,g,d,t,os⟩→wpAny (model prog w) A (checkBuiltinCall "ValueError.__init__" ⟨[.ref e,v],[]⟩) Q E ⟨c,g,d,t,os⟩:=λl=>by
  simp only[checkBuiltinCall,F.initKind,F.initSplit,F.initRow]
  repeat (first|(with_reducible refine wpAny_loadPart_at j ?_;dsimp only)|with_reducible refine wpAny_loadPart_at k ?_|(with_reducible refine wpAny_isSubtype_exc k ?_;rw[i])|wp_step)
  exact l
 refine wpAny_call (codeAny_call_builtin F.init.plain F.initEntry (check ?_))
 have f:(c.push {cls:=.type "tuple",data:=.seq [v].toArray}).get? e=some (js t0):=Heap.get?_push_of_some _ j
 wp_walk
 refine h _ (λb o hb q=>?_) ?_
 ·rw[Heap.get?_update_other _ _ (Ne.symm hb)]
  exact Heap.get?_push_of_some _ q
 ·rw[Heap.get?_update_self _ f rfl]
  rfl
theorem AK(X:(Kf P).In s.heap){e t0:Addr}{v:Value}{Q:Unit→Shared→Prop}(c:s.heap.get? e=some (js t0))
  (h:∀h' D,(∀b o,b≠e→s.heap.get? b=some o→h'.get? b=some o)→(∃L,h'.get? e=some {js t0 with dict:=some L})→Q () {s with heap:=h',toks:=D}):
  wpAny (model prog w) A (setAttr (.ref e) "reason" v) Q E s:=by
 obtain⟨a,g,d,t,os⟩:=s
 have I:InstAt a e (js t0) 76 none:=⟨c,rfl,rfl,trivial⟩
 have j:=PySem.F.store_object
 refine set_plain X I (F3 P) ?_
 have sub:Looks (model prog w) a (isInstance (.ref e) (.type "object")) true:=I.type.andThen (looks_subIn X (F4 P))
 have B:=X _ _ (iC P)
 dsimp only at B c
 refine codeAny_call_builtin j.slot.plain j.entry (@check_slot (model prog w) _ _ ⟨a,g,d,t+1,os⟩ "object.__setattr__" "object" "__setattr__" (.ref e) [.str "reason" t,v] [] _ j.kind j.split sub (j.args (.ref e) (.str "reason" t) v) ?_)
 have G:Looks (model prog w) a (mroOf (.ref 76)) (.ref 76::mG):=λA Q E s k q=>by obtain⟨H,g,d,t,os⟩:=s;exact wpAny_mroOf_exc (k _ _ B) q
 have ht:=I.type (M:=model prog w)
 rw[osa_eq,refuse_eq]
 refine wpAny_bind (wpAny_bind (ht.at (wpAny_bind (G.at ?_))))
 rw[refuseLoop_ref,refuseLoop_ref,PySem.F.store_ValueError.passes]
 refine wpAny_pure (wpAny_bind (ht.at (wpAny_bind ((looks_findIn X (x_ P)).at (wpAny_bind (Looks.at (r:=none) (Looks.of_pure rfl) ?_))))))
 dsimp only
 refine wpAny_bind (wpAny_pure (wpAny_bind (wpAny_bind (wpAny_loadPart_at c ?_))))
 refine wpAny_bind (wpAny_bind (wpAny_loadPart_at B (wpAny_pure ?_)))
 rw[if_neg (by decide)]
 dsimp only
 rw[if_neg (by simp[typeHasDict])]
 have f:e≠a.objs.size:=Nat.ne_of_lt (Heap.lt_size c)
 have i:(a.push {cls:=.type "dict",data:=.dict #[]}).get? e=some (js t0):=Heap.get?_push_of_some _ c
 refine wpAny_bind (wpAny_alloc' (wpAny_bind (wpAny_update' i (wpAny_pure ?_))))
 dsimp only
 unfold storeInDict newKeyGuard
 have u:((a.push {cls:=.type "dict",data:=.dict #[]}).update e λo=>{cls:=o.cls,dict:=some a.objs.size,data:=o.data,slots:=o.slots}).get? a.objs.size=some {cls:=.type "dict",data:=.dict #[]}:=
  (Heap.get?_update_ne _ _ _ _ f.symm).trans (Heap.get?_push_at rfl rfl)
 have m:E7 ((a.push {cls:=.type "dict",data:=.dict #[]}).update e λo=>{cls:=o.cls,dict:=some a.objs.size,data:=o.data,slots:=o.slots}) a.objs.size (λ_=>none) 0:=
  ⟨_,u, #[],_,rfl,(λe c=>absurd c (Array.not_mem_empty e)),λ_=>rfl,Nat.le_refl _⟩
 have p:((a.push {cls:=.type "dict",data:=.dict #[]}).update e λo=>{cls:=o.cls,dict:=some a.objs.size,data:=o.data,slots:=o.slots}).get? e=some {js t0 with dict:=some a.objs.size}:=Heap.get?_update_self _ i rfl
 refine wpAny_bind (wpAny_pure (wpAny_bind (i3 m λh' n C _=>?_)))
 obtain⟨N,l,J,K,x,_,_,y⟩:=n
 refine wpAny_bind (wpAny_lookBehind l (by rw[x];exact pastItsLine_dict (Nat.le_trans y (by rw[sizeLine_eq];simp))) ?_)
 refine wpAny_pure (h h' _ (λb o hb q=>?_) ⟨a.objs.size,(C.2 e f).trans p⟩)
 have z:b≠a.objs.size:=Nat.ne_of_lt (Heap.lt_size q)
 exact(C.2 b z).trans ((Heap.get?_update_ne _ _ _ _ hb).trans (Heap.get?_push_of_some _ q))
end
def Old(G:GC)(h:Heap):Prop:=∀b o,G.h₀.get? b=some o→b∉ff→h.get? b=some o
section
variable{G:GC}{h h':Heap}
theorem Old.jH(W:Old G h)(O:G.Ok):(Kf G.w.params).In h:=λa o e=>by
 refine W a o (O.jH a o e) λb=>?_
 have:=hU (List.all_eq_true.mp (yQ G.w.params) (a,o) (mem_of_lookupK e))
 rw[List.contains_iff_mem.mpr b]at this
 cases this
theorem Old.ns(W:Old G h){a:Addr}{m:Str→Option Value}(g:G.h₀.Ns a m)(ht:a∉ff):h.Ns a m:=by
 obtain⟨o,es,c,b,r⟩:=g
 exact⟨o,es,c,W _ _ b ht,r⟩
theorem Old.step(W:Old G h){e:Addr}(a:G.h₀.get? e=none)(k:∀b o,b≠e→h.get? b=some o→h'.get? b=some o):Old G h':=λb o g ht=>k b o (λq=>by rw[q,a]at g;cases g) (W b o g ht)
end
noncomputable abbrev vK:FuncData:=fnAt (Str.ofString "__init__") (Str.ofString "BoardError.__init__") (dM 2 0) (.ref 29) (.none) (.str (Str.ofString "pipeboard.errors") 194) (.ref 35)
theorem JB(P:Params):(Kf P).lookup 36=some ⟨.type "function",none,.func vK, #[]⟩:=by kernel_rfl
theorem JC(P:Params):(Kf P).lookup 29=some ⟨.type "tuple",none,.seq #[.str (Str.ofString "") 208] 0, #[]⟩:=by kernel_rfl
noncomputable def L1:Array Value:= #[.str (Str.ofString "__init__") 209,.str (Str.ofString "BoardError.__init__") 210,.str (Str.ofString "/claim/cut.py") 211,.int 7 0,.int 2 0,.int 0 0,.int 0 0,.int 3 0,.ref 30,.bool true,.int 181 0,.ref 31,.none,.ref 32,.ref 33,.ref 34,.int 214 0,.int 7 0,.str (Str.ofString "/claim/cut.py") 215]
theorem JD(P:Params):(Kf P).lookup 35=some ⟨.type "code",none,.fields L1, #[]⟩:=by kernel_rfl
noncomputable def zq:List Stmt:=match dM 2 0 with
 | .FunctionDef _ _ b _ _ _ _ _ _ _=>b
 |_=>[]
noncomputable def vL:Scope:=match dM 2 0 with
 | .FunctionDef _ _ _ _ _ _ sc _ _ _=>sc
 |_=>default
theorem ya:zq=[.Expr (.Call (.Attribute (.Name "ValueError" ⟨8,8,8,18⟩) "__init__" ⟨8,8,8,27⟩) [.Name "self" ⟨8,28,8,32⟩,.Name "reason" ⟨8,34,8,40⟩] [] ⟨8,8,8,41⟩) ⟨8,8,8,41⟩,
 .Assign [.Attribute (.Name "self" ⟨9,8,9,12⟩) "reason" ⟨9,8,9,19⟩] (.Name "reason" ⟨9,22,9,28⟩) ⟨9,8,9,28⟩]:=by kernel_rfl
theorem AL:vK.body=.stmts zq:=by kernel_rfl
theorem lC:vK.scope=vL:=by kernel_rfl
theorem jY:vL={kind:=.function,names:=[("self",.local),("reason",.local),("ValueError",.globalImplicit)],isGenerator:=false,isCoroutine:=false,more:=[]}:=by kernel_rfl
section
variable{G:GC}{A:Around}{s:Shared}
theorem C3(O:G.Ok)(j:A.depth<recursionLimit)(W:Old G s.heap){e t0:Addr}(u:G.h₀.get? e=none)(Q:s.heap.get? e=some (js t0)){x:Str}{t:Tok}{R:Result→Shared→Prop}
  (k:∀s',(∀b o,b≠e→s.heap.get? b=some o→s'.heap.get? b=some o)→(∃t V,s'.heap.get? e=some {js t with dict:=some V})→s'.gens=s.gens→s'.os=s.os→R (.ok (.ret .none)) s'):
  cq (model pw G.w) A (.call (.ref 36) ⟨[.ref e,.str x t],[]⟩) R s:=by
 have K:=W.jH O
 refine rS j (K _ _ (JB _)) rfl (by rw[lC,jY]) (by rw[lC,jY]) AL ⟨35,_,L1,210,rfl,K _ _ (JD _),rfl,rfl⟩ ?_
 have B:BindsTo s vK ⟨[.ref e,.str x t],[]⟩ [("self",.ref e),("reason",.str x t)]:=nY (s:=s) (fd:=vK) (xs:=[.ref e,.str x t]) (D:=[.str (Str.ofString "") 208]) rfl rfl rfl rfl (.inr ⟨29,_,0,rfl,K _ _ (JC _),rfl⟩) (Nat.le_refl 2) (Nat.le_succ 1) rfl
 refine .of (B _ _ _ _ (.of ?_))
 rw[lC]
 have S:vK.closure=[]:=by rfl
 have J:vK.globals=mainGlobals:=by rfl
 have T:vK.builtins=builtinsNs:=by rfl
 rw[S,J,T,jY]
 simp only[newFunctionEnv,Option.isSome_none,Bool.false_eq_true,if_false]
 refine wpAny_bind (wpAny_alloc ?_)
 refine wpAny_bind (wpAny_layCells _ (λname kind cells=>rfl) _ _ _ _ ?_)
 obtain⟨y,g,d,tk,os⟩:=s
 dsimp only at Q W K⊢
 have e1:∀n,cellsFrom n [((Str.ofString "self" :Str),NameKind.local),((Str.ofString "reason" :Str),NameKind.local),((Str.ofString "ValueError" :Str),NameKind.globalImplicit)] []=[]:=λn=>by rfl
 have e2:∀h,pushCells h [((Str.ofString "self" :Str),NameKind.local),((Str.ofString "reason" :Str),NameKind.local),((Str.ofString "ValueError" :Str),NameKind.globalImplicit)]=h:=λh=>by rfl
 rw[e1,e2]
 generalize c:(Env.mk _ _ _ _ _ _ _ _ _:Env)=env
 have a:env.scope.kind=.function:=by rw[←c]
 have i:env.kindOf "self" =some .local:=by rw[←c];rfl
 have f:env.kindOf "reason" =some .local:=by rw[←c];rfl
 have I:env.kindOf "ValueError" =some .globalImplicit:=by rw[←c];rfl
 have Y:env.locals=y.objs.size:=by rw[←c]
 have m:env.globals=mainGlobals:=by rw[←c]
 have C:env.builtins=builtinsNs:=by rw[←c]
 have hint:interactive env=false:=by rw[←c];rfl
 have E:(y.push {cls:=.type "frame",data:=.dict #[]}).Ns env.locals λ_=>none:=by rw[Y];exact Heap.Ns.new y (.type "frame")
 have l:∀{b o},y.get? b=some o→b≠env.locals:=λq z=>Nat.lt_irrefl _ (Y▸z▸Heap.lt_size q)
 refine wpAny_bind ?_
 rw[List.forIn_cons]
 refine wpAny_bind (wpAny_bind (lA i E (λh1 n1 X _=>wpAny_pure ?_) (by rw[a];rfl)))
 show wpAny _ _ (forIn [_] _ _) _ _ _
 rw[List.forIn_cons]
 refine wpAny_bind (wpAny_bind (lA f n1 (λh2 n2 s2 _=>wpAny_pure ?_) (by rw[a];rfl)))
 show wpAny _ _ (forIn [] _ _) _ _ _
 rw[List.forIn_nil]
 refine wpAny_pure (wpAny_pure ?_)
 have H:∀b o,y.get? b=some o→h2.get? b=some o:=λb o q=>(s2.2 b (l q)).trans ((X.2 b (l q)).trans (Heap.get?_push_of_some _ q))
 have p:Old G h2:=λb o q ht=>H b o (W b o q ht)
 have N:=H _ _ Q
 dsimp only
 refine⟨let⟨mc,g,r⟩:=O.nolimit;⟨mc,p.ns g (by decide),r⟩,yO ?_⟩
 rw[ya]
 refine d4 (HS (sf rfl rfl (by decide) rfl (.of (Calls.Name_function_global a I (Calls.loadGlobal_builtin (v:=.type "ValueError") (mg:=G.mg) (mb:=G.mb) (by rw[m];exact p.ns O.g (by decide)) (mg_none_of O.jH O.g (JA _)) (by rw[C];exact p.ns O.b (by decide)) ((O.blt _ (by decide)).trans (by kernel_rfl)) ?_) (by decide)))) hint (by rfl))
 intro pl
 refine .of (F' (p.jH O) ?_)
 refine fV (P:=λ_=>True) rfl (λX _=>fC _ _ _) ?_
 refine cK (.of (wpAny_Name (wpAny_loadName_local a i n2 (v:=.ref e) ((if_neg (show¬Str.ofString "self" =Str.ofString "reason" by decide)).trans (if_pos rfl)) ?_) (by decide))) rfl
 refine cK (.of (wpAny_Name (wpAny_loadName_local a f n2 (v:=.str x t) (if_pos rfl) ?_) (by decide))) rfl
 refine d9 ⟨trivial,.of (Gb (p.jH O) N λZ F M=>⟨nofun,?_⟩)⟩
 have U:env.locals≠e:=λq=>l Q q.symm
 have n3:Z.Ns env.locals _:=let⟨o,es,ep,q,r⟩:=n2;⟨o,es,ep,F _ _ U q,r⟩
 have W3:Old G Z:=p.step u F
 refine d4 ?_
 rw[exec_Assign_arm]
 refine bz ?_
 rw[show swapsWithSole [.Attribute (.Name "self" ⟨9,8,9,12⟩) "reason" ⟨9,8,9,19⟩] (.Name "reason" ⟨9,22,9,28⟩) (Pos.line ⟨9,8,9,28⟩) env=pure false from rfl,
  show swappedStores [.Attribute (.Name "self" ⟨9,8,9,12⟩) "reason" ⟨9,8,9,19⟩] (.Name "reason" ⟨9,22,9,28⟩) env=pure none from rfl,
  show(assignEach [.Attribute (.Name "self" ⟨9,8,9,12⟩) "reason" ⟨9,8,9,19⟩] env).map (·.2)=[assign (.Attribute (.Name "self" ⟨9,8,9,12⟩) "reason" ⟨9,8,9,19⟩) env]from rfl]
 refine bO ?_
 rw[if_neg (by decide)]
 refine bF (wpAny_Name (wpAny_loadName_local a f n3 (v:=.str x t) (if_pos rfl) ?_) (by decide))
 refine bO ?_
 show aX _ _ (do assign _ env _;pure Flow.next) _ _ _
 rw[assign_Attribute]
 refine bK (bF (wpAny_holding (wpAny_Name (wpAny_loadName_local a i n3 (v:=.ref e) ((if_neg (show¬Str.ofString "self" =Str.ofString "reason" by decide)).trans (if_pos rfl)) ?_) (by decide))))
 refine bz (bK (b0 (.of (AK (W3.jH O) M λh4 O1 k4 L=>.of (wpAny_release' ?_)))))
 refine a9 (iQ ?_)
 exact k _ (λb o hb q=>k4 b o hb (F b o hb (H b o q))) (let⟨V,q⟩:=L;⟨_,V,q⟩) rfl rfl
end
section
variable{C:FC}{d:Nat}{N:cb}{ρ:Loc}{H H':Hp}{s:Shared}{A:Around}{M:Model}
theorem yb{P:Params}{e t o:Addr}{Q:Flow→Shared→Prop}{E:Value→Shared→Prop}{a:Heap}{g:Array GenState}{l:Drawn}{i:Nat}{os:OsState}(X:(Kf P).In a)(m:a.get? e=some {js t with dict:=some o})(b:A.handled=none)(n:E (.ref e) ⟨a,g,l,i,os⟩):
  wpAny M A (do
   let h←holding ([]:List Value) (excFromValue (.ref e) "exceptions must derive from BaseException")
   let k←if←isType (.ref e)then holding [h] (raisedFor (.ref e) h)else raisedInstance h
   setFlight k none
   raiseNew k) Q E ⟨a,g,l,i,os⟩:=by
 have j:=X _ _ (iC P)
 have f:(Value.ref 76::mG).contains (.type "BaseException")=true:=by decide
 have c:(Value.ref 76::mG).contains (.type "type")=false:=by decide
 repeat (first|(with_reducible refine wpAny_loadPart_at m ?_;dsimp only)|with_reducible refine wpAny_loadPart_at j ?_|(with_reducible refine wpAny_isSubtype_exc j ?_;first|rw[f]|rw[c])|wp_step)
 exact wpAny_raiseNew_none b n
theorem C4(P:Params):keepIn (Kf P) (.ref 76)=true:=by kernel_rfl
theorem Ik:eQ.str=("BadCall" :Str):=by kernel_rfl
noncomputable def L2:Expr→Str
 | .Constant (.str x) _ _=>x
 |_=>default
noncomputable def gZ:XS:=⟨λp=>.Raise (some (.Call (.Name "BadCall" (pE (sub (sub p 0) 0))) [.Constant (.str (L2 (sub (sub p 0) 1 []).e)) (pK (sub (sub p 0) 1)) (pE (sub (sub p 0) 1))] [] (pE (sub p 0)))) none (pS p),λsc p=>gT (ba sc eQ.str)⟩
theorem vM:Fy d gZ ρ H ρ H:=λC p O T z N s Q E I F J=>by
 have l:C.env.kindOf "BadCall" =some .globalImplicit:=Ik▸O.gl z
 show aX _ _ (exec (.Raise (some (.Call (.Name "BadCall" (pE (sub (sub p 0) 0))) [.Constant (.str (L2 (sub (sub p 0) 1 []).e)) (pK (sub (sub p 0) 1)) (pE (sub (sub p 0) 1))] [] (pE (sub p 0)))) none (pS p)) C.env) _ _ _
 have X:=jH O I
 rw[arm_exec_Raise]
 refine bz ?_
 show aX _ _ (raiseStmt C.env (some (do let v←eval (.Call (.Name "BadCall" (pE (sub (sub p 0) 0))) [.Constant (.str (L2 (sub (sub p 0) 1 []).e)) (pK (sub (sub p 0) 1)) (pE (sub (sub p 0) 1))] [] (pE (sub p 0))) C.env;standAt (pS p);pure v)) none) _ _ _
 unfold raiseStmt
 refine bK (bK (dC (.of (Calls.Name_function_global O.kind l (Calls.loadGlobal_global (v:=.ref 76) (mg:=C.G.mg) (by rw[O.glob];exact p6 O I O.G.g (by decide)) (mg_of O.G.jH O.G.g (vJ _)) ?_) (by decide)))))
 refine fV (P:=λr=>(Kf C.G.w.params).In r.heap) rfl (λr h=>?_) ?_
 ·obtain⟨k,_,L⟩:=looks_keep (M:=model pw C.G.w) (C4 C.G.w.params) h
  exact⟨k,λA Q E q=>L.here q⟩
 ·refine cK (.of ?_) rfl
  show wpAny _ _ (constValue _ _) _ _ _
  refine wpAny_mkText (d9 ⟨X,?_⟩)
  obtain⟨c,g,S,j,os⟩:=s
  refine ip (C1 X (small (Nat.succ_le_succ (Nat.zero_le _))) ?_)
  have f:(C.A.under (.builtin "type.__call__" ⟨.ref 76::[.str (L2 (sub (sub p 0) 1 []).e) j],[]⟩)).depth<recursionLimit:=by
   show C.A.depth+1<_
   have:=O.room;omega
  have hd:¬aR c (c.objs.size+1):=(ef I (Nat.le_succ _)).2
  have i:C.G.h₀.get? (c.objs.size+1)=none:=zg I hd (dB O I (Nat.le_succ _))
  refine C3 O.G f (s:=⟨(c.push {cls:=.type "tuple",data:=.seq [Value.str (L2 (sub (sub p 0) 1 []).e) j].toArray}).push (js c.objs.size),g,S,j+1,os⟩) (λb o q ht=>Heap.get?_push_of_some _ (Heap.get?_push_of_some _ (I.old b o q ht))) i (t0:=c.objs.size) (by heap_get) λs' y K x u=>?_
  refine⟨rfl,bz (a9 ?_)⟩
  obtain⟨t,V,n⟩:=K
  obtain⟨m,U,R,B,D⟩:=s'
  dsimp only at y n x u
  subst x u
  have keep:∀b o,c.get? b=some o→m.get? b=some o:=λb o q=>y b o (λz=>hd ⟨o,by rw[←z];exact q⟩) (Heap.get?_push_of_some _ (Heap.get?_push_of_some _ q))
  refine bO (.of ?_)
  refine yb (λa o q=>keep a o (X a o q)) n O.hd ?_
  refine J _ _ ⟨c,N,⟨I.old,I.iR,I.hp,I.gens,I.os⟩,(Ext.refl N c).fU F,F,.inl ⟨keep,_,_,_,.ref t,rfl,n,rfl,rfl,rfl,rfl,?_⟩⟩
  cases q:c.get? (c.objs.size+1)with
  |none=>rfl
  |some o=>exact absurd ⟨o,q⟩ hd
end
section
variable{C:FC}{d:Nat}{N N':cb}{ρ ρ':Loc}{H H':Hp}{s s':Shared}{hr h:Heap}
theorem land(I:aO C.G N H {s' with heap:=hr})(k:∀y o,hr.get? y=some o→h.get? y=some o∨(N.own y=.t∧f_ o∧∃sl,h.get? y=some {o with slots:=sl}))(t:Nat):
  aO C.G N H {s' with heap:=h,toks:=t}∧Ext YN N N hr h:=by
 have e:∀y o,N.own y=.no→hr.get? y=some o→h.get? y=some o:=λy o q g=>(k y o g).elim id λz=>nomatch q.symm.trans z.1
 have al:∀y,aR hr y→aR h y:=λy a=>a.elim λo g=>(k y o g).elim (λz=>⟨_,z⟩) λz=>z.2.2.elim λsl z=>⟨_,z⟩
 have x:Ext YN N N hr h:=⟨λ_ _ _=>rfl,λy a _=>al y a,λ_ _ _=>rfl,λ_ _ _=>⟨rfl,rfl⟩,λy o g q _=>e y o q g,λy o g q _=>(k y o g).imp_right λz=>z.2,λ_ q=>q.elim,λT=>T.step (λ_ _ q=>q) e⟩
 exact⟨⟨λb o g hb=>e b o (I.iR b o g) (I.old b o g hb),I.iR,I.hp.grow x (λy c a o q g=>(k y o g).elim id λz=>nomatch q.symm.trans z.1) λy q=>al y (I.hp.lt y λz=>nomatch q.symm.trans z),I.gens,I.os⟩,x⟩
def HeldAt(C:FC)(N:cb)(hr:Heap)(e:Value)(h:Heap):Prop:=
 ∃(x:Addr)(a:Value)(B:Heap)(L:Addr),e=.ref x∧Heap.HeldW B C.fr x (.ref ta) a L h∧(∀y o,hr.get? y=some o→B.get? y=some o∨(N.own y=.t∧f_ o))∧hr.UpToSlots h
theorem C5{M:Model}{e:Value}{env:Env}{tl:List Env}(hA:C.A.frames=some C.fr)(a:C.fr=env::tl)(F:dU C N ρ hr)(x:td hr e s.heap∨u_ C.fr N hr e s.heap){Q:Unit→Shared→Prop}{E:Value→Shared→Prop}
  (k:∀h',HeldAt C N hr e h'→Q () {s with heap:=h'}):wpAny M C.A (noteFrame e env) Q E s:=by
 obtain⟨_,L,n,_⟩:=F.frames env (by rw[a];exact List.mem_cons_self ..)
 rcases x with⟨kept,x,J,vs,p,rfl,g,j,hd,u,D,z⟩|⟨x,p,B,rfl,c,kept,up⟩
 ·have G:∀e∈C.fr,e.scope.kind≠ .module∧∃L,e.frame=some L∧∃o,s.heap.get? L=some o∧f_ o∧(hideAll hr (fY C.fr)).get? L=none:=λe f=>
   ⟨(F.frames e f).1,(F.frames e f).2.imp λL q=>⟨q.1,q.2.imp λo q'=>⟨kept _ _ q'.1,q'.2,hideAll_none _ (List.mem_filterMap.mpr ⟨e,f,q.1⟩)⟩⟩⟩
  have i:(hideAll hr (fY C.fr)).get? x=none:=match q:(hideAll hr (fY C.fr)).get? x with
   |none=>rfl
   |some o=>nomatch (of_hideAll _ q).symm.trans z
  rw[a]at hA
  unfold noteFrame
  simp only[n]
  refine wpAny_bind (wpAny_field g hd u ?_)
  rw[if_neg (by decide)]
  refine wpAny_entryW (base:=hideAll hr (fY C.fr)) hA (qJ (a▸G)) n g (λb o q=>kept b o (of_hideAll _ q)) i hd (Array.getElem?_eq_some_iff.mp u).1 D λh' y=>k h' ?_
  obtain⟨m,l,r,w⟩:=y
  rw[j]at r
  refine⟨x,p,_,L,rfl,⟨m,i,a▸l,r⟩,λy o q=>?_,(Heap.UpToSlots.of_keeps kept).trans w⟩
  by_cases t:y∈fY C.fr
  ·obtain⟨e,f,v⟩:=List.mem_filterMap.mp t
   obtain⟨O,b1,K,b2,I⟩:=(F.frames e f).2
   cases b1.symm.trans v
   cases b2.symm.trans q
   exact .inr ⟨(F.ok _ (.inr (.inr ⟨e,f,v⟩))).1,I⟩
  ·exact .inl (hideAll_get _ q t)
 ·rw[a]at hA c
  exact wpAny_looks_onW hA n c λh' m l=>k h' ⟨x,p,B,L,rfl,a▸m,kept,up.trans l⟩
noncomputable def Od:List Stmt→List ExceptHandler
 | .Try _ h _ _ _::_=>h
 |_=>[]
noncomputable def JE(b:XB):XS:=⟨λp=>.Try (b.b (sub p 0)) (Od (p []).ss) [] [] (pS p),λsc p=>b.ok sc (sub p 0)⟩
theorem JF{b:List XS}{f:Fl}(h:gj d b ρ H f ρ' H'):eu d (JE (xB b)) ρ H f ρ' H':=λC p O i z N s Q E I F k=>by
 show aX _ _ (exec (.Try (y5 b (sub p 0) 0) (Od (p []).ss) [] [] (pS p)) C.env) _ _ _
 rw[arm_exec_Try]
 refine bz ?_
 unfold tryStmt
 simp only[List.isEmpty_nil,if_true]
 refine bK (l9 (h C _ 0 O i z N s _ _ I F λfl j c hf e a g=>?_))
 cases hf with
 |next=>exact iQ (k _ _ c .next e a g)
 |ret p=>exact a9 (k _ _ c (.ret p) e a g)
 |brk=>exact a9 (k _ _ c .brk e a g)
 |cont=>exact a9 (k _ _ c .cont e a g)
end
end Mine
end
section
open PySem PySem.W PyProof.Rows PySem.Calls Builtin
namespace Mine
open Nm
theorem t4{pos:Pos}{v:Value}{a b:Value}(l:List Value):TriplesOk l→∀{c:Value},codeAmong pos (l++[a,b,v])=some c→codeAmong pos l=some c∨c=v:=by
 fun_induction TriplesOk l with
 |case1=>
  intro _ c h
  simp only[List.nil_append]at h
  unfold codeAmong at h
  split at h
  ·rename_i e
   cases e
   split at h
   ·cases h;exact .inr rfl
   ·cases h
  ·cases h
 |case2 i t j u x rest ih=>
  intro ht c h
  simp only[List.cons_append,codeAmong]at h⊢
  split at h
  ·rename_i d;rw[if_pos d];exact .inl h
  ·rename_i d;rw[if_neg d];exact ih ht h
 |case3=>intro ht;exact ht.elim
theorem t5{a b:Int}{t u:Tok}{v:Value}(l:List Value):TriplesOk l→TriplesOk (l++[.int a t,.int b u,v]):=by
 fun_induction TriplesOk l with
 |case1=>intro _;trivial
 |case2 i t j u x rest ih=>intro ht;exact ih ht
 |case3=>intro ht;exact ht.elim
noncomputable def L3(sc s:Scope)(x:Str×NameKind):Bool:=s.names.lookup x.1==some x.2&&(match x.2 with
 | .free=>(rz x.1).str==x.1&&AA (ba sc x.1)
 | .globalImplicit=>true
 |_=>false)
noncomputable def oU(sc s:Scope):Bool:=tR s.kind&&(!s.isCoroutine&&(!s.isGenerator&&s.names.all (L3 sc s)))
structure Nj(sc s:Scope):Prop where
 k:s.kind=.function
 co:s.isCoroutine=false
 gen:s.isGenerator=false
 kinds:∀x∈s.names,(x.2=.free∧∃n:Nm,n.str=x.1∧AA (ba sc n.str)=true)∨x.2=.globalImplicit
theorem L4{sc s:Scope}(h:oU sc s=true):Nj sc s:=by
 refine⟨nW (aV h),hU (aV (aF h)),hU (aV (aF (aF h))),λx a=>?_⟩
 have z:=aF (List.all_eq_true.mp (aF (aF (aF h))) x a)
 obtain⟨x,k⟩:=x
 revert z
 cases k with
 |free=>exactλz=>.inl ⟨rfl,rz x,beq_iff_eq.mp (aV z),(beq_iff_eq.mp (aV z)).symm▸aF z⟩
 |globalImplicit=>exactλ_=>.inr rfl
 |_=>exactλz=>nomatch z
noncomputable def noArgs(a:Arguments):Bool:=a.posonlyargs.isEmpty&&(a.args.isEmpty&&(a.vararg.isNone&&(a.kwonlyargs.isEmpty&&(a.kwarg.isNone&&(a.defaults.isEmpty&&a.kw_defaults.isEmpty)))))
structure Nk(b:Expr)(s:Scope)(fd:FuncData):Prop where
 body:fd.body=.expr b
 scope:fd.scope=s
 glob:fd.globals=mainGlobals
 blt:fd.builtins=builtinsNs
 dflt:fd.defaults=.none
 args:noArgs fd.params=true
 inj:∀(n m:Nm) c,fd.closure.lookup n.str=some c→fd.closure.lookup m.str=some c→n=m
 has:∀n:Nm,ba s n.str=some .free→(fd.closure.lookup n.str).isSome=true
def rF(N:cb)(h:Heap)(b:Expr)(s:Scope)(d:Loc)(P:Addr→Prop)(a:Addr):Prop:=
 ∃o fd,(h.get? a=some o∧o.data=.func fd∧N.own a=.no∧a∉ff)∧Nk b s fd∧(∃c e vs q t,fd.code=.ref c∧h.get? c=some e∧e.data=.fields vs∧vs[1]? =some (.str q t)∧N.own c=.no∧c∉ff)∧
  ∀(n:Nm) c,fd.closure.lookup n.str=some c→P c∧(N.own c=.t∧c∉ff)∧∃ov,h.IsCell c ov∧∀f,look n d=some f→∃u,ov=some u∧RV N h f u
theorem rF.ext{Y P:Addr→Prop}{N i:cb}{h h':Heap}{b:Expr}{s:Scope}{d:Loc}{a:Addr}(r:rF N h b s d P a)(e:Ext Y N i h h')(f:∀c,P c→¬Y c):rF i h' b s d P a:=
 r.imp λo r=>r.imp λfd r=>⟨⟨e.same a o r.1.1 r.1.2.2.1 r.1.2.2.2,r.1.2.1,e.u9 r.1.1 r.1.2.2.1,r.1.2.2.2⟩,r.2.1,
  r.2.2.1.imp λc q=>q.imp λj q=>q.imp λvs q=>q.imp λq' q=>q.imp λt q=>⟨q.1,e.same c j q.2.1 q.2.2.2.2.1 q.2.2.2.2.2,q.2.2.1,q.2.2.2.1,e.u9 q.2.1 q.2.2.2.2.1,q.2.2.2.2.2⟩,
  λn c q=>have z:=r.2.2.2 n c q;⟨z.1,z.2.2.elim λov g=>⟨(e.own c (gR g.1) (f c z.1)).trans z.2.1.1,z.2.1.2⟩,z.2.2.imp λov g=>⟨jI e g.1 z.2.1.1 (f c z.1),λk l=>(g.2 k l).imp λu p=>⟨p.1,p.2.ext e⟩⟩⟩⟩
noncomputable def jZ:List Nm→Loc→Loc
 |[],_=>[]
 |n::ns,ρ=>(look n ρ).elim (jZ ns ρ) λv=>(n,v)::jZ ns ρ
theorem qL{ns:List Nm}{ρ:Loc}{n:Nm}{v:MV}(h:look n (jZ ns ρ)=some v):look n ρ=some v∧n∈ns:=by
 induction ns with
 |nil=>cases h
 |cons m ns ih=>
  have h:look n ((look m ρ).elim (jZ ns ρ) λv=>(m,v)::jZ ns ρ)=some v:=h
  cases q:look m ρ with
  |none=>rw[q]at h;exact⟨(ih h).1,List.mem_cons_of_mem _ (ih h).2⟩
  |some u=>
   rw[q]at h
   have a:(bif m.c.beq n.c then some u else look n (jZ ns ρ))=some v:=h
   clear h
   cases z:m.c.beq n.c with
   |true=>rw[z]at a;exact⟨(fp.mp z)▸q.trans a,fp.mp z▸List.mem_cons_self ..⟩
   |false=>rw[z]at a;exact⟨(ih a).1,List.mem_cons_of_mem _ (ih a).2⟩
section
variable{C:FC}{d:Nat}{N:cb}{H:Hp}{s:Shared}{ρ:Loc}{P:Addr}
theorem AM(O:C.Ok d)(I:aO C.G N H s)(k:P∈ff){h':Heap}{ps j:Array Value}(e:Heap.ExtBut P s.heap h')(g:s.heap.get? P=some (tabObj ps))(r:h'.get? P=some (tabObj j))(ht:TriplesOk j.toList)
  (v:∀pos b,codeAmong pos j.toList=some b→codeAmong pos ps.toList=some b∨NY N h' b):Ext YN N N s.heap h':=by
 have p:=(I.hp.t P k).1
 have ne:∀{x},N.own x≠ .no→x≠P:=λq z=>q (z▸p)
 refine⟨λ_ _ _=>rfl,λx a _=>(Decidable.em (x=P)).elim (λq=>q▸⟨_,r⟩) λq=>a.imp λo i=>e x o q i,λ_ _ _=>rfl,λ_ _ _=>⟨rfl,rfl⟩,λx o i _ ht=>e x o (λq=>ht (q▸k)) i,λx o i A _=>.inl (e x o (ne λz=>nomatch A.symm.trans z) i),λ_ q=>q.elim,λT u m=>?_⟩
 have n:=T u m
 by_cases h:u=P
 ·subst h
  refine⟨p,j,r,ht,λpos b q=>(v pos b q).elim (λq=>?_) id⟩
  exact n.2.elim λl z=>by
   cases z.1.symm.trans g
   exact(z.2.2 pos b q).imp λc y=>⟨y.1,y.2.1,y.2.2.1,y.2.2.2.imp λo f=>⟨e c o (λw=>y.2.2.1 (w▸k)) f.1,f.2⟩⟩
 ·exact⟨n.1,n.2.imp λl z=>⟨e _ _ h z.1,z.2.1,λpos b q=>(z.2.2 pos b q).imp λc y=>⟨y.1,y.2.1,y.2.2.1,y.2.2.2.imp λo f=>⟨e c o (λw=>y.2.2.1 (w▸k)) f.1,f.2⟩⟩⟩⟩
theorem aO.table(O:C.Ok d)(I:aO C.G N H s)(h:P∈ff){h':Heap}(f:Heap.ExtBut P s.heap h')(e:Ext YN N N s.heap h')(t:Nat):aO C.G N H {s with heap:=h',toks:=t}:=
 have i:=(I.hp.t P h).1
 have ne:∀{x},N.own x≠ .no→x≠P:=λq z=>q (z▸i)
 ⟨λb o g hb=>f b o (λq=>hb (q▸h)) (I.old b o g hb),I.iR,I.hp.grow e (λx c a o q g=>f x o (ne λz=>nomatch q.symm.trans z) g) (λx q=>(I.hp.lt x λz=>nomatch q.symm.trans z).imp λo g=>f x o (ne λz=>nomatch q.symm.trans z) g),I.gens,I.os⟩
noncomputable def L5:Expr→Arguments
 | .Lambda a _ _ _=>a
 |_=>default
theorem C6(O:C.Ok d){a:Arguments}{b:Expr}{sl:Scope}{pos:Pos}{ns:List Nm}(ha:noArgs a=true)(hl:oU C.sc sl=true)(hc:C.sc.names.any (λx=>x.2==.cell)=true)(W:∀n∈ns,ba sl n.str=some .free)(I:aO C.G N H s)(F:dU C N ρ s.heap){Q:Value→Shared→Prop}{E:Value→Shared→Prop}
  (k:∀f s',aO C.G N H s'→Ext YN N N s.heap s'.heap→rF N s'.heap b sl (jZ ns ρ) (lg C) f→Q (.ref f) s'):wpAny (model pw C.G.w) C.A (eval (.Lambda a b sl pos) C.env) Q E s:=by
 have L:=L4 hl
 obtain⟨c,P,j,OI,M,Z⟩:=O.code hc
 have J:CodeHd s.heap c P:=Z.imp λo q=>q.imp λvs q=>q.imp λfile q=>q.imp λtf q=>q.imp λflags q=>q.imp λtg q=>q.imp λO2 q=>q.imp λtext q=>q.imp λtt q=>⟨I.old c o q.1 OI,q.2⟩
 obtain⟨oP,ps,gP,tok,cs⟩:=I.hp.t P M
 have hg:s.heap.Ns mainGlobals C.G.mg:=p6 O I O.G.g (by decide)
 have Y:mainGlobals≠P:=λq=>(by decide:mainGlobals∉ff) (q▸M)
 have hb:s.heap.BuiltinsAt C.G.mg P:=O.G.bmod.imp λbm q=>q.imp λo q=>⟨q.1,q.2.1,q.2.2.1,λz=>q.2.2.2.1 (z▸M),I.old _ _ q.2.2.2.2.1 q.2.2.2.1,q.2.2.2.2.2⟩
 have i:∀x∈sl.names,x.2=.free→(C.env.cells.lookup x.1).isSome=true:=λx R q=>(L.kinds x R).elim (λz=>z.2.elim λn z=>z.1▸O.gr n (O.cf z.2)) λz=>nomatch q.symm.trans z
 have D:closureFor sl C.env=pure (jV C.env sl.names []):=vr i
 have sub:∀(n:Nm) k,(jV C.env sl.names []).lookup n.str=some k→C.env.cells.lookup n.str=some k:=λn k q=>nX (cs:=[]) i (λ_ _ h=>nomatch h) _ _ q
 have fin:∀(h':Heap)(l:Nat)(fd:FuncData)(c':Addr)(p:Obj)(vs:Array Value)(q:Str)(t:Tok),s.heap.objs.size≤h'.objs.size→Ext YN N N s.heap h'→aO C.G N H {s with heap:=h',toks:=l}→
   fd.code=.ref c'→h'.get? c'=some p→p.data=.fields vs→vs[1]? =some (.str q t)→N.own c'=.no→c'∉ff→fd.body=.expr b→fd.scope=sl→fd.globals=mainGlobals→fd.builtins=builtinsNs→fd.defaults=.none→fd.params=a→fd.closure=jV C.env sl.names []→
   Q (.ref h'.objs.size) {s with heap:=h'.push {cls:=.type "function",data:=.func fd},toks:=l}:=
  λh' l fd c' p vs q t hsz e I' f1 f2 f3 f4 f5 f6 f7 f8 f9 OJ OK OL u=>
   have S:=e.trans (Ext.push N h' {cls:=.type "function",data:=.func fd})
   k _ _ (I'.push _ l) S ⟨_,fd,⟨Heap.get?_push_size _ rfl,rfl,(ef I hsz).1,dB O I hsz⟩,⟨f7,f8,f9,OJ,OK,OL.symm▸ha,λn m k h1 h2=>O.lb n m k (sub n k (u▸h1)) (sub m k (u▸h2)),λn W=>u.symm▸sg (.inl (mem_of_lookup W))⟩,
    ⟨c',p,vs,q,t,f1,Heap.get?_push_of_some _ f2,f3,f4,f5,f6⟩,λn kk hk=>
     have hk:=sub n kk (u▸hk)
     have z:=(F.ext S)
     ⟨.inr (.inl ⟨n,hk⟩),⟨(z.ok kk (.inr (.inl ⟨n,hk⟩))).1,(z.ok kk (.inr (.inl ⟨n,hk⟩))).2.1⟩,(z.cells n kk hk).imp λov g=>⟨g.1,λmv hm=>g.2 mv (qL hm).1 ((L.kinds _ (mem_of_lookup (W n (qL hm).2))).elim (λy=>y.2.elim λm y=>O.cf (str_inj y.1▸y.2)) λy=>NameKind.noConfusion y)⟩⟩⟩
 have K:=aF (aF (aF (aF (aF ha))))
 rw[arm_eval_Lambda,defaultsOf_eq,List.isEmpty_iff.mp (aV K),List.isEmpty_iff.mp (aF K)]
 show wpAny _ _ (do let dv←evalAll [];let T←holding dv (evalAllOpt []);makeFunction "<lambda>" (C.env.qual++ "<lambda>") a (.expr b) sl C.env dv T [] pos pos.line) _ _ s
 refine wpAny_bind (wpAny_pure (wpAny_bind (wpAny_holding (wpAny_pure ?_))))
 rw[makeFunction_eq]
 simp only[List.zip_nil_right,List.filterMap_nil,List.isEmpty_nil,if_true,pure_bind]
 cases V:codeAmong pos ps.toList with
 |some cv=>
  obtain⟨c',rfl,h5,h6,p,h2,vs,q,t,h3,h4⟩:=cs pos cv V
  exact kdv_makeTailHit (mg:=C.G.mg) D O.glob hg j J gP tok V hb λOM doc h' l k hsz=>fin h' l _ c' p vs q t hsz (Ext.ir N k) (I.ir k l) rfl (k _ _ h2) h3 h4 h5 h6 rfl rfl rfl rfl rfl rfl rfl
 |none=>
  refine kdv_makeTail (mg:=C.G.mg) D O.glob hg j J gP tok V Y hb λc' OM doc h' l R r X v U=>?_
  obtain⟨c2,p,vs,t,S,B,hd,hv⟩:=v
  cases S
  have own:=(ef I r).1
  have e:=AM O I M R gP U (by rw[Array.toList_append];exact t5 _ tok) λpos' cv q=>by
   rw[Array.toList_append]at q
   exact(t4 _ tok q).imp_right λq=>⟨c',q,own,dB O I r,p,B,vs,_,t,hd,hv⟩
  exact fin h' l _ c' p vs _ t (Nat.le_of_lt (Nat.lt_of_le_of_lt r X)) e (I.table O M R e l) rfl B hd hv own (dB O I r) rfl rfl rfl rfl rfl rfl rfl
end
section
variable{prog:Program}{w:World}{A:Around}{R:Result→Shared→Prop}{s:Shared}
theorem Il{e:Expr}{env:Env}
  (h:aX (model prog w) (A.deeper env) (eval e env) (λv s'=>R (.ok (.ret v)) s')
   (λe' s'=>aX (model prog w) (A.deeper env) (leaving env e') (λ_ a=>R (.error e') a) (λb a=>R (.error b) a) s') s):
  cq (model prog w) A (.expr e env) R s:=by
 refine iq ?_
 show aX _ (A.deeper env) (do point;ret (←(eval e env).onRaise (leaving env))) _ _ s
 exact bF (wpAny_point (bK (nE (fu h (λv s' h'=>a9 h') λ_ _ h'=>h'))))
theorem Gd{a:Addr}{args:Args}{o:Obj}{fd:FuncData}{body:Expr}{q:Str}(g:A.depth<recursionLimit)(x:s.heap.get? a=some o)
  (p:o.data=.func fd)(r:fd.scope.isCoroutine=false)(k:fd.scope.isGenerator=false)(i:fd.body=.expr body)(t:s.heap.CodeRec fd.code q)
  (h:aX (model prog w) A.in1 (bindArgs fd args) (λbinds d=>
   aX (model prog w) A.in1 (newFunctionEnv fd.scope fd.globals fd.closure binds (q++ ".<locals>.") (some a) fd.code none fd.builtins)
    (λenv b=>b.heap.NoLimit∧cq (model prog w) A (.expr body env) R b) (λe s'=>R (.error e) s') d) (λe s'=>R (.error e) s') s):
  cq (model prog w) A (.call (.ref a) args) R s:=by
 refine iq ?_
 show aX _ A.in1 (callAny (.ref a) args) _ _ s
 simp only[callAny]
 refine bF (wpAny_load x ?_)
 obtain⟨c,z,vs,y,u,l,n,v⟩:=t
 simp only[p,callFunction,r,k,i,u]
 rw[u]at h
 refine bF (m:=field (.ref c) 1) (wpAny_field l n v (bO ?_))
 exact bG h λbinds d j=>bG j λenv b f=>bF (wpAny_enterFrame f.1 g (a9 ⟨rfl,rfl,f.2⟩))
end
section
variable{C:FC}{m:Nat}{N:cb}{H H':Hp}{s:Shared}{FO hZ:Loc}{b:Expr}{sl FW:Scope}{a:Addr}{P:Addr→Prop}
theorem vN(O:C.Ok (m+1))(hl:oU FW sl=true)(r:rF N s.heap b sl hZ P a)(hk:∀n v,look n hZ=some v→ba sl n.str=some .free)(I:aO C.G N H s)(Fr:dU C N FO s.heap){R:Result→Shared→Prop}
  (k:∀env B s',env.scope=sl→(C.callee env).Ok m→aO C.G B H s'→dU (C.callee env) B hZ s'.heap→Ext YN N B s.heap s'.heap→(∀x,fK (C.callee env) x→¬aR s.heap x)→cq (model pw C.G.w) C.A (.expr b env) R s'):cq (model pw C.G.w) C.A (.call (.ref a) ⟨[],[]⟩) R s:=by
 obtain⟨o,fd,⟨g,hd,_⟩,X,⟨c,U,vs,q,t,c1,c2,c3,Z,_⟩,f⟩:=r
 have L:=L4 hl
 have i:C.A.depth<recursionLimit:=Nat.lt_of_le_of_lt (Nat.le_trans (Nat.le_add_right _ (10*(m+1))) (Nat.le_add_right _ 30)) O.room
 have K:=X.args
 have J:=aF K
 have F:=aF J
 have E:=aF F
 have e0:fd.params.args.map (·.arg)=[]:=by rw[List.isEmpty_iff.mp (aV J)];rfl
 refine Gd i g hd (by rw[X.scope];exact L.co) (by rw[X.scope];exact L.gen) X.body ⟨c,U,vs,t,c1,c2,c3,Z⟩ ?_
 have Bd:=nY (s:=s) (fd:=fd) (xs:=[]) (D:=[]) (L:=[]) (List.isEmpty_iff.mp (aV K)) (List.isEmpty_iff.mp (aV E)) (Option.isNone_iff_eq_none.mp (aV F)) (Option.isNone_iff_eq_none.mp (aV (aF E))) (.inl ⟨X.dflt,rfl⟩) (Nat.zero_le _) (Nat.zero_le _) (by rw[e0];rfl)
 refine .of (Bd _ _ _ _ ?_)
 rw[X.scope,X.glob,X.blt]
 have kinds:∀x∈sl.names,x.2≠ .local∧x.2≠ .cell:=λx j=>(L.kinds x j).elim (λh=>by rw[h.1];exact⟨nofun,nofun⟩) λh=>by rw[h];exact⟨nofun,nofun⟩
 have S:Entry C N s.heap sl fd.closure hZ:=⟨L.k,λn V l u=>(nomatch (hk n V l).symm.trans u),.inr λx j=>(kinds x j).2,X.inj,λn c q=>(f n c q).2⟩
 refine .of (sj O I Fr S λenv N1 T d lb M F1 Q dead gg W=>?_)
 have e:env.scope=sl:=d▸rfl
 have y:env.cells=fd.closure:=d▸qF λx j=>(kinds x j).2
 have O':=sq O (env:=env) (e.symm▸L.k) (d▸rfl) (d▸rfl) lb (λn p=>p.elim (λp=>absurd rfl (kinds _ (mem_of_lookup (show sl.names.lookup n.str=some .cell from e▸p))).2)
  λp=>y.symm▸X.has n (show sl.names.lookup n.str=some .free from e▸p)) λY=>(List.any_eq_true.mp Y).elim λx z=>absurd (beq_iff_eq.mp z.2) (kinds x (e▸z.1)).2
 exact wpAny_pure ⟨p7 O M,k env N1 T e O' M F1 Q dead⟩
theorem Ge(O:C.Ok (m+1)){e:XE}{p:PT}{v:MV}(hl:oU FW sl=true)(z:e.ok sl p=true)(r:rF N s.heap (e.b p) sl hZ P a)(hk:∀n v,look n hZ=some v→ba sl n.str=some .free)(h:Ev m e hZ H v H')(I:aO C.G N H s)(Fr:dU C N FO s.heap){R:Result→Shared→Prop}
  (k:∀x s' d,aO C.G d H' s'→Ext YN N d s.heap s'.heap→RV d s'.heap v x→R (.ok (.ret x)) s'):cq (model pw C.G.w) C.A (.call (.ref a) ⟨[],[]⟩) R s:=
 vN O hl r hk I Fr λenv t j c o y B g dead=>Il (h (C.callee env) p o (show e.ok env.scope p=true from c.symm▸z) t j _ _ y B λx i q u f l=>k x i q u (g.trans f) l)
theorem Gf(O:C.Ok (m+1)){e:XE}{p:PT}(hl:oU FW sl=true)(z:e.ok sl p=true)(r:rF N s.heap (e.b p) sl hZ P a)(hk:∀n v,look n hZ=some v→ba sl n.str=some .free)(h:K9 m e hZ H H')(I:aO C.G N H s)(Fr:dU C N FO s.heap){R:Result→Shared→Prop}
  (k:∀e s',u' YN C N H' s.heap e s'→R (.error e) s'):cq (model pw C.G.w) C.A (.call (.ref a) ⟨[],[]⟩) R s:=
 vN O hl r hk I Fr λenv l i c f t d g dead=>Il (h (C.callee env) p f (show e.ok env.scope p=true from c.symm▸z) l i _ _ t d λe s' h=>h.elim λj h=>h.elim λo h=>
  .of (su (C:=C.callee env) (env:=env) f.hA rfl ((d.frames env (List.mem_cons_self ..)).2.imp λ_ q=>q.1) (d.ext h.2.1) h.2.2 λh' y=>k _ _ ⟨j,o,h.1,g.trans h.2.1,.inr y⟩))
end
end Mine
end
section
open PySem PySem.W PyProof.Rows PySem.Calls Builtin Builtin.ObjectAttr
namespace Mine
open Nm
noncomputable abbrev zr:List Stmt:=[.Return (some (.Tuple [.Constant (.str bY.str) 0 ⟨656,16,656,22⟩,.Call (.Name gV.str ⟨656,24,656,28⟩) [] [] ⟨656,24,656,30⟩] 0 ⟨656,15,656,31⟩)) ⟨656,8,656,31⟩]
noncomputable abbrev t6:Stmt:=.Try zr [.ExceptHandler (some (.Name eQ.str ⟨657,11,657,18⟩)) none [.Return (some (.Tuple [.Constant (.str dY.str) 0 ⟨658,16,658,25⟩,.Constant .none 0 ⟨658,27,658,31⟩] 0 ⟨658,15,658,32⟩)) ⟨658,8,658,32⟩] ⟨657,4,658,32⟩] [] [] ⟨655,4,658,32⟩
noncomputable def L6:XS:=⟨λ_=>t6,λsc _=>isLocal (ba sc gV.str)&&gT (ba sc eQ.str)⟩
theorem JG(P:Params):bX P 850 [gV] [L6] 0:=⟨by kernel_rfl,by kernel_rfl⟩
theorem JH:tZ kq 850:=λP=>by kernel_rfl
theorem Gg:(gV.str==("__debug__" :Str))=false:=by kernel_rfl
theorem JI:(eQ.str==("__debug__" :Str))=false:=by kernel_rfl
section
variable{C:FC}{m:Nat}{N:cb}{H H':Hp}{s:Shared}{hZ:Loc}{b:Expr}{sl FW:Scope}{f:Addr}{P:Addr→Prop}{tl:List Env}{mp:Str→Option Value}
theorem vO(O:C.Ok (m+1))(g:C.env.kindOf gV.str=some .local)(d:s.heap.Ns C.env.locals mp)(e:mp gV.str=some (.ref f))(hf:∀t,jm C.G.w (.ref f) {s with toks:=t}){Q:Flow→Shared→Prop}{E:Value→Shared→Prop}
  (k:∀t,aX (model pw C.G.w) C.A (call (.ref f) []) (λx a=>Q (.ret (.ref a.heap.objs.size)) {a with heap:=a.heap.push {cls:=.type "tuple",data:=.seq #[.str bY.str s.toks,x]}}) E {s with toks:=t}):aX (model pw C.G.w) C.A (execs zr C.env) Q E s:=by
 refine d4 (sX (xj (cK (.of (show wpAny _ _ (constValue _ _) _ _ _ from wpAny_mkText ?_)) rfl)))
 refine cK (dC (.of (wpAny_Name (wpAny_loadName_local O.kind g d e ?_) Gg))) rfl
 refine fV (P:=λc=>jm C.G.w (.ref f) c) rfl (λ_ h=>h) (d9 ⟨hf _,fu (k _) (λx a h=>?_) λ_ _ h=>h⟩)
 exact d9 ⟨small (show 2≤1000 by decide),h⟩
theorem JJ(O:C.Ok (m+1))(l:C.env.kindOf gV.str=some .local)(i:s.heap.Ns C.env.locals mp)(j:mp gV.str=some (.ref f)){e:XE}{p:PT}{v:MV}(hl:oU FW sl=true)(z:e.ok sl p=true)(r:rF N s.heap (e.b p) sl hZ P f)(hk:∀n v,look n hZ=some v→ba sl n.str=some .free)(h:Ev m e hZ H v H')
  (I:aO C.G N H s)(F:dU C N [] s.heap){Q:Flow→Shared→Prop}{E:Value→Shared→Prop}(k:∀x s' a,aO C.G a H' s'→Ext YN N a s.heap s'.heap→RV a s'.heap (.tup [.str bY,v]) x→Q (.ret x) s'):aX (model pw C.G.w) C.A (exec t6 C.env) Q E s:=by
 rw[arm_exec_Try]
 refine bz ?_
 unfold tryStmt
 simp only[List.isEmpty_nil,if_true]
 have hf:∀t,jm C.G.w (.ref f) {s with toks:=t}:=λt=>r.elim λo r=>r.elim λfd r=>nV r.1.1 r.1.2.1
 refine bK (l9 (vO O l i j hf λt=>ip (Ge (s:={s with toks:=t}) O hl z r hk h (I.tok t) F λx u q c d g=>?_)))
 exact a9 (k _ _ q (c.push _ _) (d.trans (Ext.push _ _ _)) (xD O c (xs:=[.str bY.str s.toks,x]) (.cons (.str _ _) (.cons g .nil))))
theorem Gh(O:C.Ok (m+1))(S:C.fr=C.env::tl)(hb:C.env.kindOf eQ.str=some .globalImplicit)(hc:C.env.kindOf gV.str=some .local)(hn:s.heap.Ns C.env.locals mp)(hm:mp gV.str=some (.ref f)){e:XE}{p:PT}(hl:oU FW sl=true)(z:e.ok sl p=true)(r:rF N s.heap (e.b p) sl hZ P f)(hk:∀n v,look n hZ=some v→ba sl n.str=some .free)(h:K9 m e hZ H H')
  (I:aO C.G N H s)(F:dU C N [] s.heap){Q:Flow→Shared→Prop}{E:Value→Shared→Prop}(k:∀x s' T,aO C.G T H' s'→Ext YN N T s.heap s'.heap→RV T s'.heap (.tup [.str dY,.none]) x→Q (.ret x) s'):aX (model pw C.G.w) C.A (exec t6 C.env) Q E s:=by
 rw[arm_exec_Try]
 refine bz ?_
 unfold tryStmt
 simp only[List.isEmpty_nil,if_true]
 have hf:∀t,jm C.G.w (.ref f) {s with toks:=t}:=λt=>r.elim λo r=>r.elim λfd r=>nV r.1.1 r.1.2.1
 refine bK (l9 (vO O hc hn hm hf λt=>ip (Gf (s:={s with toks:=t}) O hl z r hk h (I.tok t) F λev s1 h=>?_)))
 obtain⟨W,J,I1,V,xx⟩:=h
 have F1:=F.ext V
 obtain⟨h1,X,Y,D,j⟩:=s1
 refine .of (wpAny_bind (C5 O.hA S F1 xx λh2 held=>?_))
 simp only[List.isEmpty_cons,Bool.false_and,Bool.false_eq_true,if_false]
 obtain⟨x,a0,B,L,rfl,d,c,up⟩:=held
 have at_:∀h t,B.StaysIn h→W.UpToSlots h→aO C.G J H' ⟨h,X,Y,t,j⟩∧Ext YN J J W h:=λh t st u=>land (s':=⟨h1,X,Y,D,j⟩) I1 (λy o g=>
  (c y o g).imp (λz=>st _ _ z) λz=>⟨z.1,z.2,u y o g λvs q=>z.2.2.elim λes f=>f.elim λn f=>nomatch q.symm.trans f⟩) t
 refine wpAny_bind (wpAny_landsW d λh3 a i=>?_)
 have Z:=at_ h3 D a.1 (up.trans i)
 obtain⟨ob,R,M⟩:=a.there
 refine wpAny_handleBy_cons (codeAny_handlers_test (Calls.Name_function_global O.kind hb (Calls.loadGlobal_global (v:=.ref 76) (mg:=C.G.mg) (O.glob.symm▸p6 O Z.1 O.G.g (by decide)) (mg_of O.G.jH O.G.g (Ik.symm▸vJ _)) ?_) JI)) (by intro q;cases q)
 refine wpAny_excMatches_sub_self ((jH O Z.1) _ _ (iC _)) R M (by decide) (codeAny_handlers_suite ?_)
 refine lands_againW a λh4 l K=>?_
 rw[execs_cons,exec_Return_some,arm_eval_Tuple]
 refine wpAny_bind (wpAny_bind (wpAny_standAt (wpAny_bind (wpAny_bind (wpAny_standAt (wpAny_bind (spliced_more ?_)))))))
 show wpAny _ _ (constValue _ _) _ _ _
 refine wpAny_mkText (spliced_more ?_)
 show wpAny _ _ (constValue _ _) _ _ _
 refine wpAny_pure (Calls.spliced_nil ?_)
 have U:=at_ h4 (D+1) l.1 ((up.trans i).trans K)
 refine wpAny_newObj_type ?_ (small (show 2≤1000 by decide))
 exact wpAny_pure (wpAny_pure (k _ _ J (U.1.push _ _) ((V.trans U.2).trans (Ext.push _ _ _)) (xD O U.1 (xs:=[.str dY.str D,.none]) (.cons (.str _ _) (.cons .none .nil)))))
end
end Mine
end
section
open PySem PySem.W PyProof.Rows PySem.Calls Builtin
namespace Mine
open Nm
noncomputable def isFree:Option NameKind→Bool
 |some .free=>true
 |_=>false
theorem zt{k:Option NameKind}(h:isFree k=true):k=some .free:=by
 cases k with
 |none=>cases h
 |some k=>cases k<;>first|rfl|cases h
noncomputable def mH(ns:List Nm)(e:XE):XE:={b:=λp=>.Call (.Name kq.str (pE (sub p 0))) [.Lambda (L5 (sub p 1 []).e) (e.b (sub (sub p 1) 0)) (uY (sub p 1)) (pE (sub p 1))] [] (pE p),ok:=λsc p=>(gT (ba sc kq.str)&&te kq)&&(noArgs (L5 (sub p 1 []).e)&&(oU sc (uY (sub p 1))&&((sc.names.any λx=>x.2==.cell)&&(ns.all (λn=>isFree (ba (uY (sub p 1)) n.str))&&e.ok (uY (sub p 1)) (sub (sub p 1) 0))))),pb:=false}
section
variable{C:FC}{m:Nat}{N:cb}{H H':Hp}{s:Shared}{ρ:Loc}{ns:List Nm}{e:XE}{v:MV}
theorem C7(O:C.Ok (m+2)){p:PT}(z:(mH ns e).ok C.sc p=true)(I:aO C.G N H s)(F:dU C N ρ s.heap){v:MV}{Q:Value→Shared→Prop}{E:Value→Shared→Prop}(k:∀x s' d,aO C.G d H' s'→Ext YN N d s.heap s'.heap→RV d s'.heap v x→Q x s')
  (B:∀(a:FC) j c tl mp f P(Q:Flow→Shared→Prop)(E:Value→Shared→Prop),a.Ok (m+1)→a.fr=a.env::tl→a.env.kindOf eQ.str=some .globalImplicit→a.env.kindOf gV.str=some .local→c.heap.Ns a.env.locals mp→mp gV.str=some (.ref f)→
   rF j c.heap (e.b (sub (sub p 1) 0)) (uY (sub p 1)) (jZ ns ρ) P f→aO a.G j H c→dU a j [] c.heap→(∀x s' d,aO a.G d H' s'→Ext YN j d c.heap s'.heap→RV d s'.heap v x→Q (.ret x) s')→aX (model pw a.G.w) a.A (exec t6 a.env) Q E c):
  aX (model pw C.G.w) C.A (eval ((mH ns e).b p) C.env) Q E s:=by
 have t:=aF z
 have r:=aF t
 have q:=aF r
 have L:=aF q
 have g:=JH C.G.w.params
 refine dC (.of (mh O I (aV z) (beq_iff_eq.mp (aV g)) ?_))
 refine fV (P:=λc=>jm C.G.w (.ref 850) c) rfl (λ_ h=>h) (cK (.of (C6 O (aV t) (aV r) (aV q) (λn o=>zt (List.all_eq_true.mp (aV L) n o)) I F λf c K y T=>d9 ⟨mF (G:=C.G) O K (aF g),?_⟩)) rfl)
 have F1:=F.ext y
 obtain⟨fd,D,X,_⟩:=ME (JG C.G.w.params)
 have l:isLocal (ba fd.scope gV.str)=true∧gT (ba fd.scope eQ.str)=true:=⟨aV (aV X.ok),aF (aV X.ok)⟩
 refine ip (CP O X (jU l.1) K F1 λenv Z S i J I2 F2 u dead mp=>?_)
 obtain⟨mp,o,V⟩:=mp
 have hb:env.kindOf eQ.str=some .globalImplicit:=J.gl (show gT (ba env.scope eQ.str)=true from i.symm▸l.2)
 have W:env.kindOf gV.str=some .local:=jU (show isLocal (ba env.scope gV.str)=true from i.symm▸l.1)
 exact yO (d4 (B (C.callee env) Z S C.fr mp f (lg C) _ _ J rfl hb W o V (T.ext u λ_ _=>id) I2 F2 λx R Y I3 M U=>k x R Y I3 ((y.trans u).trans M) U))
theorem vP{p:PT}{sc:Scope}(z:(mH ns e).ok sc p=true):∀n v,look n (jZ ns ρ)=some v→ba (uY (sub p 1)) n.str=some .free:=λn v l=>zt (List.all_eq_true.mp (aV (aF (aF (aF (aF z))))) n (qL l).2)
theorem nZ(h:Ev m e (jZ ns ρ) H v H'):Ev (m+2) (mH ns e) ρ H (.tup [.str bY,v]) H':=λC p O z N s Q E I F k=>
 C7 O z I F k λq o n tl mp f P Q E i d hb g b c r j l a=>JJ i g b c (aV (aF (aF z))) (aF (aF (aF (aF (aF z))))) r (vP z) h j l a
theorem zu(h:K9 m e (jZ ns ρ) H H'):Ev (m+2) (mH ns e) ρ H (.tup [.str dY,.none]) H':=λC p O z N s Q E I F k=>
 C7 O z I F k λq o n tl mp f P Q E i a hb g c d r j l b=>Gh i a hb g c d (aV (aF (aF z))) (aF (aF (aF (aF (aF z))))) r (vP z) h j l b
end
noncomputable def qM(s:Scope)(x:Str):Bool:= !(s.names.any λy=>y.1==x&&(y.2==.local||y.2==.cell))
noncomputable def C8(n:Nm)(t:XT)(ns:List Nm)(i:XE)(ifs:List XE)(e:XE):XS:=⟨λp=>.Assign [.Name n.str (pE (sub p 0))] ((eb t ns i ifs e).b (sub p 1)) (pS p),λsc p=>(eb t ns i ifs e).ok sc (sub p 1)&&(isLocal (ba sc n.str)&&(((pE (sub p 0)).line==(pE (sub p 1)).line)&&qM (uY (sub p 1)) n.str))⟩
section
variable{C:FC}{d:Nat}{N:cb}{H:Hp}{s:Shared}{ρ ρ1 ρ':Loc}{H1 H2 H3 H':Hp}{n:Nm}{mv v:MV}{j:It}
theorem JK(O:C.Ok d){p:PT}{t:XT}{ns:List Nm}{i:XE}{ifs:List XE}{e:XE}(hk:C.env.kindOf n.str=some .local)(hl:((pE (sub p 0)).line==(pE (sub p 1)).line)=true)(hf:qM (uY (sub p 1)) n.str=true){l:Nat}:swapsWith ((eb t ns i ifs e).b (sub p 1)) (some (.Name n.str (pE (sub p 0)))) l C.env=pure true:=by
 have hb:(C.env.blockKind==.function)=true:=by unfold Env.blockKind;rw[O.kind];rfl
 show(pure (C.env.blockKind==.function&&C.env.kindOf n.str==some .local&&(pE (sub p 0)).line==(pE (sub p 1)).line&&qM (uY (sub p 1)) n.str):Sem Bool)=_
 rw[hb,hk,hl,hf]
 rfl
theorem C9{t:XT}{ns:List Nm}{i:XE}{ifs:List XE}{e:XE}(g:∀n∈vt::ns,look n ρ=none)(hi:Ic d i ρ H j H1)(ok:gA t j=true){vs:List MV}{m:Nat}(cp:rA d t ns ifs e ρ m j H1 vs H')(B:vs.length≤1000):eu d (C8 n t ns i ifs e) ρ H .next (put n (.lst vs) ρ) H':=λC p O G z N s Q E I F k=>by
 have c:=aF z
 have hk:=Cp G (aV c)
 show aX _ _ (exec (.Assign [.Name n.str (pE (sub p 0))] ((eb t ns i ifs e).b (sub p 1)) (pS p)) C.env) _ _ _
 rw[exec_Assign_Name_used _ _ _ _ (JK (t:=t) (ns:=ns) (i:=i) (ifs:=ifs) (e:=e) O hk (aV (aF c)) (aF (aF c)))]
 refine bz (bK ?_)
 show aX _ _ (do let _←comprehension ((eb t ns i ifs e).b (sub p 1)) (uY (sub p 1)) C.env (i.b (sub (sub p 1) 2)).pos (newList []) false (eval (i.b (sub (sub p 1) 2)) C.env) (some (assign (.Name n.str (pE (sub p 0))) C.env));pure ()) _ _ s
 exact bK (vv O (aV z) g hi ok cp B I F λ_ W D L s' S K nD nL M=>vw S K nD M I.hp.lt F.al λJ R U u x oL=>K.gL.elim λA gL=>
  show aX _ _ (assign (.Name n.str (pE (sub p 0))) C.env (.ref D)) _ _ _ from .of (wpAny_assign_Name (qw O R U (.inl hk) x λw P T o=>
   have f:¬fK C L:=λq=>nL (F.al L q.at)
   have l:=s_ o gL oL f
   ⟨A,l,λh' V h a=>
    have r:=gO oL a
    a9 (a9 (k _ _ J .next (P.va oL a (f' h) w.toks) (((u.fU F).trans o).comp r (λy q=>.inr (q▸nL)) I.hp.lt) (T.moved r λy q z=>nL (z▸F.al y q))))⟩)))
theorem C_{b:Array UInt8}{t:Tok}{Q:Value→Shared→Prop}{E:Value→Shared→Prop}(h:Q (.bool false) {s with toks:=s.toks+1}):wpAny (model pw C.G.w) C.A (call (.builtin "isinstance") [.bytes b t,.type "str"]) Q E s:=by
 obtain⟨e,g,d,a,os⟩:=s
 refine call_isinstance (S:=λ_ R s=>R (.ok (.ret (.bool false))) {s with toks:=s.toks+1}) (λ_ _ _ _ s c=>?_) h
 obtain⟨e,g,d,a,os⟩:=s
 exact isinstance_outer (isinstance_nested_false_bytes (by decide) (by first|rfl|kernel_rfl) (by rw[isSubtype_type];kernel_rfl) c)
theorem Dc{b:Array UInt8}{t:Tok}{tp:Addr}{Q:Value→Shared→Prop}{E:Value→Shared→Prop}(g:s.heap.get? tp=some {cls:=.type "tuple",data:=.seq #[.type "bytes",.type "bytearray"]})(h:∀a,Q (.bool true) {s with toks:=a}):wpAny (model pw C.G.w) C.A (call (.builtin "isinstance") [.bytes b t,.ref tp]) Q E s:=by
 refine call_isinstance (isinstance_tuple (Tx:= "bytes") (cs:=[.type "bytes",.type "bytearray"]) (vs:=[true,false]) ?_) ⟨rfl,g,h⟩
 refine⟨Answers.of_true (by first|rfl|kernel_rfl) (by rw[isSubtype_type];kernel_rfl),?_,trivial⟩
 intro _ _ _ _ _ _ s c
 obtain⟨e,g,d,a,os⟩:=s
 exact isinstance_nested_false_bytes (by decide) (by first|rfl|kernel_rfl) (by rw[isSubtype_type];kernel_rfl) (c.2 (a+1))
theorem zw:sh gd (.builtin "isinstance"):=λP=>by kernel_rfl
theorem JL:sh IW (.type "str"):=λP=>by kernel_rfl
theorem mI:sh iT (.type "bytes"):=λP=>by kernel_rfl
theorem Dd:sh gU (.type "bytearray"):=λP=>by kernel_rfl
noncomputable def De(sc:Scope)(n:Nm):Bool:=gT (ba sc n.str)&&te n
noncomputable def Df(e:XE):XE:={b:=λp=>.Call (.Name gd.str (pE (sub p 0))) [e.b (sub p 1),.Name IW.str (pE (sub p 2))] [] (pE p),ok:=λsc p=>De sc gd&&(De sc IW&&e.ok sc (sub p 1)),pb:=false}
noncomputable def Dg(e:XE):XE:={b:=λp=>.Call (.Name gd.str (pE (sub p 0))) [e.b (sub p 1),.Tuple [.Name iT.str (pE (sub (sub p 2) 0)),.Name gU.str (pE (sub (sub p 2) 1))] (pK (sub p 2)) (pE (sub p 2))] [] (pE p),ok:=λsc p=>De sc gd&&(De sc iT&&(De sc gU&&e.ok sc (sub p 1))),pb:=false}
theorem Dh{e:XE}{bs:List UInt8}(h:Ev d e ρ H (.bytes bs) H1):Ev d (Df e) ρ H (.bool false) H1:=λC p O w N s Q E I F k=>by
 refine dC (.of (c7 O I (aV w) zw ?_))
 refine fV (P:=λa=>jm C.G.w (.builtin "isinstance") a) (by rw[i7,e.st];rfl) (λ_ h=>h) (cK (h C _ O (aF (aF w)) N s _ _ I F λu a g b c f=>?_) (e.st _ _ _))
 refine cK (.of (c7 O b (aV (aF w)) JL ?_)) rfl
 exact f.d.elim λt q=>q▸d9 ⟨fC _ _ _,.of (C_ (k _ _ g (b.tok _) c (.bool false)))⟩
theorem Di{e:XE}{bs:List UInt8}(h:Ev d e ρ H (.bytes bs) H1):Ev d (Dg e) ρ H (.bool true) H1:=λC p O w N s Q E I F k=>by
 refine dC (.of (c7 O I (aV w) zw ?_))
 refine fV (P:=λb=>jm C.G.w (.builtin "isinstance") b) (by rw[i7,e.st];rfl) (λ_ h=>h) (cK (h C _ O (aF (aF (aF w))) N s _ _ I F λu b g a c f=>?_) (e.st _ _ _))
 refine cK (xj (cK (.of (c7 O a (aV (aF w)) mI ?_)) rfl)) rfl
 refine cK (.of (c7 O a (aV (aF (aF w))) Dd ?_)) rfl
 refine d9 ⟨small (show 2≤1000 by decide),?_⟩
 exact f.d.elim λt q=>q▸d9 ⟨fC _ _ _,.of (Dc (Heap.get?_push_size _ rfl) λi=>k _ _ g (a.push _ _) (c.trans (Ext.push _ _ _)) (.bool true))⟩
end
section
variable{prog:Program}{w:World}{A:Around}{E:Value→Shared→Prop}{s:Shared}{env:Env}
theorem vQ{k v:Sem Value}{rest:List (Sem Value×Sem Value)}{Q:List (Value×Value)→Shared→Prop}
  (h:aX (model prog w) A k (λi c=>aX (model prog w) A v (λg b=>aX (model prog w) A (evalPairs rest) (λvs a=>Q ((i,g)::vs) a) E b) E c) E s):
  aX (model prog w) A (evalPairs ((k,v)::rest)) Q E s:=by
 rw[evalPairs]
 exact bG h λi c f=>bG (b0 f) λg b e=>bG (b0 e) λvs a d=>a9 d
theorem L7{keys:List (Option Expr)}{values:List Expr}{pos:Pos}{Q:Value→Shared→Prop}
  (c:keys.all (·.isSome)=true)(hl:keys.length=values.length)(k:keys≠[])(hlen:keys.length≤15)
  (h:aX (model prog w) A (evalPairs (pairTrees keys values env pos)) (λvs b=>wpAny (model prog w) A (storeAll s.heap.objs.size vs) (λ_ a=>Q (.ref s.heap.objs.size) a) E b) E
   {s with heap:=s.heap.push {cls:=.type "dict",data:=.dict #[]}}):
  aX (model prog w) A (eval (.Dict keys values pos) env) Q E s:=by
 have i:=pairTrees_length keys values env pos c hl
 have g:pairTrees keys values env pos≠[]:=λj=>k (List.length_eq_zero_iff.mp (i.symm.trans (congrArg List.length j)))
 rw[arm_eval_Dict,zip_pairTrees keys values env pos c hl,dictDisplay_pairs _ g (Nat.lt_of_le_of_lt (i.symm▸hlen) (by decide))]
 refine bz (bK ?_)
 unfold subDict
 refine bF (wpAny_alloc ?_)
 refine bK (b0 ?_)
 rw[if_pos (i.symm▸hlen)]
 refine bG h λvs b f=>b0 ?_
 exact bF (wpAny_mono f (λ_ a d=>a9 (a9 (a9 d))) λ_ _ e=>e)
theorem JM{values:List Expr}{pos:Pos}{Q:Value→Shared→Prop}(h:Q (.ref s.heap.objs.size) {s with heap:=s.heap.push {cls:=.type "dict",data:=.dict #[]}}):
  aX (model prog w) A (eval (.Dict [] values pos) env) Q E s:=by
 rw[arm_eval_Dict]
 refine bz ?_
 show aX _ _ (dictDisplay []) _ _ _
 unfold dictDisplay
 exact .of (by repeat (first|exact wpAny_pure h|refine wpAny_bind ?_|refine wpAny_pure ?_|refine wpAny_alloc ?_))
end
theorem stored_new{a:Type}[DecidableEq a]{acc:List (a×Value)}{k:a}{v:Value}(h:k∉acc.map (·.1)):stored acc k v=acc++[(k,v)]:=by
 unfold stored
 exact if_neg λq=>(List.any_eq_true.mp q).elim λx z=>h (List.mem_map.mpr ⟨x,z.1,of_decide_eq_true z.2⟩)
theorem yc{a:Type}[DecidableEq a]{kvs:List (a×Value)}:∀{acc:List (a×Value)},((acc++kvs).map (·.1)).Nodup→merged acc kvs=acc++kvs:=by
 induction kvs with
 |nil=>exactλ{acc} _=>(List.append_nil acc).symm
 |cons e kvs ih=>
  intro acc h
  have hk:e.1∉acc.map (·.1):=λq=>by
   rw[List.map_append,List.nodup_append]at h
   exact h.2.2 e.1 q e.1 (List.mem_cons_self ..) rfl
  show merged (stored acc e.1 e.2) kvs=_
  rw[stored_new hk,ih (by rw[List.append_assoc];exact h),List.append_assoc]
  rfl
def Nl(w:World)(N:cb)(h:Heap)(ns:List Nm)(vs:List MV)(l:List (Value×Value)):Prop:=∃kvs,Carries (PySem.strKind pw w) l kvs∧cM N h Nm.str kvs (ns.zip vs)∧kvs.map (·.1)=ns.map Nm.str∧l.length=vs.length
noncomputable def kB:List Nm→PT→Nat→List (Option Expr)
 |[],_,_=>[]
 |n::ns,p,i=>some (.Constant (.str n.str) (N4 (sub p i []).e) (sub p i []).e.pos)::kB ns p (i+1)
theorem Dk{ns:List Nm}{p:PT}{i:Nat}:(kB ns p i).all (·.isSome)=true∧(kB ns p i).length=ns.length:=by
 induction ns generalizing i with
 |nil=>exact⟨rfl,rfl⟩
 |cons n ns ih=>exact⟨(ih (i:=i+1)).1,congrArg Nat.succ (ih (i:=i+1)).2⟩
def MF(d:Nat)(ns:List Nm)(es:List XE)(ρ:Loc)(H:Hp)(vs:List MV)(a:Hp):Prop:=∀C p i j pos,FC.Ok C d→xe es C.sc p j=true→KY (Nl C.G.w · · ns) C (evalPairs (pairTrees (kB ns p i) (bL es p j) C.env pos)) ρ H vs a
section
variable{d:Nat}{ρ:Loc}{H H1 H2:Hp}{n:Nm}{v:MV}{vs:List MV}{ns:List Nm}
theorem yd:MF d [] [] ρ H [] H:=λC p i j pos O z N s Q E I F k=>a9 (k [] _ N I (.refl _ _) ⟨[],trivial,.nil,rfl,rfl⟩)
theorem er{x:XE}{es:List XE}(h:Ev d x ρ H v H1)(t:MF d ns es ρ H1 vs H2):MF d (n::ns) (x::es) ρ H (v::vs) H2:=λC p i j pos O z N s Q E I F k=>
 vQ (.of (wpAny_Constant_str (bK (h C _ O (aV z) N {s with toks:=s.toks+1} _ _ (I.tok _) F λa e o u c g=>bz (a9 (t C p (i+1) (j+1) pos O (aF z) o e _ _ u (F.ext c) λl y m r b f=>
  k _ _ m r (c.trans b) (f.elim λkvs q=>⟨(n.str,a)::kvs,⟨strKind_is pw C.G.w n.str _,rfl,q.1⟩,.cons (g.ext b) q.2.1,congrArg (n.str:: ·) q.2.2.1,congrArg Nat.succ q.2.2.2⟩)))))))
noncomputable def k2(ns:List Nm)(es:List XE):XE:={b:=λp=>.Dict (kB ns p 0) (bL es p ns.length) (pE p),ok:=λsc p=>xe es sc p ns.length&&(es.length.beq ns.length&&(ns.length.ble 15&&(decide (ns.map Nm.str).Nodup&&Nat.blt 0 ns.length)))}
noncomputable def n6:XE:={b:=λp=>.Dict [] [] (pE p),ok:=λ_ _=>true}
theorem qN:Ev d n6 ρ H (.ref .D (H.n .D)) (H.new .D (.dy [])):=λC p O z N s Q E I F k=>
 JM ((BY (c:=.D) (v:=.dy []) (o:={cls:=.type "dict",data:=.dict #[]}) O I rfl (λa e _=>⟨yR (me O I),[],Heap.DictOf.new _,.nil⟩) s.toks).elim λa q=>k _ _ a q.1 q.2.1 q.2.2)
theorem t7{es:List XE}(h:MF d ns es ρ H vs H1)(hl:vs.length≤1000):Ev d (k2 ns es) ρ H (.ref .S (H1.n .S)) (H1.new .S (.bu (ns.zip vs))):=λC p O z N s Q E I F k=>by
 have j:=aF z
 have f:=aF j
 have b:=aF f
 have a:=(Dk (ns:=ns) (p:=p) (i:=0)).2
 refine L7 Dk.1 (a.trans ((Nat.eq_of_beq_eq_true (aV j)).symm.trans CU.symm)) (λq=>by rw[q]at a;exact Nat.lt_irrefl 0 (by have:=Nat.blt_eq.mp (aF b);rw[←a]at this;exact this)) (a▸Nat.le_of_ble_eq_true (aV f)) ?_
 have m:=lz O I (o:={cls:=.type "dict",data:=.dict #[]}) rfl (λq=>absurd q.1 (by decide)) s.toks
 refine h C p 0 ns.length _ O (aV z) _ _ _ _ m.1 (F.ext m.2.1) λl t J y r A=>A.elim λkvs q=>?_
 have mk:=m.2.2.ext r id
 have u:=cj s.heap
 refine wpAny_storeAll (knd:=PySem.strKind pw C.G.w) l kvs [] t _ q.1 ⟨_, #[],0,mk.2.2.1,⟨rfl,rfl,rfl⟩,rfl,(λe D=>absurd D (Array.not_mem_empty e)),Pairs.nil,List.nodup_nil⟩ (by rw[List.length_nil,q.1.length,q.2.2.2,Nat.zero_add];exact small hl) λh' hd B=>?_
 rw[yc (by rw[List.nil_append,q.2.2.1];exact of_decide_eq_true (aV b)),List.nil_append]at hd
 have al:=d_ hd
 have hk:∀x o,¬(x=s.heap.objs.size∨x=s.heap.objs.size)→t.heap.get? x=some o→h'.get? x=some o:=λx o q g=>(B.2 x λz=>q (.inl z)).trans g
 have e:=mf (c:=.S) y.hp (.inl mk.1) (.inl mk.1) hk
 exact k _ _ _ (y.add (c:=.S) (v:=.bu (ns.zip vs)) (.inl mk.1) (.inl mk.1) hk al al (λK z=>⟨yR (me O I),kvs,hd,q.2.1.1,q.2.1.2.ext (z▸e)⟩) _) ((m.2.1.trans r).comp e (λx q=>.inr (q.elim (λq=>q▸u) λq=>q▸u)) I.hp.lt) xW
end
end Mine
end
section
open PySem PySem.W
namespace Mine
open Nm
noncomputable def fM:XS:=⟨λp=>match(p []).ss with
 |s::_=>s
 |[]=>.Pass ⟨0,0,0,0⟩,λ_ _=>true⟩
theorem eB:sh cn (.builtin "len"):=λP=>by kernel_rfl
theorem t8:sh qb (.builtin "min"):=λP=>by kernel_rfl
theorem JN:sh Fb (.builtin "max"):=λP=>by kernel_rfl
theorem JO:sh ve (.builtin "abs"):=λP=>by kernel_rfl
theorem JP:sh Fd (.builtin "sum"):=λP=>by kernel_rfl
theorem AN:sh pJ (.builtin "sorted"):=λP=>by kernel_rfl
theorem Dl:sh vf (.type "int"):=λP=>by kernel_rfl
theorem zx:sh r3 (.type "list"):=λP=>by kernel_rfl
theorem eC:sh eZ (.type "range"):=λP=>by kernel_rfl
theorem t9:sh lq (.type "enumerate"):=λP=>by kernel_rfl
noncomputable def ph:List XS:=[bo (aH .Lt (aa dc) (av 1)) (xB [fM]) (xB []),
 ay (cQ (aa ai) hN) (aa hN),
 ay (cQ (aa ai) dc) (aa dc),
 ay (cQ (aa ai) qa) (ak gU [(aa dc)]),
 ay (cQ (aa ai) d5) (av 0),
 ay (cQ (aa ai) dF) (av 0),
 ay (cQ (aa ai) fP) (cw true),
 ay (cQ (aa ai) d6) (cw true)]
theorem pj(P:Params):bX P 105 [ai,hN,dc] ph 0:=⟨by kernel_rfl,by kernel_rfl⟩
theorem JQ:E1 HU .b8 105:=λP=>by kernel_rfl
noncomputable def qO:List XS:=[bt (aL .Sub (aq (aa ai) dF) (aq (aa ai) d5))]
theorem qP(P:Params):bX P 112 [ai] qO 0:=⟨by kernel_rfl,by kernel_rfl⟩
theorem j3:fL .b8 gc 112:=λP=>by kernel_rfl
noncomputable def vR:List XS:=[bt (aL .Sub (aq (aa ai) dc) (ao (aa ai) gc []))]
theorem vS(P:Params):bX P 119 [ai] vR 0:=⟨by kernel_rfl,by kernel_rfl⟩
theorem vT:fL .b8 b7 119:=λP=>by kernel_rfl
noncomputable def qQ:List XS:=[bt (cS [(a5 bC),(aq (aa ai) hN),(aa iu)])]
theorem qR(P:Params):bX P 126 [ai,iu] qQ 0:=⟨by kernel_rfl,by kernel_rfl⟩
theorem fE:fL .b8 bM 126:=λP=>by kernel_rfl
noncomputable def t_:List XS:=[bo (fT (aq (aa ai) fP)) (xB [bt (cS [(av 0),(eP th)])]) (xB []),
 ay (bE iS) (ak qb [(ak cn [(aa bl)]),(ao (aa ai) b7 [])]),
 g6 (bE nH) (Jb (aa bl) (aa iS)) (xB [ay (pg (aq (aa ai) qa) (aL .Mod (aq (aa ai) dF) (aq (aa ai) dc))) (aa nH),
  k0 (aa ai) dF .Add (av 1)]),
 bt (cS [(aa iS),(nB (aH .Eq (aa iS) (ak cn [(aa bl)])) (eP rX) (eP p_))])]
theorem mJ(P:Params):bX P 133 [ai,bl] t_ 0:=⟨by kernel_rfl,by kernel_rfl⟩
theorem t':fL .b8 eN 133:=λP=>by kernel_rfl
noncomputable def vU:List XS:=[bo (dZ (aH .Gt (aa cD) (av 0)) [(aH .Eq (ao (aa ai) gc []) (av 0)),(aq (aa ai) d6)]) (xB [bt (cS [(nG []),(eP p_)])]) (xB []),
 ay (bE jJ) (ak gU []),
 xU (dZ (aH .Lt (ak cn [(aa jJ)]) (aa cD)) [(aH .Gt (ao (aa ai) gc []) (av 0))]) (xB [bA (ao (aa jJ) dx [(aI (aq (aa ai) qa) (aL .Mod (aq (aa ai) d5) (aq (aa ai) dc)))]),
  k0 (aa ai) d5 .Add (av 1)]),
 bt (cS [(ak iT [(aa jJ)]),(eP rX)])]
theorem oW(P:Params):bX P 140 [ai,cD] vU 0:=⟨by kernel_rfl,by kernel_rfl⟩
theorem vV:fL .b8 jk 140:=λP=>by kernel_rfl
noncomputable def ua:List XS:=[bo (aH .NotIn (aa iu) (cS [(eP cH),(eP c8)])) (xB [fM]) (xB []),
 bo (aH .Eq (aa iu) (eP cH)) (xB [ay (cQ (aa ai) fP) (cw false)]) (xB [ay (cQ (aa ai) d6) (cw false)]),
 bt (dZ (fT (aq (aa ai) fP)) [(fT (aq (aa ai) d6))])]
theorem ub(P:Params):bX P 147 [ai,iu] ua 0:=⟨by kernel_rfl,by kernel_rfl⟩
theorem uc:fL .b8 dz 147:=λP=>by kernel_rfl
noncomputable def j4:List XS:=[ay (cQ (aa ai) dc) (aa dc),
 ay (cQ (aa ai) qc) (av 0),
 ay (cQ (aa ai) b9) n6]
theorem j5(P:Params):bX P 169 [ai,dc] j4 0:=⟨by kernel_rfl,by kernel_rfl⟩
theorem vW:E1 iU .cm 169:=λP=>by kernel_rfl
noncomputable def n7:List XS:=[ay (bE bC) (ak HU [(aq (aa ai) qc),(aq (aa ai) dc)]),
 ay (pg (aq (aa ai) b9) (aq (aa ai) qc)) (aa bC),
 k0 (aa ai) qc .Add (av 1),
 bt (aa bC)]
theorem n8(P:Params):bX P 176 [ai] n7 0:=⟨by kernel_rfl,by kernel_rfl⟩
theorem n9:fL .cm HV 176:=λP=>by kernel_rfl
noncomputable def mK:List XS:=[bo (dZ (ao (aa bC) dz [(aa iu)]) [(aH .Is (ao (aq (aa ai) b9) kE [(aq (aa bC) hN)]) (aa bC))]) (xB [LM (aq (aa ai) b9) (aq (aa bC) hN)]) (xB [])]
theorem hC(P:Params):bX P 183 [ai,bC,iu] mK 0:=⟨by kernel_rfl,by kernel_rfl⟩
theorem mL:fL .cm dz 183:=λP=>by kernel_rfl
noncomputable def mM:List XS:=[bt (ak cn [(aq (aa ai) b9)])]
theorem mN(P:Params):bX P 190 [ai] mM 0:=⟨by kernel_rfl,by kernel_rfl⟩
theorem mO:fL .cm cD 190:=λP=>by kernel_rfl
noncomputable def vX:List XS:=[bo (Df (aa nI)) (xB [bo (aH .NotEq (eb (bE qd) [qd] (aa nI) [(aH .Gt (ak LA [(aa qd)]) (av 255))] (aa qd)) (cI [])) (xB [gZ]) (xB []),
  bt (ak iT [(eb (bE qd) [qd] (aa nI) [] (ak LA [(aa qd)]))])]) (xB []),
 bo (fT (Dg (aa nI))) (xB [fM]) (xB []),
 bt (ak iT [(aa nI)])]
theorem vY(P:Params):bX P 203 [nI] vX 0:=⟨by kernel_rfl,by kernel_rfl⟩
theorem oX:tZ iV 203:=λP=>by kernel_rfl
noncomputable def n_:List XS:=[ay (cQ (aa ai) bH) (aa bH),
 ay (cQ (aa ai) aZ) (aa aZ),
 ay (cQ (aa ai) eX) (aa eX),
 ay (cQ (aa ai) jK) (aa jK),
 ay (cQ (aa ai) dd) (aa dd),
 ay (cQ (aa ai) dp) (nB (aH .Is (aa dp) bj) n6 (aa dp)),
 ay (cQ (aa ai) ti) (av 0)]
theorem n'(P:Params):bX P 218 [ai,bH,aZ,eX,jK,dd,dp] n_ 4:=⟨by kernel_rfl,by kernel_rfl⟩
theorem Gi:E1 tj .Parts 218:=λP=>by kernel_rfl
noncomputable def iD:List XS:=[ay (cQ (aa ai) bc) (aa bc)]
theorem iE(P:Params):bX P 239 [ai,bc] iD 0:=⟨by kernel_rfl,by kernel_rfl⟩
theorem qS:E1 fX .aM 239:=λP=>by kernel_rfl
noncomputable def i9:List XS:=[ay (bE cN) (ao (aq (aq (aa ai) bc) bH) rY [(aa dS)]),
 bo (aH .Is (aa cN) bj) (xB [gZ]) (xB []),
 bt (aa cN)]
theorem i_(P:Params):bX P 246 [ai,dS] i9 0:=⟨by kernel_rfl,by kernel_rfl⟩
theorem fF:fL .aM ah 246:=λP=>by kernel_rfl
noncomputable def iF:List XS:=[bo (aq (aa ah) kn) (xB [ay (cQ (aa ah) di) (av 0),
  gZ]) (xB []),
 bA (ao (aq (aq (aa ai) bc) bH) lh [(aa ah),(aa bM)]),
 bt bj]
theorem iG(P:Params):bX P 253 [ai,ah,bM] iF 0:=⟨by kernel_rfl,by kernel_rfl⟩
theorem fg:fL .aM nJ 253:=λP=>by kernel_rfl
noncomputable def kG:List XS:=[ay (bE bB) (ao (aq (aq (aa ai) bc) bH) qe [(aa ah),(aq (aq (aa ai) bc) aZ)]),
 bo (aH .IsNot (aq (aa bB) mi) bj) (xB [bA (ao (aq (aq (aa ai) bc) eX) tm [(aq (aa bB) mi)])]) (xB []),
 bt (aq (aa bB) dS)]
theorem kH(P:Params):bX P 274 [ai,ah] kG 0:=⟨by kernel_rfl,by kernel_rfl⟩
theorem kI:fL .aM qe 274:=λP=>by kernel_rfl
noncomputable def jt:List XS:=[bo (aH .IsNot (aq (aa ah) aZ) bj) (xB [g6 (et ([a4,aN].map bE)) (ao (aq (aa ah) aZ) lj []) (xB [bA (ao (aa ai) dz [(aa ah),(aa a4)])])]) (xB []),
 bo (aH .IsNot (aq (aa ah) mi) bj) (xB [ay (et [(bE qf),(cQ (aa ah) mi)]) (cS [(aq (aa ah) mi),bj]),
  fM]) (xB [])]
theorem ju(P:Params):bX P 281 [ai,ah] jt 0:=⟨by kernel_rfl,by kernel_rfl⟩
theorem jv:fL .aM yV 281:=λP=>by kernel_rfl
noncomputable def kJ:List XS:=[bo (aH .Is (aa ah) (aq (aq (aq (aa ai) bc) bH) aC)) (xB [fM]) (xB []),
 bA (ao (aa ai) yV [(aa ah)]),
 ay (cQ (aa ah) di) (av 0),
 bA (ao (aq (aq (aa ai) bc) bH) vc [(aa ah),(aa eG)]),
 bt (av 0)]
theorem kK(P:Params):bX P 288 [ai,ah,eG] kJ 0:=⟨by kernel_rfl,by kernel_rfl⟩
theorem kL:fL .aM vc 288:=λP=>by kernel_rfl
noncomputable def kM:List XS:=[bt (ao (aq (aq (aa ai) bc) bH) jL [(aa ah)])]
theorem gC(P:Params):bX P 295 [ai,ah] kM 0:=⟨by kernel_rfl,by kernel_rfl⟩
theorem eO:fL .aM jL 295:=λP=>by kernel_rfl
noncomputable def kN:List XS:=[bo (aH .Is (ao (aa ai) ah [(aa dS)]) (aq (aq (aq (aa ai) bc) bH) aC)) (xB [gZ]) (xB []),
 bA (ao (aq (aq (aa ai) bc) bH) r1 [(aa dS)]),
 bt (av 0)]
theorem kO(P:Params):bX P 302 [ai,ah,dS] kN 0:=⟨by kernel_rfl,by kernel_rfl⟩
theorem kP:fL .aM r1 302:=λP=>by kernel_rfl
noncomputable def j6:List XS:=[ay (bE aN) (ao (aq (aa ah) aZ) HW [(aa a4)]),
 bA (ao (aa ai) qg [(aa aN)]),
 bt (av 0)]
theorem j7(P:Params):bX P 323 [ai,ah,a4] j6 0:=⟨by kernel_rfl,by kernel_rfl⟩
theorem eD:fL .aM dz 323:=λP=>by kernel_rfl
noncomputable def h8:List XS:=[ay (bE bC) (aq (aa aN) bC),
 bA (ao (aq (aq (aa ai) bc) aZ) dz [(aa aN)]),
 bo (aH .IsNot (aa bC) bj) (xB [bA (ao (aq (aq (aa ai) bc) bH) dG [(ao (aa bC) bM [(eP cH)])]),
  bA (ao (aq (aq (aa ai) bc) bH) dG [(ao (aa bC) bM [(eP c8)])])]) (xB [])]
theorem h9(P:Params):bX P 330 [ai,aN] h8 0:=⟨by kernel_rfl,by kernel_rfl⟩
theorem h_:fL .aM qg 330:=λP=>by kernel_rfl
noncomputable def kQ:List XS:=[bo (aH .Lt (ao (aq (aa ah) aZ) BI []) (av 2)) (xB [fM]) (xB []),
 ay (et ([yW,yX].map bE)) (ao (aq (aq (aa ai) bc) aZ) qh []),
 bt (cS [(ao (aq (aa ah) aZ) IX [(aa yW)]),(ao (aq (aa ah) aZ) IX [(aa yX)])])]
theorem kR(P:Params):bX P 344 [ai,ah] kQ 0:=⟨by kernel_rfl,by kernel_rfl⟩
theorem gD:fL .aM bC 344:=λP=>by kernel_rfl
noncomputable def kS:List XS:=[bo (aH .Lt (aa cD) (av 0)) (xB [gZ]) (xB []),
 ay (bE aN) (ao (aq (aa ah) aZ) kE [(aa a4)]),
 ay (et ([bl,bR].map bE)) (ao (aq (aq (aa ai) bc) aZ) jk [(aa aN),(aa cD)]),
 bo (aH .Eq (aa bR) (eP p_)) (xB [bt (ao (aa ai) nJ [(aa ah),(ao (aq (aq (aa ai) bc) aZ) eY [(aa aN),(cw false)])])]) (xB []),
 bo (aH .IsNot (aq (aa aN) bC) bj) (xB [bA (ao (aq (aq (aa ai) bc) bH) dG [(ao (aq (aa aN) bC) bM [(eP c8)])])]) (xB []),
 bt (aa bl)]
theorem gE(P:Params):bX P 358 [ai,ah,a4,cD] kS 0:=⟨by kernel_rfl,by kernel_rfl⟩
theorem kT:fL .aM jk 358:=λP=>by kernel_rfl
noncomputable def j8:List XS:=[ay (bE bl) (ak iV [(aa bl)]),
 ay (bE aN) (ao (aq (aa ah) aZ) kE [(aa a4)]),
 ay (bE iv) (aq (aa ah) di),
 ay (et ([cD,bR].map bE)) (ao (aq (aq (aa ai) bc) aZ) eN [(aa aN),(qr (aa bl) (aa iv))]),
 bo (aH .IsNot (aq (aa aN) bC) bj) (xB [bA (ao (aq (aq (aa ai) bc) bH) dG [(ao (aq (aa aN) bC) bM [(eP cH)])])]) (xB []),
 bo (aH .Eq (aa bR) (eP p_)) (xB [ay (cQ (aa ah) di) (aL .Add (aa iv) (aa cD)),
  bt (ao (aa ai) nJ [(aa ah),(ao (aq (aq (aa ai) bc) aZ) eY [(aa aN),(cw true)])])]) (xB []),
 ay (cQ (aa ah) di) (av 0),
 bo (nA (aH .Eq (aa bR) (eP th)) [(aH .Lt (aL .Add (aa iv) (aa cD)) (ak cn [(aa bl)]))]) (xB [gZ]) (xB []),
 bt (ak cn [(aa bl)])]
theorem eE(P:Params):bX P 365 [ai,ah,a4,bl] j8 0:=⟨by kernel_rfl,by kernel_rfl⟩
theorem dI:fL .aM eN 365:=λP=>by kernel_rfl
noncomputable def kU:List XS:=[ay (cQ (aa ai) cR) (aa cR),
 ay (cQ (aa ai) cG) (aa cG),
 ay (cQ (aa ai) ee) (aa ee),
 ay (cQ (aa ai) dq) (av 1),
 ay (cQ (aa ai) dO) (av 0),
 ay (cQ (aa ai) bC) bj,
 ay (cQ (aa ai) qf) bj,
 ay (cQ (aa ai) qi) (av 0)]
theorem kV(P:Params):bX P 386 [ai,cR,cG,ee] kU 0:=⟨by kernel_rfl,by kernel_rfl⟩
theorem ye:E1 nK .aK 386:=λP=>by kernel_rfl
noncomputable def pq:List XS:=[bt (nB (aq (aa ai) ee) (eP c8) (eP cH))]
theorem pv(P:Params):bX P 393 [ai] pq 0:=⟨by kernel_rfl,by kernel_rfl⟩
theorem px:fL .aK iu 393:=λP=>by kernel_rfl
noncomputable def j9:List XS:=[bo (nA (aH .Lt (aa ea) (av 1)) [(aH .Lt (aa lp) (av 1))]) (xB [fM]) (xB []),
 ay (cQ (aa ai) ea) (aa ea),
 ay (cQ (aa ai) b9) (aa b9),
 ay (cQ (aa ai) eX) (aa eX),
 ay (cQ (aa ai) dd) (aa dd),
 ay (cQ (aa ai) dp) (aa dp),
 ay (cQ (aa ai) lp) (aa lp),
 ay (cQ (aa ai) fv) (cI [])]
theorem j_(P:Params):bX P 421 [ai,ea,b9,eX,dd,dp,lp] j9 0:=⟨by kernel_rfl,by kernel_rfl⟩
theorem vZ:E1 iW .bI 421:=λP=>by kernel_rfl
noncomputable def mP:List XS:=[bt (ak cn [(aq (aa ai) fv)])]
theorem mQ(P:Params):bX P 428 [ai] mP 0:=⟨by kernel_rfl,by kernel_rfl⟩
theorem mR:fL .bI cD 428:=λP=>by kernel_rfl
noncomputable def jw:List XS:=[bo (aH .Gt (aL .Add (ak cn [(aq (aa ai) fv)]) (aa bJ)) (aq (aa ai) ea)) (xB [fM]) (xB [])]
theorem jx(P:Params):bX P 435 [ai,bJ] jw 0:=⟨by kernel_rfl,by kernel_rfl⟩
theorem fN:fL .bI iX 435:=λP=>by kernel_rfl
noncomputable def mS:List XS:=[bA (ao (aa ai) iX [(av 1)]),
 bA (ao (aq (aa ai) fv) dx [(aa aN)]),
 bt (aa aN)]
theorem mT(P:Params):bX P 442 [ai,aN] mS 0:=⟨by kernel_rfl,by kernel_rfl⟩
theorem mU:fL .bI xv 442:=λP=>by kernel_rfl
noncomputable def jy:List XS:=[bA (ao (aa ai) iX [(av 2)]),
 ay (bE bC) (ao (aq (aa ai) b9) HV []),
 ay (bE rZ) (cI []),
 g6 (bE cG) (cS [(cw true),(cw false)]) (xB [ay (bE aN) (ak nK [(eP kZ),(aa cG),(fT (aa cG))]),
  ay (cQ (aa aN) bC) (aa bC),
  bA (ao (aa rZ) dx [(ao (aa ai) xv [(aa aN)])])]),
 bt (cS [(aI (aa rZ) (av 0)),(aI (aa rZ) (av 1))])]
theorem jz(P:Params):bX P 449 [ai] jy 0:=⟨by kernel_rfl,by kernel_rfl⟩
theorem jA:fL .bI qh 449:=λP=>by kernel_rfl
noncomputable def mV:List XS:=[bo (aH .Lt (aq (aa aN) dq) (av 1)) (xB [fM]) (xB []),
 k0 (aa aN) dq .Add (av 1),
 bt (aa aN)]
theorem mW(P:Params):bX P 470 [ai,aN] mV 0:=⟨by kernel_rfl,by kernel_rfl⟩
theorem mX:fL .bI tm 470:=λP=>by kernel_rfl
noncomputable def mY:List XS:=[bo (aH .Lt (aq (aa aN) dq) (av 1)) (xB [fM]) (xB []),
 bo (dZ (aH .Eq (aq (aa aN) dq) (av 1)) [(aH .NotEq (aq (aa aN) cR) (eP kZ))]) (xB [bA (ao (aq (aa ai) dd) BH [])]) (xB []),
 k0 (aa aN) dq .Sub (av 1),
 bo (aH .Gt (aq (aa aN) dq) (av 0)) (xB [Cg]) (xB []),
 ay (cQ (aa ai) fv) (eb (bE c9) [c9] (aq (aa ai) fv) [(aH .IsNot (aa c9) (aa aN))] (aa c9)),
 bo (aH .Eq (aq (aa aN) cR) (eP kZ)) (xB [bA (ao (aq (aa ai) b9) dz [(aq (aa aN) bC),(ao (aa aN) iu [])]),
  Cg]) (xB []),
 fM]
theorem hE(P:Params):bX P 475 [ai,aN] mY 0:=⟨by kernel_rfl,by kernel_rfl⟩
theorem mZ:fL .bI dz 475:=λP=>by kernel_rfl
noncomputable def oa:List XS:=[bo (fT (aq (aa aN) cG)) (xB [gZ]) (xB []),
 bo (aH .Eq (aq (aa aN) cR) (eP kZ)) (xB [bt (ao (aq (aa aN) bC) jk [(aa cD)])]) (xB []),
 bo (aH .Eq (aq (aa aN) cR) (eP yY)) (xB [bt (ao (ao (aa ai) tn [(aa aN)]) jk [(aa cD)])]) (xB []),
 ay (bE bl) (ao (aq (aa aN) qf) jk [(aq (aa aN) dO),(aa cD)]),
 k0 (aa aN) dO .Add (ak cn [(aa bl)]),
 bt (cS [(aa bl),(eP rX)])]
theorem od(P:Params):bX P 489 [ai,aN,cD] oa 0:=⟨by kernel_rfl,by kernel_rfl⟩
theorem iH:fL .bI jk 489:=λP=>by kernel_rfl
noncomputable def m1:List XS:=[bo (fT (aq (aa aN) ee)) (xB [gZ]) (xB []),
 bo (aH .Eq (aq (aa aN) cR) (eP kZ)) (xB [bt (ao (aq (aa aN) bC) eN [(aa bl)])]) (xB []),
 bo (aH .Eq (aq (aa aN) cR) (eP yY)) (xB [bt (cS [(ao (ao (aa ai) tn [(aa aN)]) eN [(aa bl)]),(eP rX)])]) (xB []),
 ay (bE iv) (av 0),
 xU (aH .Lt (aa iv) (ak cn [(aa bl)])) (xB [fM,
  ay (bE cD) (ao (aa ai) tq [(aa aN),(aa HX)]),
  y_ iv .Add (aa cD),
  bo (aH .Lt (aa cD) (ak cn [(aa HX)])) (xB [Fz]) (xB [])]),
 bt (cS [(aa iv),(eP rX)])]
theorem m2(P:Params):bX P 503 [ai,aN,bl] m1 0:=⟨by kernel_rfl,by kernel_rfl⟩
theorem hG:fL .bI eN 503:=λP=>by kernel_rfl
noncomputable def jB:List XS:=[bo (aH .Eq (aq (aa aN) cR) (eP kZ)) (xB [bt (ao (aq (aa aN) bC) bM [(nB (aa ko) (eP c8) (eP cH))])]) (xB []),
 bt (ao (ao (aa ai) tn [(aa aN)]) bM [])]
theorem jC(P:Params):bX P 524 [ai,aN,ko] jB 0:=⟨by kernel_rfl,by kernel_rfl⟩
theorem jD:fL .bI eY 524:=λP=>by kernel_rfl
noncomputable def ja:List XS:=[bo (aH .Lt (aa ea) (av 1)) (xB [fM]) (xB []),
 ay (cQ (aa ai) ea) (aa ea),
 ay (cQ (aa ai) ei) (aL .Mult (cI [bj]) (aa ea))]
theorem jb(P:Params):bX P 546 [ai,ea] ja 0:=⟨by kernel_rfl,by kernel_rfl⟩
theorem k3:E1 fw .Descriptors 546:=λP=>by kernel_rfl
noncomputable def m3:List XS:=[g6 (bE a4) (ak eZ [(aq (aa ai) ea)]) (xB [bo (aH .Is (aI (aq (aa ai) ei) (aa a4)) bj) (xB [ay (pg (aq (aa ai) ei) (aa a4)) (aa aN),
  bt (aa a4)]) (xB [])]),
 fM]
theorem m4(P:Params):bX P 553 [ai,aN] m3 0:=⟨by kernel_rfl,by kernel_rfl⟩
theorem hH:fL .Descriptors IX 553:=λP=>by kernel_rfl
noncomputable def lD:List XS:=[bt (ak cn [(eb (bE aN) [aN] (aq (aa ai) ei) [(aH .Is (aa aN) bj)] (aa aN))])]
theorem lE(P:Params):bX P 558 [ai] lD 0:=⟨by kernel_rfl,by kernel_rfl⟩
theorem lF:fL .Descriptors BI 558:=λP=>by kernel_rfl
noncomputable def m5:List XS:=[bo (nA (fT (H4 .LtE .Lt (av 0) (aa a4) (aq (aa ai) ea))) [(aH .Is (aI (aq (aa ai) ei) (aa a4)) bj)]) (xB [gZ]) (xB []),
 bt (aI (aq (aa ai) ei) (aa a4))]
theorem m6(P:Params):bX P 565 [ai,a4] m5 0:=⟨by kernel_rfl,by kernel_rfl⟩
theorem fG:fL .Descriptors kE 565:=λP=>by kernel_rfl
noncomputable def lG:List XS:=[ay (bE aN) (ao (aa ai) kE [(aa a4)]),
 ay (pg (aq (aa ai) ei) (aa a4)) bj,
 bt (aa aN)]
theorem lH(P:Params):bX P 572 [ai,a4] lG 0:=⟨by kernel_rfl,by kernel_rfl⟩
theorem lI:fL .Descriptors HW 572:=λP=>by kernel_rfl
noncomputable def iI:List XS:=[bt (eb (et ([a4,aN].map bE)) [a4,aN] (ak lq [(aq (aa ai) ei)]) [(aH .IsNot (aa aN) bj)] (cS [(aa a4),(aa aN)]))]
theorem iJ(P:Params):bX P 577 [ai] iI 0:=⟨by kernel_rfl,by kernel_rfl⟩
theorem fh:fL .Descriptors lj 577:=λP=>by kernel_rfl
noncomputable def lJ:List XS:=[ay (bE cN) (ak fw [(aq (aa ai) ea)]),
 g6 (et ([a4,aN].map bE)) (ao (aa ai) lj []) (xB [ay (pg (aq (aa cN) ei) (aa a4)) (ao (aa bH) tm [(aa aN)])]),
 bt (aa cN)]
theorem lK(P:Params):bX P 584 [ai,bH] lJ 0:=⟨by kernel_rfl,by kernel_rfl⟩
theorem lL:fL .Descriptors oJ 584:=λP=>by kernel_rfl
noncomputable def lM:List XS:=[ay (cQ (aa ai) dO) (aa dO),
 bA (ao (aa ai) tu [])]
theorem lN(P:Params):bX P 612 [ai,dO] lM 0:=⟨by kernel_rfl,by kernel_rfl⟩
theorem AO:E1 mj .Process 612:=λP=>by kernel_rfl
noncomputable def jn:List XS:=[ay (cQ (aa ai) dS) (av 0),
 ay (cQ (aa ai) bR) (eP kp),
 ay (cQ (aa ai) bq) bj,
 ay (cQ (aa ai) fx) bj,
 ay (cQ (aa ai) cJ) (aL .Mult (cI [(av 0)]) (av 32)),
 ay (cQ (aa ai) Fc) (av 0),
 ay (cQ (aa ai) aZ) bj,
 ay (cQ (aa ai) mi) bj,
 ay (cQ (aa ai) ml) (a5 fR),
 ay (cQ (aa ai) bM) bj,
 ay (cQ (aa ai) kn) (cw false),
 ay (cQ (aa ai) eG) (av 0),
 ay (cQ (aa ai) kin_call) bj,
 ay (cQ (aa ai) di) (av 0),
 ay (cQ (aa ai) bY) bj,
 ay (cQ (aa ai) xw) bj,
 ay (cQ (aa ai) IZ) bj,
 ay (cQ (aa ai) nM) (av 0)]
theorem jo(P:Params):bX P 619 [ai] jn 0:=⟨by kernel_rfl,by kernel_rfl⟩
theorem gx:fL .Process tu 619:=λP=>by kernel_rfl
noncomputable def lO:List XS:=[bt (aH .NotEq (aq (aa ai) bR) (eP kp))]
theorem lP(P:Params):bX P 626 [ai] lO 0:=⟨by kernel_rfl,by kernel_rfl⟩
theorem e_:fL .Process bP 626:=λP=>by kernel_rfl
noncomputable def oe:List XS:=[ay (cQ (aa ai) dH) (eb (bE dO) [dO] (ak eZ [(aa ea)]) [] (ak mj [(aa dO)])),
 ay (cQ (aa ai) iw) (av 1),
 ay (cQ (aa ai) BL) (aL .Sub (aa ea) (av 1)),
 ay (cQ (aa ai) aC) bj,
 ay (cQ (aa ai) cC) bj]
theorem oh(P:Params):bX P 667 [ai,ea] oe 0:=⟨by kernel_rfl,by kernel_rfl⟩
theorem Gj:E1 tw .Table 667:=λP=>by kernel_rfl
noncomputable def lQ:List XS:=[g6 (bE ah) (aq (aa ai) dH) (xB [bo (aH .Eq (aq (aa ah) bR) (eP kp)) (xB [bt (aa ah)]) (xB [])]),
 fM]
theorem lR(P:Params):bX P 674 [ai] lQ 0:=⟨by kernel_rfl,by kernel_rfl⟩
theorem lS:fL .Table oK 674:=λP=>by kernel_rfl
noncomputable def v5:List XS:=[ay (bE ah) (ao (aa ai) oK []),
 bA (ao (aa ah) tu []),
 ay (cQ (aa ah) dS) (aq (aa ai) iw),
 k0 (aa ai) iw .Add (av 1),
 ay (cQ (aa ah) bR) (eP BJ),
 ay (cQ (aa ah) ml) (aa ml),
 bo (aH .Is (aq (aa ai) aC) bj) (xB [ay (cQ (aa ai) aC) (aa ah)]) (xB []),
 bt (aa ah)]
theorem v7(P:Params):bX P 682 [ai,ml] v5 0:=⟨by kernel_rfl,by kernel_rfl⟩
theorem oY:fL .Table BM 682:=λP=>by kernel_rfl
noncomputable def ud:List XS:=[g6 (bE ah) (aq (aa ai) dH) (xB [bo (dZ (ao (aa ah) bP []) [(aH .Eq (aq (aa ah) dS) (aa dS))]) (xB [bt (aa ah)]) (xB [])]),
 bt bj]
theorem ue(P:Params):bX P 689 [ai,dS] ud 0:=⟨by kernel_rfl,by kernel_rfl⟩
theorem m8:fL .Table rY 689:=λP=>by kernel_rfl
noncomputable def v8:List XS:=[bt (eb (bE ah) [ah] (aq (aa ai) dH) [(ao (aa ah) bP [])] (aa ah))]
theorem v9(P:Params):bX P 694 [ai] v8 0:=⟨by kernel_rfl,by kernel_rfl⟩
theorem v_:fL .Table IY 694:=λP=>by kernel_rfl
noncomputable def oi:List XS:=[bt (eb (bE c9) [c9] (aq (aa ai) dH) [(dZ (ao (aa c9) bP []) [(aH .Is (aq (aa c9) bq) (aa ah))])] (aa c9))]
theorem oj(P:Params):bX P 699 [ai,ah] oi 0:=⟨by kernel_rfl,by kernel_rfl⟩
theorem iK:fL .Table dX 699:=λP=>by kernel_rfl
noncomputable def rG:List XS:=[ay (cQ (aa ah) bR) (eP BK),
 ay (cQ (aa ah) bM) bj,
 bo (aH .Is (aq (aa ai) cC) (aa ah)) (xB [ay (cQ (aa ai) cC) bj]) (xB [])]
theorem rH(P:Params):bX P 706 [ai,ah] rG 0:=⟨by kernel_rfl,by kernel_rfl⟩
theorem fZ:fL .Table aT 706:=λP=>by kernel_rfl
noncomputable def uf:List XS:=[ay (bE bB) (ao (aa ai) BM [(aq (aa bq) ml)]),
 JE (xB [ay (cQ (aa bB) fx) (nB (aH .Is (aq (aa bq) fx) bj) bj (ao (aq (aa bq) fx) oJ []))]),
 ay (cQ (aa bB) cJ) (ak r3 [(aq (aa bq) cJ)]),
 ay (pg (aq (aa bB) cJ) (eP LB)) (av 0),
 ay (cQ (aa bB) Fc) (aq (aa bq) Fc),
 ay (cQ (aa bB) bq) (aa bq),
 ay (cQ (aa bB) aZ) (nB (aH .Is (aq (aa bq) aZ) bj) bj (ao (aq (aa bq) aZ) oJ [(aa aZ)])),
 ay (cQ (aa bB) mi) (aq (aa bq) mi),
 bA (ao (aa ai) aT [(aa bB)]),
 bt (aa bB)]
theorem ug(P:Params):bX P 728 [ai,bq,aZ] uf 0:=⟨by kernel_rfl,by kernel_rfl⟩
theorem uh:fL .Table qe 728:=λP=>by kernel_rfl
noncomputable def om:List XS:=[g6 (bE bB) (ao (aa ai) dX [(aa ah)]) (xB [ay (cQ (aa bB) bq) (aq (aa ai) aC),
  bo (aH .Eq (aq (aa bB) bR) (eP g_)) (xB [bA (ao (aa ai) dG [(ao (aa ai) d7 [(aq (aa ai) aC)])])]) (xB [])])]
theorem oo(P:Params):bX P 735 [ai,ah] om 0:=⟨by kernel_rfl,by kernel_rfl⟩
theorem oq:fL .Table nN 735:=λP=>by kernel_rfl
noncomputable def lT:List XS:=[bt (cS [(a5 bB),(aq (aa ah) dS)])]
theorem lU(P:Params):bX P 742 [ai,ah] lT 0:=⟨by kernel_rfl,by kernel_rfl⟩
theorem g0:fL .Table d7 742:=λP=>by kernel_rfl
noncomputable def ui:List XS:=[bo (aH .Is (aa ah) (aq (aa ai) aC)) (xB [fM]) (xB []),
 bA (ao (aa ai) nN [(aa ah)]),
 ay (cQ (aa ah) bR) (eP g_),
 ay (cQ (aa ah) bM) bj,
 ay (cQ (aa ah) eG) (aa eG),
 bo (aH .Is (aq (aa ai) cC) (aa ah)) (xB [ay (cQ (aa ai) cC) bj]) (xB []),
 bo (aH .IsNot (aq (aa ah) bq) bj) (xB [bA (ao (aa ai) dG [(ao (aa ai) d7 [(aq (aa ah) bq)])])]) (xB [])]
theorem uj(P:Params):bX P 749 [ai,ah,eG] ui 0:=⟨by kernel_rfl,by kernel_rfl⟩
theorem uk:fL .Table vc 749:=λP=>by kernel_rfl
noncomputable def um:List XS:=[ay (bE bY) (cS [(aq (aa ah) dS),(aq (aa ah) eG)]),
 bo (aH .IsNot (aq (aa ah) fx) bj) (xB [bA (ao (aq (aa ah) fx) BI [])]) (xB []),
 bA (ao (aa ah) tu []),
 bt (aa bY)]
theorem uo(P:Params):bX P 756 [ai,ah] um 0:=⟨by kernel_rfl,by kernel_rfl⟩
theorem uq:fL .Table vd 756:=λP=>by kernel_rfl
noncomputable def ur:List XS:=[ay (bE dX) (ao (aa ai) dX [(aa ah)]),
 g6 (bE bB) (aa dX) (xB [bo (aH .Eq (aq (aa bB) bR) (eP g_)) (xB [bt (ao (aa ai) vd [(aa bB)])]) (xB [])]),
 bo (nA (aH .Eq (aa dX) (cI [])) [(aq (aa ah) kn)]) (xB [gZ]) (xB []),
 bA (ao (aa ai) lh [(aa ah),(ao (aa ai) d7 [(aa ah)])]),
 bt bj]
theorem jc(P:Params):bX P 763 [ai,ah] ur 0:=⟨by kernel_rfl,by kernel_rfl⟩
theorem m9:fL .Table jL 763:=λP=>by kernel_rfl
noncomputable def rI:List XS:=[ay (cQ (aa ah) bR) (eP fQ),
 ay (cQ (aa ah) bM) (aa bM),
 bo (aH .Is (aq (aa ai) cC) (aa ah)) (xB [ay (cQ (aa ai) cC) bj]) (xB [])]
theorem rJ(P:Params):bX P 770 [ai,ah,bM] rI 0:=⟨by kernel_rfl,by kernel_rfl⟩
theorem k5:fL .Table lh 770:=λP=>by kernel_rfl
noncomputable def qT:List XS:=[ay (bE bJ) (av 0),
 g6 (bE ah) (aq (aa ai) dH) (xB [bo (dZ (aH .Eq (aq (aa ah) bR) (eP fQ)) [(aH .Eq (aq (aa ah) bM) (aa bM))]) (xB [bA (ao (aa ai) aT [(aa ah)]),
  y_ bJ .Add (av 1)]) (xB [])]),
 bt (aa bJ)]
theorem qU(P:Params):bX P 777 [ai,bM] qT 0:=⟨by kernel_rfl,by kernel_rfl⟩
theorem fH:fL .Table dG 777:=λP=>by kernel_rfl
noncomputable def uu:List XS:=[ay (bE ah) (ao (aa ai) rY [(aa dS)]),
 bo (aH .Is (aa ah) bj) (xB [fM]) (xB []),
 ay (cQ (aa ah) kn) (cw true),
 bo (aH .Eq (aq (aa ah) bR) (eP fQ)) (xB [bA (ao (aa ai) aT [(aa ah)])]) (xB [])]
theorem uv(P:Params):bX P 784 [ai,dS] uu 0:=⟨by kernel_rfl,by kernel_rfl⟩
theorem uw:fL .Table r1 784:=λP=>by kernel_rfl
noncomputable def yf:List XS:=[ay (et ([hO,mm].map bE)) (cS [(av 0),(av 83)]),
 g6 (bE fy) (Jb (aa dh) (av 63)) (xB [ay (bE mm) (aL .Mod (aL .Add (aL .Add (aL .Mult (aa mm) (av 69069)) (aL .Mult (aa fy) (av 40503))) (av 5)) (av 2147483629)),
  bo (dZ (aH .Eq (aa hO) (av 0)) [(aH .GtE (ak ve [(aa fy)]) (aL .Pow (av 10) (av 18)))]) (xB [ay (bE hO) (ak ve [(aa fy)])]) (xB [])]),
 bt (cI [(aa hO),(aa mm)])]
theorem yg(P:Params):bX P 803 [dh] yf 0:=⟨by kernel_rfl,by kernel_rfl⟩
theorem yh:tZ nO 803:=λP=>by kernel_rfl
noncomputable def wa:List XS:=[bo (aH .Gt (aI (aa bW) (av 0)) (av 0)) (xB [ay (bE BN) (aL .Mod (aI (aa bW) (av 0)) (aa bJ)),
  ay (pg (aa bW) (av 0)) (aL .FloorDiv (aI (aa bW) (av 0)) (aa bJ)),
  bt (aa BN)]) (xB []),
 ay (pg (aa bW) (av 1)) (aL .Mod (aL .Add (aL .Mult (aI (aa bW) (av 1)) (av 48271)) (av 11)) (av 2147483647)),
 bt (aL .Mod (aL .FloorDiv (aI (aa bW) (av 1)) (av 128)) (aa bJ))]
theorem oZ(P:Params):bX P 810 [bW,bJ] wa 0:=⟨by kernel_rfl,by kernel_rfl⟩
theorem dJ:tZ a6 810:=λP=>by kernel_rfl
noncomputable def we:List XS:=[se [cR,gf,cN] [(ak a6 [(aa bW),(av 6)]),(aL .Sub (aL .Add (aL .Mult (aa bJ) (aa b7)) (aa bJ)) (av 1)),(cI [])],
 g6 (bE Nm.kk) (ak eZ [(aa bJ)]) (xB [bo (aH .Lt (aa cR) (av 3)) (xB [bA (ao (aa cN) dx [(cS [(aL .Mult (aa b7) (ak qb [(av 1),(aa cR)])),(ak vf [(nA (aH .Eq (aa cR) (av 2)) [(dZ (aH .Eq (aa cR) (av 1)) [(aH .Lt (aa Nm.kk) (aL .Sub (aa bJ) (av 1)))])])])])]),
  Ci]) (xB []),
  ay (bE cA) (ak qb [(aa gf),(ak a6 [(aa bW),(aL .Add (aa b7) (av 1))])]),
  ay (bE de) (ak qb [(aL .Sub (aa gf) (aa cA)),(nB (dZ (aH .Eq (aa cR) (av 3)) [(aH .Eq (aa Nm.kk) (av 0))]) (aL .Add (aL .Add (aa b7) (av 1)) (ak a6 [(aa bW),(av 2)])) (ak a6 [(aa bW),(aL .Add (aa b7) (av 2))]))]),
  ay (bE gf) (aL .Sub (aL .Sub (aa gf) (aa cA)) (aa de)),
  bA (ao (aa cN) dx [(cS [(aa cA),(aa de)])])]),
 bo (dZ (aH .Gt (aa cR) (av 2)) [(aH .Eq (aa gf) (aL .Sub (aL .Add (aL .Mult (aa bJ) (aa b7)) (aa bJ)) (av 1)))]) (xB [ay (pg (aa cN) (av 0)) (cS [(av 0),(av 1)])]) (xB []),
 bt (aa cN)]
theorem j'(P:Params):bX P 817 [bW,bJ,b7] we 0:=⟨by kernel_rfl,by kernel_rfl⟩
theorem wg:tZ lr 817:=λP=>by kernel_rfl
noncomputable def ux:List XS:=[ay (et ([cN,cO].map bE)) (cS [(cI []),(av 1)]),
 g6 (et ([cA,de].map bE)) (aa BO) (xB [ay (bE bl) (ak iT [(eb (bE Nm.kk) [Nm.kk] (ak eZ [(aL .Add (aa cA) (aa de))]) [] (aL .Add (aa cO) (aa Nm.kk)))]),
  bA (ao (aa cN) dx [(cS [(Jb (aa bl) (aa cA)),(qr (aa bl) (aa cA))])]),
  ay (bE cO) (aL .Add (aL .Add (aa cO) (aa cA)) (aa de))]),
 bt (aa cN)]
theorem uy(P:Params):bX P 822 [BO] ux 0:=⟨by kernel_rfl,by kernel_rfl⟩
theorem uz:tZ jM 822:=λP=>by kernel_rfl
noncomputable def wh:List XS:=[ay (bE d2) (nG []),
 g6 (bE g') (ak eZ [(av 1),(aL .Add (ak cn [(aa cc)]) (av 1))]) (xB [ay (bE d2) (aL .Add (aL .Add (aa d2) (aI (aI (aa cc) (aL .Mod (aL .Sub (aa cP) (aa g')) (ak cn [(aa cc)]))) (av 0))) (aI (aI (aa cc) (aL .Mod (aL .Sub (aa cP) (aa g')) (ak cn [(aa cc)]))) (av 1)))]),
 bt (aa d2)]
theorem wj(P:Params):bX P 829 [cc,cP] wh 0:=⟨by kernel_rfl,by kernel_rfl⟩
theorem wm:tZ iY 829:=λP=>by kernel_rfl
noncomputable def rK:List XS:=[ay (bE ah) (ao (aa aS) ah [(ao (aa aS) qe [(aa aC)])]),
 g6 (bE a4) (aa hh) (xB [bA (ao (aa aS) dz [(aa ah),(aa a4)])]),
 bt (k2 [ah,dS,Nm.jH,fk,bP,dW,mn] [(aa ah),(aq (aa ah) dS),(aa dP),(aa fk),(cw true),(av 0),(av 0)])]
theorem rL(P:Params):bX P 836 [aS,aC,dP,fk,hh] rK 0:=⟨by kernel_rfl,by kernel_rfl⟩
theorem k7:tZ fz 836:=λP=>by kernel_rfl
noncomputable def wq:List XS:=[ay (et ([dP,jN].map bE)) (ao (aa aS) bC [(aa aC)]),
 bA (ao (aa aS) eN [(aa aC),(aa jN),(aI (aI (aa cc) (av 0)) (av 0))]),
 ay (bE a_) (cI []),
 g6 (bE cP) (ak eZ [(av 1),(ak cn [(aa cc)])]) (xB [ay (et ([cO,fk].map bE)) (ao (aa aS) bC [(aa aC)]),
  bA (ao (aa aS) eN [(aa aC),(aa fk),(aI (aI (aa cc) (aa cP)) (av 0))]),
  bA (ao (aa a_) dx [(ak fz [(aa aS),(aa aC),(aa dP),(aa fk),(cI [(aa jN),(aa cO)])])]),
  bA (ao (aa aS) dz [(aa aC),(aa dP)]),
  bA (ao (aa aS) dz [(aa aC),(aa fk)]),
  ay (bE dP) (aa cO)]),
 bA (ao (aa a_) pH [(av 0),(ak fz [(aa aS),(aa aC),(aa dP),(aa jN),(cI [])])]),
 bA (ao (aa aS) dz [(aa aC),(aa dP)]),
 bA (ao (aa aS) dz [(aa aC),(aa jN)]),
 g6 (bE cP) (ak eZ [(ak cn [(aa cc)])]) (xB [bA (ao (aI (aa a_) (aa cP)) pI [(k2 [el,d2,dc] [(aI (aI (aa cc) (aa cP)) (av 1)),(ak iY [(aa cc),(aa cP)]),(aL .Add (av 1) (ak a6 [(aa bW),(aL .Add (aa b7) (av 1))]))])]),
  ay (pg (aI (aa a_) (aa cP)) (a5 jO)) (aL .Add (ak cn [(aI (aI (aa cc) (aa cP)) (av 0))]) (ak cn [(aI (aI (aa cc) (aa cP)) (av 1))]))]),
 bt (aa a_)]
theorem wt(P:Params):bX P 843 [bW,aS,aC,cc,b7] wq 0:=⟨by kernel_rfl,by kernel_rfl⟩
theorem wu:tZ lu 843:=λP=>by kernel_rfl
noncomputable def wx:List XS:=[ay (bE b6) (aI (aI (aa aB) (a5 a_)) (aa cP)),
 ay (et [(pg (aa b6) (a5 bP)),(pg (aa b6) (a5 mn))]) (cS [(cw false),(aL .Sub (ak cn [(aI (aa b6) (a5 el))]) (aq (aI (aa b6) (a5 ah)) di))]),
 bt (aH .Eq (ao (aI (aa aB) (a5 aS)) vc [(aI (aa b6) (a5 ah)),(aI (aa b6) (a5 dW))]) (av 0))]
theorem wy(P:Params):bX P 857 [aB,cP] wx 0:=⟨by kernel_rfl,by kernel_rfl⟩
theorem ka:tZ iZ 857:=λP=>by kernel_rfl
noncomputable def rM:List XS:=[ay (et ([b6,qj].map bE)) (cS [(aI (aI (aa aB) (a5 a_)) (aa cP)),(aI (aI (aa aB) (a5 a_)) (aL .Mod (aL .Add (aa cP) (av 1)) (ak cn [(aI (aa aB) (a5 a_))])))]),
 ay (bE bY) (mH [b6,aB] (ao (aI (aa aB) (a5 aS)) eN [(aI (aa b6) (a5 ah)),(aI (aa b6) (a5 fk)),(aI (aa b6) (a5 el))])),
 bo (aH .Eq (aI (aa bY) (av 0)) (a5 dY)) (xB [bt (dZ (fT (aI (aa qj) (a5 bP))) [(ak iZ [(aa aB),(aa cP)])])]) (xB []),
 bo (aH .IsNot (aI (aa bY) (av 1)) bj) (xB [bo (aH .NotEq (aI (aa bY) (av 1)) (ak cn [(aI (aa b6) (a5 el))])) (xB [bt (cw false)]) (xB []),
  ay (pg (aa b6) (a5 el)) (nG [])]) (xB []),
 bt (cw true)]
theorem ia(P:Params):bX P 864 [aB,cP] rM 0:=⟨by kernel_rfl,by kernel_rfl⟩
theorem rN:tZ mq 864:=λP=>by kernel_rfl
noncomputable def uA:List XS:=[ay (et ([b6,hj].map bE)) (cS [(aI (aI (aa aB) (a5 a_)) (aa cP)),(aI (aI (aa aB) (a5 a_)) (aL .Mod (aL .Sub (aa cP) (av 1)) (ak cn [(aI (aa aB) (a5 a_))])))]),
 ay (et ([bY,d2].map bE)) (cS [(mH [b6,aB] (ao (aI (aa aB) (a5 aS)) jk [(aI (aa b6) (a5 ah)),(aI (aa b6) (a5 Nm.jH)),(aI (aa b6) (a5 dc))])),(aI (aa b6) (a5 d2))]),
 bo (aH .Eq (aa bY) (cS [(a5 bY),bj])) (xB [bt (cw true)]) (xB []),
 bo (aH .Eq (aa bY) (cS [(a5 bY),(nG [])])) (xB [ay (bE HY) (aL .Sub (aL .Add (aI (aa hj) (a5 jO)) (aI (aa hj) (a5 dW))) (aI (aa hj) (a5 mn))),
  bt (dZ (fT (aI (aa hj) (a5 bP))) [(aH .Eq (aI (aa b6) (a5 dW)) (aa HY)),(ak iZ [(aa aB),(aa cP)])])]) (xB []),
 bo (nA (aH .Eq (aI (aa bY) (av 0)) (a5 dY)) [(aH .Gt (ak cn [(aI (aa bY) (av 1))]) (aI (aa b6) (a5 dc))),(aH .Eq (aa d2) (nG []))]) (xB [bt (cw false)]) (xB []),
 C8 LC (bE Nm.kk) [Nm.kk] (ak eZ [(ak cn [(aI (aa bY) (av 1))])]) [] (aI (aa d2) (aL .Mod (aL .Add (aI (aa b6) (a5 dW)) (aa Nm.kk)) (ak cn [(aa d2)]))),
 ay (et [(pg (aa b6) (a5 el)),(pg (aa b6) (a5 dW))]) (cS [(aI (aa bY) (av 1)),(aL .Add (aI (aa b6) (a5 dW)) (ak cn [(aI (aa bY) (av 1))]))]),
 bt (aH .Eq (ak r3 [(aI (aa bY) (av 1))]) (aa LC))]
theorem jd(P:Params):bX P 869 [aB,cP] uA 0:=⟨by kernel_rfl,by kernel_rfl⟩
theorem uB:tZ oM 869:=λP=>by kernel_rfl
noncomputable def m_:List XS:=[bt (nB (aH .NotEq (aI (aI (aI (aa aB) (a5 a_)) (aa cP)) (a5 el)) (nG [])) (ak mq [(aa aB),(aa cP)]) (ak oM [(aa aB),(aa cP)]))]
theorem hI(P:Params):bX P 876 [aB,cP] m_ 0:=⟨by kernel_rfl,by kernel_rfl⟩
theorem hJ:tZ dm 876:=λP=>by kernel_rfl
noncomputable def uC:List XS:=[ay (bE a_) (aI (aa aB) (a5 a_)),
 bt (eb (bE cP) [cP] (ak eZ [(ak cn [(aa a_)])]) [(dZ (aI (aI (aa a_) (aa cP)) (a5 bP)) [(aH .Eq (aq (aI (aI (aa a_) (aa cP)) (a5 ah)) bR) (a5 aT))])] (aa cP))]
theorem uD(P:Params):bX P 881 [aB] uC 0:=⟨by kernel_rfl,by kernel_rfl⟩
theorem m':tZ ez 881:=λP=>by kernel_rfl
noncomputable def wz:List XS:=[ay (bE de) (ak Fd [(eb (bE bC) [bC] (aI (aa aB) (a5 b9)) [] (ao (aa bC) gc []))]),
 bt (aL .Add (aa de) (ak Fd [(eb (bE b6) [b6] (aI (aa aB) (a5 a_)) [] (aL .Sub (ak cn [(aI (aa b6) (a5 el))]) (aq (aI (aa b6) (a5 ah)) di)))]))]
theorem wA(P:Params):bX P 886 [aB] wz 0:=⟨by kernel_rfl,by kernel_rfl⟩
theorem wB:tZ i0 886:=λP=>by kernel_rfl
noncomputable def lV:List XS:=[se [bJ,e3] [(ak cn [(aI (aa aB) (a5 a_))]),(ak cn [(aI (aI (aI (aa aB) (a5 a_)) (av 0)) (a5 d2))])],
 ay (bE hq) (nA (aH .Eq (aa e3) (av 0)) [(aH .Eq (aa e3) (aL .Add (aL .Mult (aa bJ) (aa b7)) (aa bJ)))]),
 g6 (bE eK) (ak eZ [(aa nM)]) (xB [ay (bE aT) (ak ez [(aa aB)]),
  bo (nA (dZ (aH .Eq (aa aT) (cI [])) [(fT (aa hq))]) [(dZ (aa hq) [(aH .NotEq (ak cn [(aa aT)]) (ak Fb [(av 0),(aL .Sub (aa bJ) (aa eK))]))])]) (xB [bt (cw false)]) (xB []),
  bo (dZ (aH .NotEq (aa aT) (cI [])) [(fT (ak dm [(aa aB),(aI (aa aT) (ak a6 [(aa bW),(ak cn [(aa aT)])]))]))]) (xB [bt (cw false)]) (xB []),
  bo (aH .NotEq (ak i0 [(aa aB)]) (aa e3)) (xB [bt (cw false)]) (xB [])]),
 bt (cw true)]
theorem lW(P:Params):bX P 893 [bW,aB,nM,b7] lV 0:=⟨by kernel_rfl,by kernel_rfl⟩
theorem lX:tZ fA 893:=λP=>by kernel_rfl
noncomputable def pz:List XS:=[ay (bE cP) (ak a6 [(aa bW),(ak cn [(aI (aa aB) (a5 a_))])]),
 ay (bE ah) (aI (aI (aI (aa aB) (a5 a_)) (aa cP)) (a5 ah)),
 bo (nA (aH .NotEq (aq (aa ah) bR) (a5 aT)) [(aH .Eq (ak a6 [(aa bW),(av 2)]) (av 0))]) (xB [bo (nA (aH .NotEq (ao (aI (aa aB) (a5 aS)) r1 [(aI (aa aB) (a5 aC)),(aq (aa ah) dS)]) (av 0)) [(aH .NotEq (aq (aa ah) bR) (a5 aT))]) (xB [bt (cw false)]) (xB [])]) (xB []),
 bt (ak iZ [(aa aB),(aa cP)])]
theorem pA(P:Params):bX P 900 [bW,aB] pz 0:=⟨by kernel_rfl,by kernel_rfl⟩
theorem pB:tZ gW 900:=λP=>by kernel_rfl
noncomputable def ot:List XS:=[ay (et ([a_,aC,bY].map bE)) (cS [(aI (aa aB) (a5 a_)),(aI (aa aB) (a5 aC)),(cI [])]),
 g6 (bE eK) (ak eZ [(av 400)]) (xB [bo (aH .Eq (ak cn [(aa bY)]) (ak cn [(aa a_)])) (xB [Fz]) (xB []),
  ay (bE aT) (aL .Add (ak ez [(aa aB)]) (aL .Mult (cI [(ak cn [(aa a_)])]) (ak vf [(aH .Eq (aq (aa aC) bR) (a5 aT))]))),
  bo (aH .Eq (aa aT) (cI [])) (xB [bt (cw false)]) (xB []),
  ay (bE cP) (aI (aa aT) (ak a6 [(aa bW),(ak cn [(aa aT)])])),
  bo (aH .Eq (aa cP) (ak cn [(aa a_)])) (xB [ay (bE lx) (mH [aC,aB] (ao (aI (aa aB) (a5 aS)) jL [(aa aC)])),
  bo (aH .Eq (aI (aa lx) (av 0)) (a5 dY)) (xB [bt (cw false)]) (xB []),
  ay (bE bY) (aL .Add (aa bY) (nB (aH .Is (aI (aa lx) (av 1)) bj) (cI []) (cI [(aI (aa lx) (av 1))])))]) (xB [bo (fT (ak dm [(aa aB),(aa cP)])) (xB [bt (cw false)]) (xB [])])]),
 bt (aH .Eq (ak pJ [(aa bY)]) (ak pJ [(eb (bE b6) [b6] (aa a_) [] (cS [(aI (aa b6) (a5 dS)),(aI (aa b6) (a5 dW))]))]))]
theorem ou(P:Params):bX P 905 [bW,aB] ot 0:=⟨by kernel_rfl,by kernel_rfl⟩
theorem ow:tZ gs 905:=λP=>by kernel_rfl
noncomputable def L8:List XS:=[se [bW,cB] [(ak nO [(aa dh)]),(aH .Lt (ak cn [(aa dh)]) (av 2))],
 ay (bE bJ) (aL .Add (av 2) (ak a6 [(aa bW),(nB (aa cB) (av 2) (av 4))])),
 ay (bE b7) (aL .Add (av 1) (ak a6 [(aa bW),(aI (cI [(av 4),(av 3),(av 2),(av 2)]) (aL .Sub (aa bJ) (av 2)))])),
 ay (bE cc) (ak jM [(ak lr [(aa bW),(aa bJ),(aa b7)])]),
 ay (bE bH) (ak tw [(aL .Add (aa bJ) (av 1))]),
 ay (bE aZ) (ak iW [(aL .Mult (av 2) (aa bJ)),(ak iU [(aa b7)]),bj,bj,n6,(av 16)]),
 ay (et ([aS,aC].map bE)) (cS [(ak fX [(ak tj [(aa bH),(aa aZ)])]),(ao (aa bH) BM [(a5 aC)])]),
 ay (cQ (aa aC) aZ) (ak fw [(av 4)]),
 bA (ao (aa bH) aT [(aa aC)]),
 ay (bE a_) (ak lu [(aa bW),(aa aS),(aa aC),(aa cc),(aa b7)]),
 C8 b9 (bE b6) [b6] (aa a_) [] (aq (ao (aq (aI (aa b6) (a5 ah)) aZ) kE [(aI (aa b6) (a5 fk))]) bC),
 ay (bE aB) (k2 [aS,aC,a_,b9] [(aa aS),(aa aC),(aa a_),(aa b9)]),
 bo (nA (aH .NotEq (mH [aC,aS] (ao (aa aS) jL [(aa aC)])) (cS [(a5 bY),bj])) [(aH .NotEq (ao (aa aZ) cD []) (aL .Mult (av 2) (aa bJ)))]) (xB [bt (cw false)]) (xB []),
 bo (fT (ak fA [(aa bW),(aa aB),(aL .Add (av 4) (ak a6 [(aa bW),(nB (aa cB) (av 4) (av 24))])),(aa b7)])) (xB [bt (cw false)]) (xB []),
 bo (nA (fT (ak gW [(aa bW),(aa aB)])) [(fT (ak gs [(aa bW),(aa aB)]))]) (xB [bt (cw false)]) (xB []),
 bo (nA (aH .NotEq (ao (aa bH) IY []) (cI [(aa aC)])) [(aH .NotEq (ao (aa aZ) cD []) (av 0)),(aH .NotEq (ao (aq (aa aZ) b9) cD []) (av 0))]) (xB [bt (cw false)]) (xB []),
 bt (aH .Eq (mH [aC,aS] (ao (aa aS) jL [(aa aC)])) (cS [(a5 dY),bj]))]
theorem L9(P:Params):bX P 910 [dh] L8 0:=⟨by kernel_rfl,by kernel_rfl⟩
section
set_option genInjectivity true
noncomputable def ON(P:Params)(n m:Nm):Bool:=((nsIn (Kf P) mainGlobals n.str).bind λv=>v.bind FQ)==some m.str
theorem ox{n m:Nm}(h:∀P,ON P n m=true):vb n (.str m):=λP=>(Option.bind_eq_some_iff.mp (beq_iff_eq.mp (h P))).elim λv q=>(Option.bind_eq_some_iff.mp q.2).elim λu z=>(tW z.2).imp λt e=>q.1.trans (congrArg some (z.1.trans (congrArg some e)))
noncomputable def L_:Value→Option Int
 | .int i _=>some i
 |_=>none
theorem Gk{v:Value}{i:Int}(h:L_ v=some i):∃t,v=.int i t:=by cases v<;>first|exact⟨_,congrArg (Value.int · _) (Option.some.inj h)⟩|cases h
noncomputable def OO(P:Params)(n:Nm)(i:Int):Bool:=((nsIn (Kf P) mainGlobals n.str).bind λv=>v.bind L_)==some i
theorem oy{n:Nm}{i:Int}(h:∀P,OO P n i=true):vb n (.int i):=λP=>(Option.bind_eq_some_iff.mp (beq_iff_eq.mp (h P))).elim λv q=>(Option.bind_eq_some_iff.mp q.2).elim λu z=>(Gk z.2).imp λt e=>q.1.trans (congrArg some (z.1.trans (congrArg some e)))
theorem Dm:vb BK (.str aT):=ox λP=>by kernel_rfl
theorem kb:vb fQ (.str cY):=ox λP=>by kernel_rfl
theorem ble{n:Nat}(h:n.ble 1000=true):n≤1000:=Nat.le_of_ble_eq_true h
inductive Ch where
 |none
 |pipe(k:Nat)(w:Bool)
 |child(pid:Int)
 deriving DecidableEq
noncomputable def Ch.v:Ch→MV
 | .none=>.none
 | .pipe k w=>.tup [.str bC,.int k,.int (if w then 1 else 0)]
 | .child p=>.tup [.str bB,.int p]
noncomputable abbrev br(k:Nat):MV:=.ref .Process k
noncomputable abbrev eU:MV:=.ref .Table 0
structure Pr where
 pid:Int
 state:Nm
 parent:MV
 files:MV
 name:Nm
 fm:MV
 c0:Bool
 status:Int
 prog:Int
 pC:MV
noncomputable def Pr.fs(p:Pr)(k:Nat):Loc:=[(dO,.int k),(dS,.int p.pid),(bR,.str p.state),(bq,p.parent),(fx,.none),(cJ,p.pC),(Fc,.int 0),(aZ,p.files),(mi,.none),(ml,.str p.name),(bM,p.fm),(kn,.bool p.c0),(eG,.int p.status),(kin_call,.none),(di,.int p.prog),(bY,.none),(xw,.none),(IZ,.none),(nM,.int 0)]
section
variable{H H':Hp}{k:Nat}{p:Pr}{tb:Loc}{ch:MV}
theorem Hp.set_set{c:Cl}{v a:MO}:(H.set c k v).set c k a=H.set c k a:=congrArg (Hp.mk · H.n) (funext λc'=>funext λb=>by
 show(if c'=c∧b=k then a else if c'=c∧b=k then v else _)=if c'=c∧b=k then a else _
 split<;>rfl)
noncomputable abbrev dT(H:Hp)(k:Nat)(p:Pr):Hp:=H.set .Process k (.inst (p.fs k))
theorem nc{d:Nat}{l:List XS}{ρ ρ':Loc}{f:Fl}{H2:Hp}(h:gj d l ρ H f ρ' H')(e:H'=H2):gj d l ρ H f ρ' H2:=e▸h
theorem pQ(c:H.o .Process k=.inst (p.fs k))(b:H.o .Table 0=.inst tb)(a:look cC tb=some .none):Fn 1 706 [eU,br k] H .none (dT H k {p with state:=aT,fm:=.none}):=
 aJ rH rfl (af (aG rfl (ey Dm) (d0 (ae rfl) c rfl (ble rfl)))
  (af (aG rfl a3 (d0 (ae rfl) Hp.bQ rfl (ble rfl)))
  (nc (af (aU (aD (au (ae rfl) b rfl a) (ae rfl) (.LG _ _)) aw) aw) Hp.set_set))) rfl
end
end
theorem dU.sub{C:FC}{N:cb}{ρ ρ':Loc}{h:Heap}(F:dU C N ρ h)(s:∀n v,look n ρ'=some v→look n ρ=some v):dU C N ρ' h:=
 ⟨F.ok,F.ns.imp λm q=>⟨q.1,λn v l=>q.2 n v (s n v l)⟩,λn c q=>(F.cells n c q).imp λov g=>⟨g.1,λv l=>g.2 v (s n v l)⟩,F.frames⟩
theorem wC{n:Nm}{v:MV}{ρ r:Loc}(h:look n ρ=some v):look n (ρ++r)=some v:=by
 induction ρ with
 |nil=>cases h
 |cons e ρ ih=>
  show(bif e.1.c.beq n.c then some e.2 else look n (ρ++r))=some v
  have h:(bif e.1.c.beq n.c then some e.2 else look n ρ)=some v:=h
  cases q:e.1.c.beq n.c with
  |true=>rw[q]at h;exact h
  |false=>rw[q]at h;exact ih h
theorem cV{d:Nat}{l:List XS}{ρ ρ' r:Loc}{f:Fl}{H H':Hp}(h:gj d l ρ H f (ρ'++r) H'):gj d l ρ H f ρ' H':=λC p i O g z N s Q E I F k=>
 h C p i O g z N s Q E I F λfl e j a b c m=>k fl e j a b c (m.sub λn v=>wC)
noncomputable def wD(P:Nat→Pr)(B:Nat→Bool):List Nat→Hp→Hp
 |[],H=>H
 |k::r,H=>wD P B r (bif B k then dT H k {P k with state:=aT,fm:=.none}else H)
noncomputable def Dp(B:Nat→Bool):List Nat→Int→Int
 |[],m=>m
 |k::r,m=>Dp B r (bif B k then m+1 else m)
section
variable{H H':Hp}{k:Nat}{p:Pr}{tb:Loc}{ch:MV}{P:Nat→Pr}{B:Nat→Bool}
def pR(p:Pr)(ch:MV)(b:Bool):Prop:=(p.state.c.beq cY.c=false∧b=false)∨(p.state=cY∧∀H,eR H .Eq p.fm ch b)
noncomputable abbrev Im:List XS:=[bo (dZ (aH .Eq (aq (aa ah) bR) (eP fQ)) [(aH .Eq (aq (aa ah) bM) (aa bM))]) (xB [bA (ao (aa ai) aT [(aa ah)]),y_ bJ .Add (av 1)]) (xB [])]
noncomputable abbrev zy(ch:MV)(m:Int)(k:Nat):Loc:=[(ai,eU),(bM,ch),(bJ,.int m),(ah,br k)]
theorem sx{s:Nm}{b:Bool}(h:s.c.beq cY.c=b):eR H .Eq (.str s) (.str cY) b:=h▸ .eq (.ss _ _)
theorem JR{m:Int}{b:Bool}(d:H.o .Process k=.inst (p.fs k))(e:H.o .Table 0=.inst tb)(f:look cC tb=some .none)(ht:look aT tb=none)(hb:pR p ch b):
  gj 2 Im (zy ch m k) H .next (zy ch (bif b then m+1 else m) k) (bif b then dT H k {p with state:=aT,fm:=.none}else H):=by
 have a:∀{b:Bool},p.state.c.beq cY.c=b→ik 2 (aH .Eq (aq (aa ah) bR) (eP fQ)) (zy ch m k) H b H:=λh=>aD (au (ae rfl) d rfl rfl) (ey kb) (sx h)
 have c:∀{b:Bool},eR H .Eq p.fm ch b→ik 2 (aH .Eq (aq (aa ah) bM) (aa bM)) (zy ch m k) H b H:=λh=>aD (au (ae rfl) d rfl rfl) (ae rfl) h
 refine hb.elim (λh=>?_) λh=>?_
 ·cases h.2;exact af (aU (cy (b3 (a h.1))) aw) aw
 ·have a:=a (congrArg (λn:Nm=>n.c.beq cY.c) h.1)
  cases b with
  |false=>exact af (aU (cy (b_ a (b3 (c (h.2 H))))) aw) aw
  |true=>exact af (cF (cy (b_ a (b_ (c (h.2 H)) eS))) (af (bS (bU fZ rfl (ae rfl) e ht (ag (ae rfl) aj) ((pQ d e f).up 1)) rfl rfl) (af (FH rfl ar (.add _ _)) aw))) aw
theorem JS(d:look cC tb=some .none)(ht:look aT tb=none)(e:∀k,pR (P k) ch (B k)){ks:List Nat}:∀{H:Hp}{m:Int},ks.Nodup→(∀k∈ks,H.o .Process k=.inst ((P k).fs k))→H.o .Table 0=.inst tb→
  e9 2 (bE ah) Im ks.length (.nC (ks.map br)) [(ai,eU),(bM,ch),(bJ,.int m)] H .next [(ai,eU),(bM,ch),(bJ,.int (Dp B ks m))] (wD P B ks H):=by
 induction ks with
 |nil=>exactλ_ _ _=>.stop .s
 |cons k ks ih=>
  intro H m nd b c
  have nd:=List.nodup_cons.mp nd
  have go:=ih (H:=bif B k then dT H k {P k with state:=aT,fm:=.none}else H) (m:=bif B k then m+1 else m) nd.2
   (λj a=>by cases B k with
    |false=>exact b j (List.mem_cons_of_mem _ a)
    |true=>exact(Hp.b4 λz:Cl.Process=.Process∧j=k=>nd.1 (z.2▸a)).trans (b j (List.mem_cons_of_mem _ a)))
   (by cases B k<;>exact c)
  exact .step (.s _ _) aA (cV (ρ':=[(ai,eU),(bM,ch),(bJ,.int (bif B k then m+1 else m))]) (r:=[(ah,br k)]) (JR (m:=m) (b k (List.mem_cons_self ..)) c d ht (e k))) go
theorem Dq{ks:List Nat}(b:look cC tb=some .none)(ht:look aT tb=none)(hp:look dH tb=some (.lst (ks.map br)))(d:∀k,pR (P k) ch (B k))(nd:ks.Nodup)(c:∀k∈ks,H.o .Process k=.inst ((P k).fs k))(a:H.o .Table 0=.inst tb):
  Fn 3 777 [eU,ch] H (.int (Dp B ks 0)) (wD P B ks H):=
 aJ qU rfl (af (aG rfl ar aA) (af (dQ (eM (au (ae rfl) a rfl hp) (.s _)) rfl (JS b ht d nd c a)) (az (aY (ae rfl)) rfl))) rfl
end
theorem zz:vb rX (.int 0):=oy λP=>by kernel_rfl
theorem g4:vb p_ (.int 1):=oy λP=>by kernel_rfl
theorem oz:vb th (.int 2):=oy λP=>by kernel_rfl
theorem o2:vb cH (.int 0):=oy λP=>by kernel_rfl
theorem wF:vb c8 (.int 1):=oy λP=>by kernel_rfl
structure Pi where
 id:Nat
 R:Nat
 g:Nat
 rc:Nat
 wc:Nat
 ro:Bool
 wo:Bool
noncomputable def Pi.fs(q:Pi):Loc:=[(hN,.int q.id),(dc,.int q.R),(qa,.ref .B q.g),(d5,.int q.rc),(dF,.int q.wc),(fP,.bool q.ro),(d6,.bool q.wo)]
noncomputable abbrev gm(k:Nat):MV:=.ref .b8 k
section
variable{H H':Hp}{k:Nat}{q:Pi}{d:Nat}{ρ:Loc}
theorem Hp.kc{c:Cl}{v:MO}(h:H.o c k=v):H.set c k v=H:=congrArg (Hp.mk · H.n) (funext λc'=>funext λa=>by
 show(if c'=c∧a=k then v else H.o c' a)=H.o c' a
 split
 ·rename_i z;rw[z.1,z.2,h]
 ·rfl)
theorem Hp.set_comm{c c':Cl}{j:Nat}{v e:MO}(f:c≠c'):(H.set c k v).set c' j e=(H.set c' j e).set c k v:=congrArg (Hp.mk · H.n) (funext λa=>funext λb=>by
 show(if a=c'∧b=j then e else if a=c∧b=k then v else H.o a b)=if a=c∧b=k then v else if a=c'∧b=j then e else H.o a b
 split
 ·rename_i z;rw[if_neg λy=>f (y.1.symm.trans z.1)]
 ·rfl)
theorem sy(a:H.o .b8 k=.inst q.fs):Fn 1 112 [gm k] H (.int ((q.wc:Int)-q.rc)) H:=
 aJ qP rfl (az (aY (a8 (au (ae rfl) a rfl rfl) (au (ae rfl) a rfl rfl) (.sub _ _))) rfl) rfl
theorem je(a:H.o .b8 k=.inst q.fs)(l:look ai ρ=some (gm k)):Ev (d+1) (ao (aa ai) gc []) ρ H (.int ((q.wc:Int)-q.rc)) H:=
 bU j3 rfl (ae l) a rfl aj (Nat.add_comm 1 d▸(sy a).up d)
theorem JT(a:H.o .b8 k=.inst q.fs):Fn 2 119 [gm k] H (.int ((q.R:Int)-((q.wc:Int)-q.rc))) H:=
 aJ vS rfl (az (aY (a8 (au (ae rfl) a rfl rfl) (je a rfl) (.sub _ _))) rfl) rfl
theorem ku{s:Int}(a:H.o .b8 k=.inst q.fs):Fn 1 126 [gm k,.int s] H (.tup [.str bC,.int q.id,.int s]) H:=
 aJ qR rfl (az (aY (ct (ag a7 (ag (au (ae rfl) a rfl rfl) (ag (ae rfl) aj))) (ble rfl))) rfl) rfl
noncomputable def qV(R:Nat):List UInt8→Nat→List UInt8→List UInt8
 |ring,_,[]=>ring
 |ring,wc,x::r=>qV R (ring.set (wc%R) x) (wc+1) r
noncomputable abbrev jE(H:Hp)(k:Nat)(q:Pi)(ring:List UInt8):Hp:=(H.set .B q.g (.dD ring)).set .b8 k (.inst q.fs)
theorem AP{q':Pi}{r a:List UInt8}(b:q'.g=q.g):jE (jE H k q r) k q' a=jE H k q' a:=by
 unfold jE
 rw[b,Hp.set_comm (c:=.b8) (c':=.B) (by decide),Hp.set_set,Hp.set_set]
noncomputable abbrev Oe:List XS:=[ay (pg (aq (aa ai) qa) (aL .Mod (aq (aa ai) dF) (aq (aa ai) dc))) (aa nH),k0 (aa ai) dF .Add (av 1)]
theorem JU{ring:List UInt8}{x:UInt8}(a:H.o .b8 k=.inst q.fs)(i:H.o .B q.g=.dD ring)(f:0<q.R)(hl:ring.length=q.R)(e:q.R≤10)(c:look ai ρ=some (gm k))(h:look nH ρ=some (.int x.toNat)):
  gj d Oe ρ H .next ρ (jE H k {q with wc:=q.wc+1} (ring.set (q.wc%q.R) x)):=
 af (aG rfl (ae h) (gY (au (ae c) a rfl rfl) (a8 (au (ae c) a rfl rfl) (au (ae c) a rfl rfl) (.mod _ _ (Int.ofNat_lt.mpr f))) (xQ.b (j:=q.wc%q.R) x i (hl.symm▸Nat.mod_lt _ f) (hl.symm▸Nat.le_trans e (by decide)))))
  (af (i6 (ae c) a rfl rfl ar (.add _ _) a (ble rfl)) aw)
theorem AQ{ring:List UInt8}(a:H.o .b8 k=.inst q.fs)(b:H.o .B q.g=.dD ring):jE H k q ring=H:=by
 unfold jE
 rw[Hp.kc b,Hp.kc a]
theorem Dr{R:Nat}{bs:List UInt8}:∀{ring:List UInt8}{wc:Nat},(qV R ring wc bs).length=ring.length:=by
 induction bs with
 |nil=>exact rfl
 |cons x r ih=>exactλ{ring wc}=>(ih (ring:=ring.set (wc%R) x) (wc:=wc+1)).trans List.length_set
theorem Ds{ring:List UInt8}:(jE H k q ring).o .b8 k=.inst q.fs:=Hp.bQ
theorem JV{ring:List UInt8}:(jE H k q ring).o .B q.g=.dD ring:=(Hp.b4 (by intro z;exact nomatch z.1)).trans Hp.bQ
theorem kv{t:XT}{b:List XS}{n:Nat}{i:It}{ρ':Loc}{f:Fl}{H1 H2:Hp}(e:H1=H2)(h:e9 d t b n i ρ H f ρ' H1):e9 d t b n i ρ H f ρ' H2:=e▸h
theorem JW{v t:MV}(f:q.R≤10)(h:0<q.R){bs:List UInt8}:∀{H:Hp}{ring:List UInt8}{wc:Nat},ring.length=q.R→H.o .b8 k=.inst (Pi.fs {q with wc:=wc})→H.o .B q.g=.dD ring→
  e9 d (bE nH) Oe bs.length (.yM bs) [(ai,gm k),(bl,v),(iS,t)] H .next [(ai,gm k),(bl,v),(iS,t)] (jE H k {q with wc:=wc+bs.length} (qV q.R ring wc bs)):=by
 induction bs with
 |nil=>exactλ{H ring wc} hl a c=>kv (AQ (q:={q with wc:=wc}) a c).symm (.stop .b)
 |cons x r ih=>
  intro H ring wc hl a c
  have go:=ih (H:=jE H k {q with wc:=wc+1} (ring.set (wc%q.R) x)) (ring:=ring.set (wc%q.R) x) (wc:=wc+1) (List.length_set.trans hl) Ds (JV (q:={q with wc:=wc+1}))
  have e:jE (jE H k {q with wc:=wc+1} (ring.set (wc%q.R) x)) k {q with wc:=wc+1+r.length} (qV q.R (ring.set (wc%q.R) x) (wc+1) r)=jE H k {q with wc:=wc+(x::r).length} (qV q.R ring wc (x::r)):=
   (AP (q:={q with wc:=wc+1}) (q':={q with wc:=wc+1+r.length}) rfl).trans (congrArg (λn=>jE H k {q with wc:=n} (qV q.R ring wc (x::r))) (Nat.add_right_comm wc 1 r.length))
  exact kv e (.step (.b _ _) aA (cV (ρ':=[(ai,gm k),(bl,v),(iS,t)]) (r:=[(nH,.int x.toNat)]) (JU (q:={q with wc:=wc}) a c h hl f rfl rfl)) go)
theorem c6{e:XE}{H1:Hp}{v a:MV}(q:v=a)(h:Ev d e ρ H v H1):Ev d e ρ H a H1:=q▸h
theorem Dt{ring bs:List UInt8}{a:Nat}(e:H.o .b8 k=.inst q.fs)(m:H.o .B q.g=.dD ring)(hl:ring.length=q.R)(j:0<q.R)(i:q.R≤10)(f:q.ro=true)(hb:bs.length≤1000)(ht:(a:Int)=min (bs.length:Int) ((q.R:Int)-((q.wc:Int)-q.rc))):
  Fn 3 133 [gm k,.bytes bs] H (.tup [.int a,.int (if a=bs.length then 0 else 1)]) (jE H k {q with wc:=q.wc+(bs.take a).length} (qV q.R ring q.wc (bs.take a))):=by
 have l:(jE H k {q with wc:=q.wc+(bs.take a).length} (qV q.R ring q.wc (bs.take a))).o .b8 k=_:=Ds
 refine aJ mJ rfl (af (aU (gv (b:=true) (cL (au (ae rfl) e rfl (congrArg (λb=>some (MV.bool b)) f)) rfl)) aw)
  (af (aG rfl (c6 (congrArg MV.int ht.symm) (dr t8 (ag (dr eB (ag (ae rfl) aj) (.AF (Nat.le_trans hb (by decide)))) (ag (bU vT rfl (ae rfl) e rfl aj (JT e)) aj)) (.min _ _))) aA)
  (af (dQ (eM (B1 (ae rfl) (ae rfl) (Nat.le_trans hb (by decide))) (.b _)) rfl (JW i j hl e m)) (az (aY (ct (ag (ae rfl) (ag ?_ aj)) (ble rfl))) rfl)))) rfl
 have c:=aD (op:=.Eq) (ae (d:=2) (H:=jE H k {q with wc:=q.wc+(bs.take a).length} (qV q.R ring q.wc (bs.take a))) (ρ:=[(ai,gm k),(bl,.bytes bs),(iS,.int a)]) (n:=iS) rfl) (dr eB (ag (ae (n:=bl) rfl) aj) (.AF (Nat.le_trans hb (by decide)))) (.eq (.ii _ _))
 by_cases h:a=bs.length
 ·rw[if_pos h];exact hV (decide_eq_true (congrArg Int.ofNat h)▸c) (dg zz)
 ·rw[if_neg h];exact hW (decide_eq_false (λz=>h (Int.ofNat.inj z))▸c) (dg g4)
theorem AR{bs:List UInt8}(c:H.o .b8 k=.inst q.fs)(a:q.ro=false):Fn 3 133 [gm k,.bytes bs] H (.tup [.int 0,.int 2]) H:=
 aJ mJ rfl (az (cF (gv (b:=false) (cL (au (ae rfl) c rfl (congrArg (λb=>some (MV.bool b)) a)) rfl)) (az (aY (ct (ag ar (ag (dg oz) aj)) (ble rfl))) rfl)) rfl) rfl
end
noncomputable def g8(R:Nat)(ring:List UInt8):Nat→Nat→List UInt8
 |_,0=>[]
 |rc,n+1=>ring.getD (rc%R) 0::g8 R ring (rc+1) n
theorem Du{R:Nat}{ring:List UInt8}{n:Nat}:∀{rc:Nat},(g8 R ring rc n).length=n:=by
 induction n with
 |zero=>exact rfl
 |succ n ih=>exact congrArg Nat.succ ih
section
variable{H H':Hp}{k:Nat}{q:Pi}{d:Nat}{ρ:Loc}
theorem Hp.jf{c:Cl}{v a:MO}:(H.new c v).set c (H.n c) a=H.new c a:=congrArg (Hp.mk · (H.new c v).n) (funext λc'=>funext λb=>by
 show(if c'=c∧b=H.n c then a else if c'=c∧b=H.n c then v else _)=if c'=c∧b=H.n c then a else _
 split<;>rfl)
noncomputable abbrev kd(H:Hp)(k:Nat)(q:Pi)(given:List UInt8):Hp:=(H.new .B (.dD given)).set .b8 k (.inst q.fs)
noncomputable abbrev Nn:XE:=dZ (aH .Lt (ak cn [(aa jJ)]) (aa cD)) [(aH .Gt (ao (aa ai) gc []) (av 0))]
noncomputable abbrev Np:List XS:=[bA (ao (aa jJ) dx [(aI (aq (aa ai) qa) (aL .Mod (aq (aa ai) d5) (aq (aa ai) dc)))]),
  k0 (aa ai) d5 .Add (av 1)]
noncomputable abbrev Gl(H:Hp)(k c:Nat):Loc:=[(ai,gm k),(cD,.int c),(jJ,.ref .B (H.n .B))]
theorem oA{given:List UInt8}:(kd H k q given).o .b8 k=.inst q.fs:=Hp.bQ
theorem uE{given:List UInt8}:(kd H k q given).o .B (H.n .B)=.dD given:=(Hp.b4 (by intro z;exact nomatch z.1)).trans Hp.dN
theorem JX{given ring:List UInt8}(b:H.o .B q.g=.dD ring)(a:q.g<H.n .B){q':Pi}:(kd H k q' given).o .B q.g=.dD ring:=((Hp.b4 (by intro z;exact nomatch z.1)).trans (Hp.eh λz=>Nat.ne_of_lt a z.2)).trans b
theorem AS{given a:List UInt8}{q':Pi}:((kd H k q given).set .B (H.n .B) (.dD a)).set .b8 k (.inst q'.fs)=kd H k q' a:=by
 unfold kd
 rw[Hp.set_comm (c:=.b8) (c':=.B) (by decide),Hp.set_set,Hp.jf]
theorem JY{c:Nat}{given ring:List UInt8}{q':Pi}(f:q'.g=q.g∧q'.R=q.R)(l:H.o .B q.g=.dD ring)(j:q.g<H.n .B)(i:0<q.R)(hl:ring.length=q.R)(a:q.R≤10)(h:given.length<1000):
  gj (d+1) Np (Gl H k c) (kd H k q' given) .next (Gl H k c) (kd H k {q' with rc:=q'.rc+1} (given++[ring.getD (q'.rc%q.R) 0])):=
 have hi:HZ ring ((q'.rc:Int)%(q'.R:Int))=some (ring.getD (q'.rc%q.R) 0):=by
  have lt:q'.rc%q.R<ring.length:=hl.symm▸Nat.mod_lt _ i
  have e:HZ ring ((q'.rc%q.R:Nat):Int)=some (ring.getD (q'.rc%q.R) 0):=cx (by rw[List.getD_eq_getElem?_getD,List.getElem?_eq_getElem lt];rfl) (Nat.lt_trans lt (by rw[hl];exact Nat.lt_of_le_of_lt a (by decide)))
  rw[f.2]
  exact e
 nc (af (bS (FZ (ae rfl) uE (ag (aW (au (ae rfl) oA rfl rfl) (a8 (au (ae rfl) oA rfl rfl) (au (ae rfl) oA rfl rfl) (.mod _ _ (Int.ofNat_lt.mpr (f.2.symm▸i)))) (.b (f.1.symm▸JX l j) hi (hl.symm▸Nat.le_trans a (by decide)))) aj) uE h) rfl rfl)
  (af (i6 (ae rfl) ((Hp.b4 (by intro z;exact nomatch z.1)).trans oA) rfl rfl ar (.add _ _) ((Hp.b4 (by intro z;exact nomatch z.1)).trans oA) (ble rfl)) aw)) (AS (q:=q') (q':={q' with rc:=q'.rc+1}))
theorem Dv{c:Nat}{given:List UInt8}{b1 b2:Bool}(e:given.length≤1000)(f:decide ((given.length:Int)<c)=b1)(h2:decide ((0:Int)<(q.wc:Int)-q.rc)=b2):ik (d+1) Nn (Gl H k c) (kd H k q given) (b1&&b2) (kd H k q given):=by
 have a:=aD (op:=.Lt) (d:=d+1) (ρ:=Gl H k c) (H:=kd H k q given) (dr eB (ag (ae (n:=jJ) rfl) aj) (.LS uE (Nat.le_trans e (by decide)))) (ae (n:=cD) rfl) (f▸eR.lt _ _)
 have b:=aD (op:=.Gt) (d:=d+1) (ρ:=Gl H k c) (H:=kd H k q given) (je oA rfl) ar (h2▸eR.gt _ _)
 cases b1 with
 |false=>exact cy (b3 a)
 |true=>cases b2 with
  |false=>exact cy (b_ a (b3 b))
  |true=>exact cy (b_ a (b_ b eS))
theorem JZ{c:Nat}{ring:List UInt8}(l:H.o .B q.g=.dD ring)(i:q.g<H.n .B)(j:0<q.R)(hl:ring.length=q.R)(b:q.R≤10){n:Nat}:∀{given:List UInt8}{rc:Nat},given.length+n≤1000→given.length+n≤c→rc+n≤q.wc→(given.length+n=c∨rc+n=q.wc)→
  Jl (d+1) Nn Np (n+1) (Gl H k c) (kd H k {q with rc:=rc} given) .next (Gl H k c) (kd H k {q with rc:=rc+n} (given++g8 q.R ring rc n)):=by
 induction n with
 |zero=>
  intro given rc f m h2 a
  have e:given++g8 q.R ring rc 0=given:=List.append_nil _
  rw[e]
  have hb:(decide ((given.length:Int)<c)&&decide ((0:Int)<(q.wc:Int)-rc))=false:=a.elim (λh=>by rw[decide_eq_false (by omega)];rfl) λh=>by rw[decide_eq_false (p:=(0:Int)<(q.wc:Int)-rc) (by omega),Bool.and_false]
  exact .stop (hb▸Dv (q:={q with rc:=rc}) f rfl rfl)
 |succ n ih=>
  intro given rc f m h2 a
  have t:=Dv (d:=d) (H:=H) (k:=k) (c:=c) (given:=given) (q:={q with rc:=rc}) (b1:=true) (b2:=true) (by omega) (decide_eq_true (by omega)) (decide_eq_true (show(0:Int)<(q.wc:Int)-(rc:Nat) by omega))
  have go:=ih (given:=given++[ring.getD (rc%q.R) 0]) (rc:=rc+1) (by rw[List.length_append];show _+1+n≤_;omega) (by rw[List.length_append];show _+1+n≤_;omega) (by omega) (a.imp (λh=>by rw[List.length_append];show _+1+n=_;omega) λh=>by omega)
  rw[List.append_assoc,show rc+1+n=rc+(n+1) by omega]at go
  exact .step t (JY (q':={q with rc:=rc}) ⟨rfl,rfl⟩ l i j hl b (by omega)) go
theorem Gm{c n:Nat}{ring:List UInt8}(j:H.o .b8 k=.inst q.fs)(u:H.o .B q.g=.dD ring)(r:q.g<H.n .B)(t:0<q.R)(hl:ring.length=q.R)(l:q.R≤10)(p:n≤1000)(x:n≤c)(h2:q.rc+n≤q.wc)(v:n=c∨q.rc+n=q.wc)(m:(decide (0<c)&&(decide (q.wc=q.rc)&&q.wo))=false):
  Fn 3 140 [gm k,.int c] H (.tup [.bytes (g8 q.R ring q.rc n),.int 0]) (kd H k {q with rc:=q.rc+n} (g8 q.R ring q.rc n)):=by
 have i:(H.new .B (.dD [])).o .b8 k=.inst q.fs:=(Hp.eh (by intro z;exact nomatch z.1)).trans j
 have e:kd H k q []=H.new .B (.dD []):=Hp.kc i
 have loop:=JZ (d:=1) (k:=k) (c:=c) (given:=[]) (rc:=q.rc) u r t hl l (by rw[List.length_nil,Nat.zero_add];exact p) (by rw[List.length_nil,Nat.zero_add];exact x) h2 (v.imp_left λh=>by rw[List.length_nil,Nat.zero_add];exact h)
 rw[List.nil_append]at loop
 have loop:Jl 2 Nn Np (n+1) (Gl H k c) (H.new .B (.dD [])) .next (Gl H k c) (kd H k {q with rc:=q.rc+n} (g8 q.R ring q.rc n)):=e▸loop
 refine aJ oW rfl (af (aU ?_ aw) (af (aG rfl (CL Dd aj .Ob) aA) (af (Cu loop) (az (aY (ct (ag (dr mI (ag (ae rfl) aj) (.CE uE ?_)) (ag (dg zz) aj)) (ble rfl))) rfl)))) rfl
 ·have a:=aD (op:=.Gt) (d:=2) (ρ:=[(ai,gm k),(cD,.int c)]) (H:=H) (ae (n:=cD) rfl) ar (.gt (c:Int) 0)
  have b:=aD (op:=.Eq) (d:=2) (ρ:=[(ai,gm k),(cD,.int c)]) (H:=H) (je (d:=1) j rfl) ar (.eq (.ii ((q.wc:Int)-q.rc) 0))
  have w:=cL (d:=2) (ρ:=[(ai,gm k),(cD,.int c)]) (H:=H) (au (a:=d6) (ae (n:=ai) rfl) j rfl rfl) rfl
  by_cases f:0<c
  ·have a:=(decide_eq_true (Int.ofNat_lt.mpr f))▸a
   by_cases s:q.wc=q.rc
   ·have b:=(decide_eq_true (show(q.wc:Int)-q.rc=0 by omega))▸b
    rw[decide_eq_true f,decide_eq_true s,Bool.true_and,Bool.true_and]at m
    exact cy (b_ a (b_ b (b3 (m▸w))))
   ·have b:=(decide_eq_false (show¬(q.wc:Int)-q.rc=0 by omega))▸b
    exact cy (b_ a (b3 b))
  ·exact cy (b3 ((decide_eq_false (λz=>f (Int.ofNat_lt.mp z)))▸a))
 ·rw[Du];exact p
end
theorem kx:vb kZ (.str bC):=ox λP=>by kernel_rfl
structure Fi where
 rd:Bool
 h:Nat
 p:Nat
noncomputable def Fi.fs(f:Fi):Loc:=[(cR,.str bC),(cG,.bool f.rd),(ee,.bool (!f.rd)),(dq,.int f.h),(dO,.int 0),(bC,gm f.p),(qf,.none),(qi,.int 0)]
noncomputable abbrev bV(k:Nat):MV:=.ref .aK k
noncomputable abbrev Io:MV:=.ref .cm 0
noncomputable abbrev jq:MV:=.ref .bI 0
noncomputable def Pi.cl(q:Pi)(w:Bool):Pi:=bif w then{q with wo:=false}else{q with ro:=false}
noncomputable def k8(w:Bool):Int:=bif w then 1 else 0
section
variable{H H':Hp}{k:Nat}{q:Pi}{d:Nat}{ρ:Loc}{f:Fi}
theorem dK{d:Nat}{x:XS}{ρ ρ':Loc}{f:Fl}{H2:Hp}(h:eu d x ρ H f ρ' H')(e:H'=H2):eu d x ρ H f ρ' H2:=e▸h
theorem wG{x y:XE}{a b:Bool}{H1:Hp}(h:Ev d x ρ H (.bool a) H1)(h':Ev d y ρ H1 (.bool b) H1):Ev d (dZ x [y]) ρ H (.bool (a&&b)) H1:=by
 cases a with
 |true=>exact tM (tO h (tN h'))
 |false=>exact tM (B' h)
theorem Dw{w:Bool}(a:H.o .b8 k=.inst q.fs):Fn 1 147 [gm k,.int (k8 w)] H (.bool (!(q.cl w).ro&& !(q.cl w).wo)) (H.set .b8 k (.inst (q.cl w).fs)):=by
 have n:∀{ρ},Ev 0 (cS [(eP cH),(eP c8)]) ρ H (.tup [.int 0,.int 1]) H:=ct (ag (dg o2) (ag (dg wF) aj)) (ble rfl)
 refine aJ ub rfl (af (aU (aD (ae rfl) n (b:=false) ?_) aw) (af (H1:=H.set .b8 k (.inst (q.cl w).fs)) (ρ1:=[(ai,gm k),(iu,.int (k8 w))]) ?_ (az (aY (wG (qu (au (ae rfl) Hp.bQ rfl rfl)) (qu (au (ae rfl) Hp.bQ rfl rfl)))) rfl))) rfl
 ·cases w<;>exact .N_ _ 0 1
 ·cases w with
  |false=>exact cF (aD (ae rfl) (dg o2) (.eq (.ii 0 0))) (af (aG rfl dV (d0 (ae rfl) a rfl (ble rfl))) aw)
  |true=>exact aU (aD (ae rfl) (dg o2) (.eq (.ii 1 0))) (af (aG rfl dV (d0 (ae rfl) a rfl (ble rfl))) aw)
theorem AU{w:Bool}{pt:Loc}{dj:Nat}{ds:List (Int×MV)}(i:H.o .b8 k=.inst q.fs)(h:H.o .cm 0=.inst pt)(hp:look b9 pt=some (.ref .D dj))(e:H.o .D dj=.dy ds)(hl:ds.length≤1000)(hk:jT (q.id:Int) ds=some (gm k)):
  Fn 2 183 [Io,gm k,.int (k8 w)] H .none (bif !(q.cl w).ro&& !(q.cl w).wo then(H.set .b8 k (.inst (q.cl w).fs)).set .D dj (.dy (xN (q.id:Int) ds))else H.set .b8 k (.inst (q.cl w).fs)):=by
 have c:=cL (d:=1) (bU uc rfl (ae (n:=bC) (ρ:=[(ai,Io),(bC,gm k),(iu,.int (k8 w))]) rfl) i rfl (ag (ae (n:=iu) rfl) aj) (Dw (w:=w) i)) rfl
 have a:look hN (q.cl w).fs=some (.int q.id):=by cases w<;>rfl
 generalize hb:(!(q.cl w).ro&& !(q.cl w).wo)=b at c⊢
 cases b with
 |false=>exact aJ hC rfl (af (aU (cy (b3 c)) aw) aw) rfl
 |true=>
  have g:=FY (d:=1) (o:=aq (aa ai) b9) (es:=[(aq (aa bC) hN)]) (ρ:=[(ai,Io),(bC,gm k),(iu,.int (k8 w))]) (H:=H.set .b8 k (.inst (q.cl w).fs)) (au (ae rfl) h rfl hp) e (ag (au (ae rfl) Hp.bQ rfl a) aj) e
  rw[hk]at g
  exact aJ hC rfl (af (cF (cy (b_ c (b_ (aD g (ae rfl) (.MX _ _)) eS))) (af (Jj (au (ae rfl) h rfl hp) (au (ae rfl) Hp.bQ rfl a) e hl hk) aw)) aw) rfl
theorem AV{pt:Loc}{dj:Nat}{ds:List (Int×MV)}(a:H.o .cm 0=.inst pt)(hp:look b9 pt=some (.ref .D dj))(b:H.o .D dj=.dy ds)(hl:ds.length≤1000000):Fn 1 190 [Io] H (.int ds.length) H:=
 aJ mN rfl (az (aY (dr eB (ag (au (ae rfl) a rfl hp) aj) (.LU b hl))) rfl) rfl
theorem J0(b:H.o .aK k=.inst f.fs):Fn 1 393 [bV k] H (.int (k8 (!f.rd))) H:=by
 have c:=cL (d:=0) (au (a:=ee) (ae (n:=ai) (ρ:=[(ai,bV k)]) rfl) b rfl rfl) rfl
 refine aJ pv rfl (az (aY ?_) rfl) rfl
 cases h: !f.rd with
 |true=>exact hV (h▸c) (dg wF)
 |false=>exact hW (h▸c) (dg o2)
theorem Gn(a:H.o .aK k=.inst f.fs)(b:0<f.h){t:MV}:Fn 1 470 [t,bV k] H (bV k) (H.set .aK k (.inst (Fi.fs {f with h:=f.h+1}))):=
 aJ mW rfl (af (aU (aD (au (ae rfl) a rfl rfl) ar (decide_eq_false (λz:(f.h:Int)<1=>by omega)▸eR.lt _ _)) aw)
  (af (i6 (ae rfl) a rfl rfl ar (.add _ _) a (ble rfl)) (az (aY (ae rfl)) rfl))) rfl
theorem zA{n:Nat}{v:MV}(a:H.o .aK k=.inst f.fs)(c:f.rd=true)(e:H.o .b8 f.p=.inst q.fs)(h:Fn 3 140 [gm f.p,.int n] H v H'):Fn 4 489 [jq,bV k,.int n] H v H':=
 aJ od rfl (af (aU (gv (b:=true) (cL (au (ae rfl) a rfl (congrArg (λb=>some (MV.bool b)) c)) rfl)) aw)
  (az (cF (aD (au (ae rfl) a rfl rfl) (ey kx) (.eq (.ss _ _))) (az (aY (bU vV rfl (au (ae rfl) a rfl rfl) e rfl (ag (ae rfl) aj) h)) rfl)) rfl)) rfl
theorem qW{bs:List UInt8}{v:MV}(a:H.o .aK k=.inst f.fs)(c:f.rd=false)(e:H.o .b8 f.p=.inst q.fs)(h:Fn 3 133 [gm f.p,.bytes bs] H v H'):Fn 4 503 [jq,bV k,.bytes bs] H v H':=
 aJ m2 rfl (af (aU (gv (b:=true) (cL (au (ae rfl) a rfl (congrArg (λb=>some (MV.bool !b)) c)) rfl)) aw)
  (az (cF (aD (au (ae rfl) a rfl rfl) (ey kx) (.eq (.ss _ _))) (az (aY (bU t' rfl (au (ae rfl) a rfl rfl) e rfl (ag (ae rfl) aj) h)) rfl)) rfl)) rfl
theorem yi{w:Bool}(c:H.o .aK k=.inst f.fs)(b:H.o .b8 f.p=.inst q.fs):Fn 2 524 [jq,bV k,.bool w] H (.tup [.str bC,.int q.id,.int (k8 w)]) H:=by
 have a:Ev 1 (nB (aa ko) (eP c8) (eP cH)) [(ai,jq),(aN,bV k),(ko,.bool w)] H (.int (k8 w)) H:=by
  cases w with
  |true=>exact hV (cL (ae rfl) rfl) (dg wF)
  |false=>exact hW (cL (ae rfl) rfl) (dg o2)
 exact aJ jC rfl (az (cF (aD (au (ae rfl) c rfl rfl) (ey kx) (.eq (.ss _ _))) (az (aY (bU fE rfl (au (ae rfl) c rfl rfl) b rfl (ag a aj) (ku b))) rfl)) rfl) rfl
end
def Runs(H:Hp):It→List MV→Prop
 |i,[]=>Nd H i
 |i,v::vs=>∃a,Nx H i v a∧Runs H a vs
theorem ng{H:Hp}{vs:List MV}:Runs H (.nC vs) vs:=by
 induction vs with
 |nil=>exact .s
 |cons v vs ih=>exact⟨_,.s _ _,ih⟩
theorem ke{H:Hp}{k:Nat}{a vs:List MV}(h:H.o .L k=.list a):∀{j:Nat},a.drop j=vs→Runs H (.lst k j) vs:=by
 induction vs with
 |nil=>exactλ{j} e=>.l h (List.getElem?_eq_none_iff.mpr (List.drop_eq_nil_iff.mp e))
 |cons v vs ih=>exactλ{j} e=>⟨_,.l h (gi e).1,ih (gi e).2⟩
theorem AW{H:Hp}{k:Nat}{a vs:List MV}(h:H.o .L k=.list a):∀{j:Nat},a.drop j=vs→Runs H (.enum k j) (vs.zipIdx j|>.map λp=>.tup [.int p.2,p.1]):=by
 induction vs with
 |nil=>exactλ{j} e=>.e h (List.getElem?_eq_none_iff.mpr (List.drop_eq_nil_iff.mp e))
 |cons v vs ih=>exactλ{j} e=>⟨_,.e h (gi e).1,ih (gi e).2⟩
theorem Dx{H:Hp}{v:MV}{vs:List MV}(l:LstAt H v vs):∃i,Ib H v i∧Runs H i vs∧∀t,gA t i=true:=
 l.elim (λe=>⟨.nC vs,e.symm▸Ib.s vs,ng,λ_=>rfl⟩) λl=>l.elim λk l=>⟨.lst k 0,l.1.symm▸Ib.l l.2,ke (j:=0) l.2 rfl,λ_=>rfl⟩
theorem gn{d:Nat}{t:XT}{ns:List Nm}{ifs:List XE}{e:XE}{ρ:Loc}{H:Hp}{f:MV→Bool}{g:MV→MV}{vs:List MV}(h:∀v∈vs,∃ρ1,Ie d t ns ρ v ρ1∧jS d .And ifs ρ1 H (f v) H∧(f v=true→Ev d e ρ1 H (g v) H)):∀{i:It},Runs H i vs→rA d t ns ifs e ρ vs.length i H ((vs.filter f).map g) H:=by
 induction vs with
 |nil=>exactλr=>.stop r
 |cons v vs ih=>
  exactλ{i} r=>r.elim λa r=>(h v (List.mem_cons_self ..)).elim λρ1 q=>by
   have go:=ih (λw hw=>h w (List.mem_cons_of_mem _ hw)) r.2
   rw[List.filter_cons]
   cases hf:f v with
   |true=>rw[hf]at q;exact .yes r.1 q.1 q.2.1 (q.2.2 rfl) go
   |false=>rw[hf]at q;exact .no r.1 q.1 q.2.1 go
theorem ec{d:Nat}{ρ:Loc}{H H1:Hp}{x:XE}{b:Bool}(h:ik d x ρ H b H1):jS d .And [x] ρ H b H1:=by
 cases b with
 |true=>exact b_ h eS
 |false=>exact b3 h
theorem fW{a b:Nm}{ρ:Loc}(g:look a ρ=none)(h2:look b ρ=none):∀n∈[a,b],look n ρ=none:=λn c=>(List.mem_cons.mp c).elim (λe=>e▸g) λc=>List.mem_singleton.mp c▸h2
section
variable{H H':Hp}{k:Nat}{q:Pi}{d:Nat}{ρ:Loc}{f:Fi}{ft:Loc}
noncomputable def Dy(k:Nat):MV→Bool
 | .ref _ j=> !(j.beq k)
 |_=>true
theorem J1{H:Hp}{j k:Nat}(a:∃fs,H.o .aK j=.inst fs)(hk:∃fs,H.o .aK k=.inst fs):eR H .IsNot (bV j) (bV k) (!(j.beq k)):=by
 cases q:j.beq k with
 |true=>cases Nat.eq_of_beq_eq_true q;exact .N7 _ _
 |false=>exact .N9 (λ_ z=>by rw[z,Nat.beq_refl]at q;cases q) a hk
theorem AX{v:MV}{os:List Nat}(e:H.o .bI 0=.inst ft)(c:look fv ft=some v)(l:LstAt H v (os.map bV))(hl:os.length≤1000)(h:∃fs,H.o .aK k=.inst fs)(a:∀j∈os,∃fs,H.o .aK j=.inst fs):
  Ev d (eb (bE c9) [c9] (aq (aa ai) fv) [(aH .IsNot (aa c9) (aa aN))] (aa c9)) [(ai,jq),(aN,bV k)] H (.lst (((os.map bV).filter (Dy k)).map id)) H:=
 (Dx l).elim λi r=>fD (m:=(os.map bV).length) (fW rfl rfl) (eM (au (ae rfl) e rfl c) r.1) (r.2.2 _) (gn (g:=id) (λv b=>(List.mem_map.mp b).elim λj z=>z.2▸⟨_,gw,ec (aD (ae rfl) (ae rfl) (J1 (a j z.1) h)),λ_=>ae rfl⟩) r.2.1)
  (by rw[List.length_map];exact Nat.le_trans (List.length_filter_le ..) (by rw[List.length_map];exact hl))
theorem J2{d:Nat}{ρ:Loc}(a:H.o .aK k=.inst f.fs)(l:look aN ρ=some (bV k)):ik d (aH .Eq (aq (aa aN) cR) (eP kZ)) ρ H true H:=aD (au (ae l) a rfl rfl) (ey kx) (.eq (.ss _ _))
theorem zB{ρ:Loc}(c:H.o .aK k=.inst f.fs)(e:0<f.h)(l:look aN ρ=some (bV k)):eu d (bo (aH .Lt (aq (aa aN) dq) (av 1)) (xB [fM]) (xB [])) ρ H .next ρ H∧
  eu d (bo (dZ (aH .Eq (aq (aa aN) dq) (av 1)) [(aH .NotEq (aq (aa aN) cR) (eP kZ))]) (xB [bA (ao (aq (aa ai) dd) BH [])]) (xB [])) ρ H .next ρ H:=by
 refine⟨aU (aD (au (ae l) c rfl rfl) ar (decide_eq_false (λz:(f.h:Int)<1=>by omega)▸eR.lt _ _)) aw,?_⟩
 have a:ik d _ ρ H (decide ((f.h:Int)=1)) H:=aD (au (a:=dq) (ae l) c rfl rfl) ar (.eq (.ii _ 1))
 have b:ik d _ ρ H false H:=aD (au (a:=cR) (ae l) c rfl rfl) (ey kx) (.ne (.ss _ _))
 cases h:decide ((f.h:Int)=1)with
 |true=>rw[h]at a;exact aU (cy (b_ a (b3 b))) aw
 |false=>rw[h]at a;exact aU (cy (b3 a)) aw
theorem AY{n:Nat}(a:H.o .aK k=.inst f.fs)(b:f.h=n+2):Fn 3 475 [jq,bV k] H .none (H.set .aK k (.inst (Fi.fs {f with h:=n+1}))):=by
 have hd:=zB (d:=2) (ρ:=[(ai,jq),(aN,bV k)]) a (by omega) rfl
 refine aJ hE rfl (af hd.1 (af hd.2 (af (H1:=H.set .aK k (.inst (Fi.fs {f with h:=n+1}))) (dK (i6 (ae rfl) a rfl rfl ar (.sub _ _) a (ble rfl)) ?_) (az (cF (aD (au (ae rfl) Hp.bQ rfl rfl) ar (decide_eq_true (show(0:Int)<((n+1:Nat):Int) by omega)▸eR.gt _ _)) (az y6 rfl)) rfl)))) rfl
 have e:(f.h:Int)-1=((n+1:Nat):Int):=by omega
 exact congrArg (λi=>H.set .aK k (.inst (put dq (.int i) f.fs))) e
theorem AZ{v:MV}{os:List Nat}{t:Hp}(r:H.o .aK k=.inst f.fs)(x:f.h=1)(s:H.o .bI 0=.inst ft)(w:look fv ft=some v)(l:LstAt H v (os.map bV))(hl:os.length≤1000)(g:∀j∈os,j≠k→∃fs,H.o .aK j=.inst fs)(i:ft.length≤1000)(hp:look b9 (put fv (.lst (((os.map bV).filter (Dy k)).map id)) ft)=some Io)
  {pt:Loc}(n:H.o .cm 0=.inst pt)(m:look dz pt=none)(c:Fn 2 183 [Io,gm f.p,.int (k8 (!f.rd))] ((H.set .aK k (.inst (Fi.fs {f with h:=0}))).set .bI 0 (.inst (put fv (.lst (((os.map bV).filter (Dy k)).map id)) ft))) .none t):Fn 3 475 [jq,bV k] H .none t:=by
 have hd:=zB (d:=2) (ρ:=[(ai,jq),(aN,bV k)]) r (by omega) rfl
 have u:LstAt (H.set .aK k (.inst (Fi.fs {f with h:=0}))) v (os.map bV):=l.imp_right λl=>l.imp λj l=>⟨l.1,l.2⟩
 have b:=AX (d:=2) (H:=H.set .aK k (.inst (Fi.fs {f with h:=0}))) (k:=k) s w u hl ⟨_,Hp.bQ⟩ λj y=>(Decidable.em (j=k)).elim (λe=>e▸⟨_,Hp.bQ⟩) λe=>(g j y e).imp λfs h=>(Hp.b4 λz:Cl.aK=.aK∧j=k=>e z.2).trans h
 have a:((H.set .aK k (.inst (Fi.fs {f with h:=0}))).set .bI 0 (.inst (put fv (.lst (((os.map bV).filter (Dy k)).map id)) ft))).o .aK k=.inst (Fi.fs {f with h:=0}):=(Hp.b4 (by intro z;exact nomatch z.1)).trans Hp.bQ
 refine aJ (f:=.ret .none) hE rfl (af hd.1 (af hd.2 (af (H1:=H.set .aK k (.inst (Fi.fs {f with h:=0}))) (dK (i6 (ae rfl) r rfl rfl ar (.sub _ _) r (ble rfl)) ?_) (af (aU (aD (au (ae rfl) Hp.bQ rfl rfl) ar (.gt 0 0)) aw)
  (af (y9 b (d0 (ae rfl) s rfl i)) (az (cF (J2 a rfl) (af (bS (bU mL rfl (au (ae rfl) Hp.bQ rfl hp) n m (ag (au (ae rfl) a rfl rfl) (ag (bU px rfl (ae rfl) a rfl aj ((J0 a).up 1)) aj)) c) rfl rfl) (az y6 rfl))) rfl)))))) rfl
 rw[x];rfl
end
theorem ky:vb kp (.str bf):=ox λP=>by kernel_rfl
theorem sA:vb g_ (.str gI):=ox λP=>by kernel_rfl
noncomputable abbrev gF(k:Nat):MV:=.ref .Descriptors k
noncomputable def uZ(m j:Nat):Loc:=[(ea,.int m),(ei,.ref .L j)]
section
variable{H H':Hp}{k:Nat}{d:Nat}{ρ:Loc}{p:Pr}{tb:Loc}
theorem Ip{n m j:Nat}{sl:List MV}{v:MV}(e:H.o .Descriptors k=.inst (uZ m j))(h:H.o .L j=.list sl)(g:sl.length=m)(hl:m≤1000)(c:sl[n]? =some v)(f:isNone v=false):Fn 1 565 [gF k,.int n] H v H:=by
 have lt:n<m:=g▸(List.getElem?_eq_some_iff.mp c).1
 have it:∀{ρ},look ai ρ=some (gF k)→look a4 ρ=some (.int n)→Ev 0 (aI (aq (aa ai) ei) (aa a4)) ρ H v H:=λa b=>aW (au (ae a) e rfl rfl) (ae b) (.l (.inr ⟨j,rfl,h⟩) (cx c (by omega)))
 exact aJ m6 rfl (af (aU (gX (da (gv (b:=true) (Fu ar (ae rfl) (decide_eq_true (Int.natCast_nonneg n)▸eR.le _ _) (au (ae rfl) e rfl rfl) (decide_eq_true (Int.ofNat_lt.mpr lt)▸eR.lt _ _)))
  (da (aD (it rfl rfl) a3 (f▸eR.Ak v)) fB))) aw) (az (aY (it rfl rfl)) rfl)) rfl
theorem J3{n m j:Nat}{sl:List MV}{v:MV}(b:H.o .Descriptors k=.inst (uZ m j))(e:H.o .L j=.list sl)(c:sl.length=m)(hl:m≤1000)(a:sl[n]? =some v)(f:isNone v=false):Fn 2 572 [gF k,.int n] H v (H.set .L j (.list (sl.set n .none))):=
 aJ lH rfl (af (aG rfl (bU fG rfl (ae rfl) b rfl (ag (ae rfl) aj) (Ip b e c hl a f)) aA)
  (af (aG rfl a3 (gY (au (ae rfl) b rfl rfl) (ae rfl) (.l .none e (List.getElem?_eq_some_iff.mp a).1 (Nat.lt_of_lt_of_le (List.getElem?_eq_some_iff.mp a).1 (c▸Nat.le_trans hl (by decide)))))) (az (aY (ae rfl)) rfl))) rfl
theorem A0{s:Nm}{b:Bool}(h:s.c.beq bf.c=b):eR H .NotEq (.str s) (.str bf) (!b):=h▸ .ne (.ss _ _)
theorem uF{b:Bool}(a:H.o .Process k=.inst (p.fs k))(h:p.state.c.beq bf.c= !b):Fn 1 626 [br k] H (.bool b) H:=
 aJ lP rfl (az (aY (c6 (congrArg MV.bool (Bool.not_not b)) (fS (au (ae rfl) a rfl rfl) (ey ky) (A0 h)))) rfl) rfl
theorem wH(a:H.o .Process k=.inst (p.fs k)):Fn 1 742 [eU,br k] H (.tup [.str bB,.int p.pid]) H:=
 aJ lU rfl (az (aY (ct (ag a7 (ag (au (ae rfl) a rfl rfl) aj)) (ble rfl))) rfl) rfl
theorem zC{ch:MV}(c:H.o .Process k=.inst (p.fs k))(b:H.o .Table 0=.inst tb)(a:look cC tb=some .none):Fn 1 770 [eU,br k,ch] H .none (dT H k {p with state:=cY,fm:=ch}):=
 aJ rJ rfl (af (aG rfl (ey kb) (d0 (ae rfl) c rfl (ble rfl)))
  (af (aG rfl (ae rfl) (d0 (ae rfl) Hp.bQ rfl (ble rfl)))
  (nc (af (aU (aD (au (ae rfl) b rfl a) (ae rfl) (.LG _ _)) aw) aw) Hp.set_set))) rfl
noncomputable abbrev findB:List XS:=[bo (dZ (ao (aa ah) bP []) [(aH .Eq (aq (aa ah) dS) (aa dS))]) (xB [bt (aa ah)]) (xB [])]
noncomputable def o4(P:Nat→Pr)(i:Int)(j:Nat):Bool:= !((P j).state.c.beq bf.c)&&decide ((P j).pid=i)
theorem J4{P:Nat→Pr}{i:Int}{j:Nat}{x:MV}(e:H.o .Process j=.inst ((P j).fs j)):ik 1 (dZ (ao (aa ah) bP []) [(aH .Eq (aq (aa ah) dS) (aa dS))]) [(ai,x),(dS,.int i),(ah,br j)] H (o4 P i j) H:=by
 have b:=aD (op:=.Eq) (d:=1) (ρ:=[(ai,x),(dS,.int i),(ah,br j)]) (au (a:=dS) (ae (n:=ah) rfl) e rfl rfl) (ae (n:=dS) rfl) (.eq (.ii _ _))
 have a:∀{b},(P j).state.c.beq bf.c=(!b)→ik 1 (ao (aa ah) bP []) [(ai,x),(dS,.int i),(ah,br j)] H b H:=λh=>cL (bU e_ rfl (ae (n:=ah) rfl) e rfl aj (uF e h)) rfl
 unfold o4
 cases h:(P j).state.c.beq bf.c with
 |true=>exact cy (b3 (a h))
 |false=>exact cy (b_ (a h) (ec b))
theorem A1{P:Nat→Pr}{i:Int}{j:Nat}{x:MV}{ks:List Nat}(h:ks.find? (o4 P i)=some j)(a:∀k∈ks,H.o .Process k=.inst ((P k).fs k)):∃ρ,e9 1 (bE ah) findB ks.length (.nC (ks.map br)) [(ai,x),(dS,.int i)] H (.ret (br j)) ρ H:=by
 induction ks with
 |nil=>cases h
 |cons k ks ih=>
  rw[List.find?_cons]at h
  have t:=J4 (P:=P) (i:=i) (x:=x) (a k (List.mem_cons_self ..))
  cases q:o4 P i k with
  |true=>
   rw[q]at h t
   cases h
   exact⟨_,.ret (.s _ _) aA (az (cF t (az (aY (ae rfl)) rfl)) rfl)⟩
  |false=>
   rw[q]at h t
   exact(ih h λm b=>a m (List.mem_cons_of_mem _ b)).imp λρ D=>.step (.s _ _) aA (cV (ρ':=[(ai,x),(dS,.int i)]) (r:=[(ah,br k)]) (af (aU t aw) aw)) D
theorem yj{P:Nat→Pr}{i:Int}{j:Nat}{ks:List Nat}(a:H.o .Table 0=.inst tb)(hp:look dH tb=some (.lst (ks.map br)))(h:ks.find? (o4 P i)=some j)(b:∀k∈ks,H.o .Process k=.inst ((P k).fs k)):Fn 2 689 [eU,.int i] H (br j) H:=
 (A1 (x:=eU) h b).elim λρ D=>aJ ue rfl (az (dQ (eM (au (ae rfl) a rfl hp) (.s _)) rfl D) rfl) rfl
end
section
variable{H H':Hp}{k:Nat}{d:Nat}{ρ:Loc}{p:Pr}{tb fs:Loc}{c:Cl}{v:MV}{n a:Nm}
theorem qX{e:XE}(l:look n ρ=some (.ref c k))(b:e.cp=true)(h:Ev d e ρ (H.set c k (.inst fs)) v (H.set c k (.inst fs)))(hf:mr c a=true)(hl:fs.length≤1000):eu d (ay (cQ (aa n) a) e) ρ (H.set c k (.inst fs)) .next ρ (H.set c k (.inst (put a v fs))):=
 dK (aG b h (d0 (ae l) Hp.bQ hf hl)) Hp.set_set
theorem cu{e:XE}(l:look n ρ=some (.ref c (H.n c)))(b:e.cp=true)(h:Ev d e ρ (H.new c (.inst fs)) v (H.new c (.inst fs)))(hf:mr c a=true)(hl:fs.length≤1000):eu d (ay (cQ (aa n) a) e) ρ (H.new c (.inst fs)) .next ρ (H.new c (.inst (put a v fs))):=
 dK (aG b h (d0 (ae l) Hp.dN hf hl)) Hp.jf
noncomputable def qY:Pr:=⟨0,bf,.none,.none,fR,.none,false,0,0,.lst (List.replicate 32 (.int 0))⟩
theorem gK{e:XE}{p':Pr}(l:look n ρ=some (br k))(b:e.cp=true)(h:Ev d e ρ (dT H k p) v (dT H k p))(hf:mr .Process a=true)(hp:put a v (p.fs k)=p'.fs k):eu d (ay (cQ (aa n) a) e) ρ (dT H k p) .next ρ (dT H k p'):=
 dK (qX l b h hf (Nat.le_of_ble_eq_true rfl)) (congrArg (λfs=>H.set .Process k (.inst fs)) hp)
theorem A2(l:look ai ρ=some (br k)):gj d jn ρ (dT H k p) .next ρ (dT H k qY):=
 af (gK (p':=⟨0,p.state,p.parent,p.files,p.name,p.fm,p.c0,p.status,p.prog,p.pC⟩) l rfl ar rfl rfl) (
 af (gK (p':=⟨0,bf,p.parent,p.files,p.name,p.fm,p.c0,p.status,p.prog,p.pC⟩) l rfl (ey ky) rfl rfl) (
 af (gK (p':=⟨0,bf,.none,p.files,p.name,p.fm,p.c0,p.status,p.prog,p.pC⟩) l rfl a3 rfl rfl) (
 af (gK (p':=⟨0,bf,.none,p.files,p.name,p.fm,p.c0,p.status,p.prog,p.pC⟩) l rfl a3 rfl rfl) (
 af (gK (p':=⟨0,bf,.none,p.files,p.name,p.fm,p.c0,p.status,p.prog,.lst (List.replicate 32 (.int 0))⟩) l rfl (xG (e4 (ag ar aj) (ble rfl)) ar (.inl rfl) (by decide) (by decide)) rfl rfl) (
 af (gK (p':=⟨0,bf,.none,p.files,p.name,p.fm,p.c0,p.status,p.prog,.lst (List.replicate 32 (.int 0))⟩) l rfl ar rfl rfl) (
 af (gK (p':=⟨0,bf,.none,.none,p.name,p.fm,p.c0,p.status,p.prog,.lst (List.replicate 32 (.int 0))⟩) l rfl a3 rfl rfl) (
 af (gK (p':=⟨0,bf,.none,.none,p.name,p.fm,p.c0,p.status,p.prog,.lst (List.replicate 32 (.int 0))⟩) l rfl a3 rfl rfl) (
 af (gK (p':=⟨0,bf,.none,.none,fR,p.fm,p.c0,p.status,p.prog,.lst (List.replicate 32 (.int 0))⟩) l rfl a7 rfl rfl) (
 af (gK (p':=⟨0,bf,.none,.none,fR,.none,p.c0,p.status,p.prog,.lst (List.replicate 32 (.int 0))⟩) l rfl a3 rfl rfl) (
 af (gK (p':=⟨0,bf,.none,.none,fR,.none,false,p.status,p.prog,.lst (List.replicate 32 (.int 0))⟩) l rfl dV rfl rfl) (
 af (gK (p':=⟨0,bf,.none,.none,fR,.none,false,0,p.prog,.lst (List.replicate 32 (.int 0))⟩) l rfl ar rfl rfl) (
 af (gK (p':=⟨0,bf,.none,.none,fR,.none,false,0,p.prog,.lst (List.replicate 32 (.int 0))⟩) l rfl a3 rfl rfl) (
 af (gK (p':=⟨0,bf,.none,.none,fR,.none,false,0,0,.lst (List.replicate 32 (.int 0))⟩) l rfl ar rfl rfl) (
 af (gK (p':=⟨0,bf,.none,.none,fR,.none,false,0,0,.lst (List.replicate 32 (.int 0))⟩) l rfl a3 rfl rfl) (
 af (gK (p':=⟨0,bf,.none,.none,fR,.none,false,0,0,.lst (List.replicate 32 (.int 0))⟩) l rfl a3 rfl rfl) (
 af (gK (p':=⟨0,bf,.none,.none,fR,.none,false,0,0,.lst (List.replicate 32 (.int 0))⟩) l rfl a3 rfl rfl) (
 af (gK (p':=⟨0,bf,.none,.none,fR,.none,false,0,0,.lst (List.replicate 32 (.int 0))⟩) l rfl ar rfl rfl) (
 aw))))))))))))))))))
theorem zD{l:List XS}{f:Fl}{ρ':Loc}{H1:Hp}(e:H1=H)(h:gj d l ρ H1 f ρ' H'):gj d l ρ H f ρ' H':=e▸h
theorem zE(b:H.o .Process k=.inst (p.fs k)):Fn 1 619 [br k] H .none (dT H k qY):=
 aJ jo rfl (zD (Hp.kc b) (nc (A2 rfl) rfl)) rfl
end
noncomputable def sC(k:Nat):MV→Bool
 | .ref _ i=>i.beq k
 |_=>false
noncomputable def fc(P:Nat→Pr)(k j:Nat):Bool:= !((P j).state.c.beq bf.c)&&sC k (P j).parent
noncomputable def Dz(f:Nat→Bool):MV→Bool
 | .ref _ j=>f j
 |_=>false
theorem jg{f:Nat→Bool}{ks:List Nat}:((ks.map br).filter (Dz f)).map id=(ks.filter f).map br:=by
 rw[List.map_id,List.filter_map]
 rfl
section
variable{H H':Hp}{k:Nat}{d:Nat}{ρ:Loc}{p:Pr}{tb fs:Loc}{v:MV}{P:Nat→Pr}{ks:List Nat}
def Ps(H:Hp)(P:Nat→Pr)(ks:List Nat):Prop:=∀k∈ks,H.o .Process k=.inst ((P k).fs k)
theorem Gp{i:Nat}(a:v=.none∨∃j,v=br j∧∃fs,H.o .Process j=.inst fs)(hi:∃fs,H.o .Process i=.inst fs):eR H .Is v (br i) (sC i v):=
 a.elim (λe=>e▸ .LG _ _) λe=>e.elim λj e=>e.1▸(by
  show eR H .Is (br j) (br i) (j.beq i)
  cases q:j.beq i with
  |true=>cases Nat.eq_of_beq_eq_true q;exact .MX _ _
  |false=>exact .LH (λ_ z=>by rw[z,Nat.beq_refl]at q;cases q) e.2 hi)
theorem qZ(l:H.o .Table 0=.inst tb)(hp:look dH tb=some (.lst (ks.map br)))(hl:ks.length≤1000)(g:Ps H P ks)(hk:∃fs,H.o .Process k=.inst fs)(f:∀j∈ks,(P j).parent=.none∨∃i,(P j).parent=br i∧∃fs,H.o .Process i=.inst fs):Fn 2 699 [eU,br k] H (.lst ((ks.filter (fc P k)).map br)) H:=by
 have t:∀j∈ks,jS 1 .And [(dZ (ao (aa c9) bP []) [(aH .Is (aq (aa c9) bq) (aa ah))])] [(ai,eU),(ah,br k),(c9,br j)] H (fc P k j) H:=λj e=>ec (by
  have a:∀{b},(P j).state.c.beq bf.c=(!b)→ik 1 (ao (aa c9) bP []) [(ai,eU),(ah,br k),(c9,br j)] H b H:=λh=>cL (bU e_ rfl (ae (n:=c9) rfl) (g j e) rfl aj (uF (g j e) h)) rfl
  have b:=aD (op:=.Is) (d:=1) (ρ:=[(ai,eU),(ah,br k),(c9,br j)]) (au (a:=bq) (ae (n:=c9) rfl) (g j e) rfl rfl) (ae (n:=ah) rfl) (Gp (f j e) hk)
  unfold fc
  cases h:(P j).state.c.beq bf.c with
  |true=>exact cy (b3 (a h))
  |false=>exact cy (b_ (a h) (ec b)))
 have m:rA 1 (bE c9) [c9] [(dZ (ao (aa c9) bP []) [(aH .Is (aq (aa c9) bq) (aa ah))])] (aa c9) [(ai,eU),(ah,br k)] (ks.map br).length (.nC (ks.map br)) H (((ks.map br).filter (Dz (fc P k))).map id) H:=
  gn (λv f=>(List.mem_map.mp f).elim λj z=>z.2▸⟨_,gw,t j z.1,λ_=>ae rfl⟩) ng
 have c:=fD (i:=aq (aa ai) dH) (fW rfl rfl) (eM (au (ae rfl) l rfl hp) (.s _)) rfl m (by rw[jg,List.length_map];exact Nat.le_trans (List.length_filter_le ..) hl)
 exact aJ oj rfl (az (aY (c6 (congrArg MV.lst jg) c)) rfl) rfl
theorem J5{x:MV}(a:H.o .Process k=.inst (p.fs k)):Fn 2 756 [x,br k] H (.tup [.int p.pid,.int p.status]) (dT H k qY):=
 aJ uo rfl (af (aG rfl (ct (ag (au (ae rfl) a rfl rfl) (ag (au (ae rfl) a rfl rfl) aj)) (ble rfl)) aA)
  (af (aU (aD (au (ae rfl) a rfl rfl) a3 (.B7 _)) aw) (af (bS (bU gx rfl (ae rfl) a rfl aj (zE a)) rfl rfl) (az (aY (ae rfl)) rfl)))) rfl
noncomputable def nh(P:Nat→Pr)(j:Nat):Bool:=(P j).state.c.beq gI.c
noncomputable abbrev Iq:List XS:=[bo (aH .Eq (aq (aa bB) bR) (eP g_)) (xB [bt (ao (aa ai) vd [(aa bB)])]) (xB [])]
noncomputable abbrev q1(k:Nat)(cs:List Nat):Loc:=[(ai,eU),(ah,br k),(dX,.lst (cs.map br))]
theorem yk{j:Nat}{cs:List Nat}{b:Bool}(a:H.o .Process j=.inst ((P j).fs j))(h:nh P j=b):ik d (aH .Eq (aq (aa bB) bR) (eP g_)) (q1 k cs++[(bB,br j)]) H b H:=
 aD (au (ae rfl) a rfl rfl) (ey sA) (h▸eR.eq (.ss _ _))
theorem sD{cs a:List Nat}(b:Ps H P a)(h:∀j∈a,nh P j=false):e9 d (bE bB) Iq a.length (.nC (a.map br)) (q1 k cs) H .next (q1 k cs) H:=by
 induction a with
 |nil=>exact .stop .s
 |cons j a ih=>exact .step (.s _ _) aA (cV (ρ':=q1 k cs) (r:=[(bB,br j)]) (af (aU (yk (b j (List.mem_cons_self ..)) (h j (List.mem_cons_self ..))) aw) aw)) (ih (λi hi=>b i (List.mem_cons_of_mem _ hi)) λi hi=>h i (List.mem_cons_of_mem _ hi))
theorem A3{cs a:List Nat}{j:Nat}(e:H.o .Table 0=.inst tb)(c:look vd tb=none)(b:Ps H P a)(h:a.find? (nh P)=some j):∃ρ,e9 2 (bE bB) Iq a.length (.nC (a.map br)) (q1 k cs) H (.ret (.tup [.int (P j).pid,.int (P j).status])) ρ (dT H j qY):=by
 induction a with
 |nil=>cases h
 |cons i a ih=>
  rw[List.find?_cons]at h
  have hi:=b i (List.mem_cons_self ..)
  cases q:nh P i with
  |true=>
   rw[q]at h
   cases h
   exact⟨_,.ret (.s _ _) aA (az (cF (yk (cs:=cs) hi q) (az (aY (bU uq rfl (ae rfl) e c (ag (ae rfl) aj) (J5 hi))) rfl)) rfl)⟩
  |false=>
   rw[q]at h
   exact(ih (λi hi=>b i (List.mem_cons_of_mem _ hi)) h).imp λρ D=>.step (.s _ _) aA (cV (ρ':=q1 k cs) (r:=[(bB,br i)]) (af (aU (yk hi q) aw) aw)) D
variable(hT:H.o .Table 0=.inst tb)(hp:look dH tb=some (.lst (ks.map br)))(hl:ks.length≤1000)(hP:Ps H P ks)(hk:H.o .Process k=.inst (p.fs k))(hv:∀j∈ks,(P j).parent=.none∨∃i,(P j).parent=br i∧∃fs,H.o .Process i=.inst fs)(hc:look dX tb=none)
include hT hp hl hP hk hv hc
theorem oB:eu 2 (ay (bE dX) (ao (aa ai) dX [(aa ah)])) [(ai,eU),(ah,br k)] H .next (q1 k (ks.filter (fc P k))) H:=
 aG rfl (bU iK rfl (ae rfl) hT hc (ag (ae rfl) aj) (qZ hT hp hl hP ⟨_,hk⟩ hv)) aA
omit hT hp hl hk hv hc in
theorem yl{f:Nat→Bool}:Ps H P (ks.filter f):=λk h=>hP k (List.mem_filter.mp h).1
theorem Gq{j:Nat}(a:look vd tb=none)(h:(ks.filter (fc P k)).find? (nh P)=some j):Fn 3 763 [eU,br k] H (.tup [.int (P j).pid,.int (P j).status]) (dT H j qY):=
 (A3 (k:=k) (cs:=ks.filter (fc P k)) hT a (yl hP) h).elim λρ D=>aJ jc rfl (af (oB hT hp hl hP hk hv hc) (az (dQ (eM (ae rfl) (.s _)) rfl D) rfl)) rfl
theorem Gr(h:ks.filter (fc P k)=[]):x8 3 763 [eU,br k] H H:=
 tY jc rfl (gJ (oB hT hp hl hP hk hv hc) (gJ (dQ (eM (ae rfl) (.s _)) rfl (sD (yl hP) λj a=>by rw[h]at a;cases a))
  (mA (y7 (gX (my (aD (ae rfl) (e4 aj (ble rfl)) (h▸eR.eq (.ll [] [] (λ_=>true) (.inl rfl) (.inl rfl) rfl (λ_ _ _ q=>nomatch q)))))) (mA vM)))))
theorem Gs{c:Nat}{cs:List Nat}(h:ks.filter (fc P k)=c::cs)(e:∀j∈c::cs,nh P j=false)(a:p.c0=false)(g:look cC tb=some .none)(f:look lh tb=none)(i:look d7 tb=none):Fn 3 763 [eU,br k] H .none (dT H k {p with state:=cY,fm:=.tup [.str bB,.int p.pid]}):=by
 have hd:=oB hT hp hl hP hk hv hc
 have ps:Ps H P (ks.filter (fc P k)):=yl hP
 rw[h]at hd ps
 exact aJ jc rfl (af hd (af (dQ (eM (ae rfl) (.s _)) rfl (sD ps e))
  (af (aU (gX (da (aD (ae rfl) (e4 aj (ble rfl)) (.eq (.ln (br c::cs.map br) [] (.inl rfl) (.inl rfl) (λz=>nomatch z)))) (da (cL (au (ae rfl) hk rfl (congrArg (λb=>some (MV.bool b)) a)) rfl) fB))) aw)
  (af (bS (bU k5 rfl (ae rfl) hT f (ag (ae rfl) (ag (bU g0 rfl (ae rfl) hT i (ag (ae rfl) aj) ((wH hk).up 1)) aj)) ((zC hk hT g).up 1)) rfl rfl) (az (aY a3) rfl))))) rfl
end
section
variable{H H':Hp}{k:Nat}{d:Nat}{ρ:Loc}{p:Pr}{tb fs:Loc}{v:MV}{P:Nat→Pr}{ks:List Nat}
theorem L'(e:H.o .Table 0=.inst tb)(hp:look dH tb=some (.lst (ks.map br)))(hl:ks.length≤1000)(a:Ps H P ks):Fn 2 694 [eU] H (.lst ((ks.filter λj=> !((P j).state.c.beq bf.c)).map br)) H:=by
 have f:rA 1 (bE ah) [ah] [(ao (aa ah) bP [])] (aa ah) [(ai,eU)] (ks.map br).length (.nC (ks.map br)) H (((ks.map br).filter (Dz λj=> !((P j).state.c.beq bf.c))).map id) H:=
  gn (λv b=>(List.mem_map.mp b).elim λj z=>z.2▸⟨_,gw,ec (cL (bU e_ rfl (ae (n:=ah) rfl) (a j z.1) rfl aj (uF (a j z.1) (Bool.not_not _).symm)) rfl),λ_=>ae rfl⟩) ng
 have c:=fD (i:=aq (aa ai) dH) (fW rfl rfl) (eM (au (ae rfl) e rfl hp) (.s _)) rfl f (by rw[jg,List.length_map];exact Nat.le_trans (List.length_filter_le ..) hl)
 exact aJ v9 rfl (az (aY (c6 (congrArg MV.lst jg) c)) rfl) rfl
theorem J6{i:Int}{j:Nat}{b:Bool}(a:H.o .Table 0=.inst tb)(hp:look dH tb=some (.lst (ks.map br)))(l:look cC tb=some .none)(hf:look rY tb=none)(g:look aT tb=none)(h:ks.find? (o4 P i)=some j)(e:Ps H P ks)(hb:(P j).state.c.beq cY.c=b):
  Fn 3 784 [eU,.int i] H .none (dT H j (bif b then{P j with c0:=true,state:=aT,fm:=.none}else{P j with c0:=true})):=by
 have m:=e j (List.mem_of_find?_eq_some h)
 have t:ik 2 (aH .Eq (aq (aa ah) bR) (eP fQ)) [(ai,eU),(dS,.int i),(ah,br j)] (dT H j {P j with c0:=true}) b (dT H j {P j with c0:=true}):=aD (au (ae rfl) Hp.bQ rfl rfl) (ey kb) (sx hb)
 refine aJ (f:=.next) uv rfl (af (aG rfl (bU m8 rfl (ae rfl) a hf (ag (ae rfl) aj) (yj a hp h e)) aA) (af (aU (aD (ae rfl) a3 (.Ak _)) aw)
  (af (aG rfl dV (d0 (ae rfl) m rfl (ble rfl))) (af (ρ1:=[(ai,eU),(dS,.int i),(ah,br j)]) ?_ aw)))) rfl
 cases b with
 |false=>exact aU t aw
 |true=>exact dK (cF t (af (bS (bU fZ rfl (ae rfl) a g (ag (ae rfl) aj) ((pQ (p:={P j with c0:=true}) Hp.bQ a l).up 1)) rfl rfl) aw)) Hp.set_set
end
noncomputable abbrev xf:MV:=.ref .Parts 0
noncomputable abbrev c_:MV:=.ref .aM 0
structure pD(H:Hp)(pa tb ft:Loc):Prop where
 pc:H.o .aM 0=.inst [(bc,xf)]
 hp:H.o .Parts 0=.inst pa
 ht:H.o .Table 0=.inst tb
 hf:H.o .bI 0=.inst ft
 t:look bH pa=some eU
 f:look aZ pa=some jq
section
variable{H H' H1:Hp}{k:Nat}{d:Nat}{ρ:Loc}{p:Pr}{pa tb ft:Loc}{v:MV}{P:Nat→Pr}{ks:List Nat}
theorem pD.tab(K:pD H pa tb ft)(l:look ai ρ=some c_):Ev d (aq (aq (aa ai) bc) bH) ρ H eU H:=au (au (ae l) K.pc rfl rfl) K.hp rfl K.t
theorem pD.Ir(K:pD H pa tb ft)(l:look ai ρ=some c_):Ev d (aq (aq (aa ai) bc) aZ) ρ H jq H:=au (au (ae l) K.pc rfl rfl) K.hp rfl K.f
theorem wI{bs:List UInt8}:Fn 1 203 [.bytes bs] H (.bytes bs) H:=
 aJ vY rfl (af (aU (cL (Dh (ae rfl)) rfl) aw) (af (aU (gv (b:=true) (cL (Di (ae rfl)) rfl)) aw) (az (aY (dr mI (ag (ae rfl) aj) (.CD _))) rfl))) rfl
theorem sE{i:Int}{j:Nat}(K:pD H pa tb ft)(hf:look rY tb=none)(h:Fn 2 689 [eU,.int i] H (br j) H):Fn 3 246 [c_,.int i] H (br j) H:=
 aJ i_ rfl (af (aG rfl (bU m8 rfl (K.tab rfl) K.ht hf (ag (ae rfl) aj) h) aA) (af (aU (aD (ae rfl) a3 (.Ak _)) aw) (az (aY (ae rfl)) rfl))) rfl
theorem sF{ch:MV}(K:pD H pa tb ft)(e:look lh tb=none)(c:H.o .Process k=.inst (p.fs k))(a:p.c0=false)(f:look cC tb=some .none):Fn 2 253 [c_,br k,ch] H .none (dT H k {p with state:=cY,fm:=ch}):=
 aJ iG rfl (af (aU (cL (au (ae rfl) c rfl (congrArg (λb=>some (MV.bool b)) a)) rfl) aw)
  (af (bS (bU k5 rfl (K.tab rfl) K.ht e (ag (ae rfl) (ag (ae rfl) aj)) (zC c K.ht f)) rfl rfl) (az (aY a3) rfl))) rfl
theorem zF(K:pD H pa tb ft)(hw:look jL tb=none)(h:Fn 3 763 [eU,br k] H v H'):Fn 4 295 [c_,br k] H v H':=
 aJ gC rfl (az (aY (bU m9 rfl (K.tab rfl) K.ht hw (ag (ae rfl) aj) h)) rfl) rfl
theorem DA(K:pD H pa tb ft)(hw:look jL tb=none)(h:x8 3 763 [eU,br k] H H'):x8 4 295 [c_,br k] H H':=
 tY gC rfl (mA (FE (CV m9 rfl (K.tab rfl) K.ht hw (ag (ae rfl) aj) h)))
theorem Gu{i:Int}{j f:Nat}{pc:Loc}(K:pD H pa tb ft)(hf:look rY tb=none)(hk:look r1 tb=none)(g:look aC tb=some (br f))(a:j≠f)(e:∃fs,H.o .Process j=.inst fs)(b:∃fs,H.o .Process f=.inst fs){x:MV}
  (h:Fn 2 689 [eU,.int i] H (br j) H)(c:Fn 3 784 [eU,.int i] H .none H'):Fn 4 302 [c_,x,.int i] H (.int 0) H':=
 aJ kO rfl (af (aU (aD (bU fF rfl (ae rfl) K.pc rfl (ag (ae rfl) aj) (sE K hf h)) (au (K.tab rfl) K.ht rfl g) (.LH (λ_ z=>a z) e b)) aw)
  (af (bS (bU uw rfl (K.tab rfl) K.ht hk (ag (ae rfl) aj) c) rfl rfl) (az (aY ar) rfl))) rfl
theorem ym{f:Nat}{m:Fi}{q n:Pi}{a b:Int}{H1 H2 r:Hp}(K:pD H pa tb ft)(u:H.o .aK f=.inst m.fs)(i:look dz ft=none)(e:look dG tb=none)(c:Fn 3 475 [jq,bV f] H .none H1){l:Loc}(K1:pD H1 pa tb l)(h:H1.o .b8 m.p=.inst q.fs)
  (t:Fn 3 777 [eU,.tup [.str bC,.int q.id,.int 0]] H1 (.int a) H2){j:Loc}(K2:pD H2 pa tb j)(g:H2.o .b8 m.p=.inst n.fs)(s:Fn 3 777 [eU,.tup [.str bC,.int n.id,.int 1]] H2 (.int b) r):Fn 4 330 [c_,bV f] H .none r:=
 aJ (f:=.next) h9 rfl (af (aG rfl (au (ae rfl) u rfl rfl) aA) (af (bS (bU mZ rfl (K.Ir rfl) K.hf i (ag (ae rfl) aj) c) rfl rfl)
  (af (cF (aD (ae rfl) a3 (.B7 _)) (af (bS (bU fH rfl (K1.tab rfl) K1.ht e (ag (bU fE rfl (ae rfl) h rfl (ag (dg o2) aj) ((ku h).up 2)) aj) t) rfl rfl)
   (af (bS (bU fH rfl (K2.tab rfl) K2.ht e (ag (bU fE rfl (ae rfl) g rfl (ag (dg wF) aj) ((ku g).up 2)) aj) s) rfl rfl) aw))) aw))) rfl
theorem DB{n j m D:Nat}{f:Nat}{sl:List MV}{H1:Hp}(e:H.o .Process k=.inst (p.fs k))(a:p.files=gF D)(g:H.o .Descriptors D=.inst (uZ m j))(b:H.o .aM 0=.inst [(bc,xf)])(t:Fn 2 572 [gF D,.int n] H (bV f) (H.set .L j (.list sl)))(c:Fn 4 330 [c_,bV f] (H.set .L j (.list sl)) .none H1):Fn 5 323 [c_,br k,.int n] H (.int 0) H1:=
 aJ j7 rfl (af (aG rfl (bU lI rfl (au (ae rfl) e rfl (congrArg some a)) g rfl (ag (ae rfl) aj) (t.up 2)) aA)
  (af (bS (bU h_ rfl (ae rfl) b rfl (ag (ae rfl) aj) c) rfl rfl) (az (aY ar) rfl))) rfl
end
section
variable{H H' H1 H2:Hp}{k n f D:Nat}{d:Nat}{ρ:Loc}{p:Pr}{fi:Fi}{q:Pi}{pa tb ft df:Loc}{v:MV}{a:Int}
noncomputable abbrev La(q:Pi)(s:Int):MV:=.tup [.str bC,.int q.id,.int s]
theorem pT(i:H.o .Process k=.inst (p.fs k))(b:p.files=gF D)(j:H.o .Descriptors D=.inst df)(h:look kE df=none)(e:look ah ρ=some (br k))(c:look a4 ρ=some (.int n))(g:Fn 1 565 [gF D,.int n] H (bV f) H):Ev (d+1) (ao (aq (aa ah) aZ) kE [(aa a4)]) ρ H (bV f) H:=
 bU fG rfl (au (ae e) i rfl (congrArg some b)) j h (ag (ae c) aj) (Nat.add_comm 1 d▸g.up d)
theorem DC{m:Nat}{e:XE}(h:Ev m e ρ H v H')(j:Nat):Ev (m+j) e ρ H v H':=by
 induction j with
 |zero=>exact h
 |succ j ih=>exactλC p O=>ih C p O.less
theorem wJ{w:Bool}(K:pD H pa tb ft)(hw:look eY ft=none)(g:H.o .aK f=.inst fi.fs)(e:H.o .b8 fi.p=.inst q.fs)(c:look ai ρ=some c_)(b:look aN ρ=some (bV f)):Ev 2 (ao (aq (aq (aa ai) bc) aZ) eY [(aa aN),(cw w)]) ρ H (La q (k8 w)) H:=
 bU jD rfl (K.Ir c) K.hf hw (ag (ae b) (ag dV aj)) (yi g e)
theorem uG{s:Nm}{i:Int}(j:vb s (.int i))(K:pD H pa tb ft)(b:look dG tb=none)(g:H.o .aK f=.inst fi.fs)(e:H.o .b8 fi.p=.inst q.fs)(h:look ai ρ=some c_)(c:look aN ρ=some (bV f))(w:Fn 3 777 [eU,La q i] H (.int a) H'):
  eu 4 (bo (aH .IsNot (aq (aa aN) bC) bj) (xB [bA (ao (aq (aq (aa ai) bc) bH) dG [(ao (aq (aa aN) bC) bM [(eP s)])])]) (xB [])) ρ H .next ρ H':=
 cF (aD (au (ae c) g rfl rfl) a3 (.B7 _)) (af (bS (bU fH rfl (K.tab h) K.ht b (ag (bU fE rfl (au (ae c) g rfl rfl) e rfl (ag (dg j) aj) ((ku e).up 3)) aj) (w.up 1)) rfl rfl) aw)
theorem DD{c:Nat}{x:MV}(K:pD H pa tb ft)(i:H.o .Process k=.inst (p.fs k))(b:p.files=gF D)(e:p.c0=false)(u:H.o .Descriptors D=.inst df)(m:look kE df=none)(l:look cC tb=some .none)(j:look lh tb=none)(h:look jk ft=none)(hw:look eY ft=none)
  (t:H.o .aK f=.inst fi.fs)(s:H.o .b8 fi.p=.inst q.fs)(g:Fn 1 565 [gF D,.int n] H (bV f) H)(r:Fn 4 489 [jq,bV f,.int c] H (.tup [x,.int 1]) H):Fn 5 358 [c_,br k,.int n,.int c] H .none (dT H k {p with state:=cY,fm:=La q 0}):=
 aJ gE rfl (af (aU (aD (ae rfl) ar (decide_eq_false (λz:(c:Int)<0=>by omega)▸eR.lt _ _)) aw) (af (aG rfl (pT i b u m rfl rfl g) aA)
  (af (aG rfl (bU iH rfl (K.Ir rfl) K.hf h (ag (ae rfl) (ag (ae rfl) aj)) r) (eL (bw aA (bw aA dA)) rfl))
  (az (cF (aD (ae rfl) (dg g4) (.eq (.ii 1 1))) (az (aY (bU fg rfl (ae rfl) K.pc rfl (ag (ae rfl) (ag (DC (wJ (w:=false) K hw t s rfl rfl) 2) aj)) ((sF K j i e l).up 2))) rfl)) rfl)))) rfl
theorem DE{c:Nat}{x:MV}{i:Loc}(K:pD H pa tb ft)(m:H.o .Process k=.inst (p.fs k))(e:p.files=gF D)(t:H.o .Descriptors D=.inst df)(j:look kE df=none)(h:look jk ft=none)(b:look dG tb=none)
  (g:Fn 1 565 [gF D,.int n] H (bV f) H)(r:Fn 4 489 [jq,bV f,.int c] H (.tup [x,.int 0]) H1)(K1:pD H1 pa tb i)(s:H1.o .aK f=.inst fi.fs)(l:H1.o .b8 fi.p=.inst q.fs)(w:Fn 3 777 [eU,La q 1] H1 (.int a) H2):Fn 5 358 [c_,br k,.int n,.int c] H x H2:=
 aJ gE rfl (af (aU (aD (ae rfl) ar (decide_eq_false (λz:(c:Int)<0=>by omega)▸eR.lt _ _)) aw) (af (aG rfl (pT m e t j rfl rfl g) aA)
  (af (aG rfl (bU iH rfl (K.Ir rfl) K.hf h (ag (ae rfl) (ag (ae rfl) aj)) r) (eL (bw aA (bw aA dA)) rfl))
  (af (aU (aD (ae rfl) (dg g4) (.eq (.ii 0 1))) aw) (af (uG wF K1 b s l rfl rfl w) (az (aY (ae rfl)) rfl)))))) rfl
end
section
variable{H H' H1 H2:Hp}{k n f D:Nat}{d:Nat}{ρ:Loc}{p:Pr}{fi:Fi}{q:Pi}{pa tb ft OP MG df:Loc}{v:MV}{a:Int}{bs:List UInt8}{dn cnt:Nat}{st:Int}
variable(K:pD H pa tb ft)(hP:H.o .Process k=.inst (p.fs k))(Lb:p.files=gF D)(Lc:p.prog=dn)(hD:H.o .Descriptors D=.inst df)(hg:look kE df=none)(Ld:look eN ft=none)(Le:look dG tb=none)(hb:bs.length≤1000)
 (g:Fn 1 565 [gF D,.int n] H (bV f) H)(r:Fn 4 503 [jq,bV f,.bytes (bs.drop dn)] H (.tup [.int cnt,.int st]) H1)(K1:pD H1 pa tb OP)(hF:H1.o .aK f=.inst fi.fs)(hQ:H1.o .b8 fi.p=.inst q.fs)(w:Fn 3 777 [eU,La q 0] H1 (.int a) H2)
include K hP Lb Lc hD hg Ld Le hb g r K1 hF hQ w
noncomputable abbrev Of(k n f:Nat)(bs:List UInt8)(dn cnt:Nat)(st:Int):Loc:=[(ai,c_),(ah,br k),(a4,.int n),(bl,.bytes bs),(aN,bV f),(iv,.int dn),(cD,.int cnt),(bR,.int st)]
theorem w_head{l:List XS}{ρ':Loc}{fl:Fl}(rest:gj 4 l (Of k n f bs dn cnt st) H2 fl ρ' H'):gj 4 (ay (bE bl) (ak iV [(aa bl)])::ay (bE aN) (ao (aq (aa ah) aZ) kE [(aa a4)])::ay (bE iv) (aq (aa ah) di)::
  ay (et ([cD,bR].map bE)) (ao (aq (aq (aa ai) bc) aZ) eN [(aa aN),(qr (aa bl) (aa iv))])::
  bo (aH .IsNot (aq (aa aN) bC) bj) (xB [bA (ao (aq (aq (aa ai) bc) bH) dG [(ao (aq (aa aN) bC) bM [(eP cH)])])]) (xB [])::l) [(ai,c_),(ah,br k),(a4,.int n),(bl,.bytes bs)] H fl ρ' H':=
 af (aG rfl (dt oX (ag (ae rfl) aj) (wI.up 3)) aA) (af (aG rfl (pT hP Lb hD hg rfl rfl g) aA) (af (aG rfl (au (ae rfl) hP rfl (congrArg (λi=>some (MV.int i)) Lc)) aA)
  (af (aG rfl (bU hG rfl (K.Ir rfl) K.hf Ld (ag (ae rfl) (ag (qs (ae rfl) (ae rfl) (Nat.le_trans hb (by decide))) aj)) r) (eL (bw aA (bw aA dA)) rfl)) (af (uG o2 K1 Le hF hQ rfl rfl w) rest))))
theorem Gv{l:List XS}{ρ':Loc}(rest:vo 4 l (Of k n f bs dn cnt st) H2 ρ' H'):vo 4 (ay (bE bl) (ak iV [(aa bl)])::ay (bE aN) (ao (aq (aa ah) aZ) kE [(aa a4)])::ay (bE iv) (aq (aa ah) di)::
  ay (et ([cD,bR].map bE)) (ao (aq (aq (aa ai) bc) aZ) eN [(aa aN),(qr (aa bl) (aa iv))])::
  bo (aH .IsNot (aq (aa aN) bC) bj) (xB [bA (ao (aq (aq (aa ai) bc) bH) dG [(ao (aq (aa aN) bC) bM [(eP cH)])])]) (xB [])::l) [(ai,c_),(ah,br k),(a4,.int n),(bl,.bytes bs)] H ρ' H':=
 gJ (aG rfl (dt oX (ag (ae rfl) aj) (wI.up 3)) aA) (gJ (aG rfl (pT hP Lb hD hg rfl rfl g) aA) (gJ (aG rfl (au (ae rfl) hP rfl (congrArg (λi=>some (MV.int i)) Lc)) aA)
  (gJ (aG rfl (bU hG rfl (K.Ir rfl) K.hf Ld (ag (ae rfl) (ag (qs (ae rfl) (ae rfl) (Nat.le_trans hb (by decide))) aj)) r) (eL (bw aA (bw aA dA)) rfl)) (gJ (uG o2 K1 Le hF hQ rfl rfl w) rest))))
theorem A4(b:st=0)(c:H2.o .Process k=.inst (p.fs k))(e:dn+cnt=bs.length):Fn 5 365 [c_,br k,.int n,.bytes bs] H (.int bs.length) (dT H2 k {p with prog:=0}):=by
 subst b
 exact aJ eE rfl (w_head K hP Lb Lc hD hg Ld Le hb g r K1 hF hQ w (af (aU (aD (ae rfl) (dg g4) (.eq (.ii 0 1))) aw) (af (aG rfl ar (d0 (ae rfl) c rfl (ble rfl)))
  (af (aU (gX (da (aD (ae rfl) (dg oz) (.eq (.ii 0 2))) (da (aD (a8 (ae rfl) (ae rfl) (.add _ _)) (dr eB (ag (ae rfl) aj) (.AF (Nat.le_trans hb (by decide)))) (decide_eq_false (λz:(dn:Int)+cnt<bs.length=>by omega)▸eR.lt _ _)) fB))) aw)
   (az (aY (dr eB (ag (ae rfl) aj) (.AF (Nat.le_trans hb (by decide))))) rfl))))) rfl
theorem A5(b:st=1)(h:H2.o .Process k=.inst (p.fs k))(c:p.c0=false){MG:Loc}{j:Pi}(K2:pD H2 pa tb MG)(i:H2.o .aK f=.inst fi.fs)(e:H2.o .b8 fi.p=.inst j.fs)(m:look cC tb=some .none)(l:look lh tb=none)(hw:look eY MG=none):Fn 5 365 [c_,br k,.int n,.bytes bs] H .none (dT H2 k {p with prog:=(dn:Int)+cnt,state:=cY,fm:=La j 1}):=by
 subst b
 have K3:pD (dT H2 k {p with prog:=(dn:Int)+cnt}) pa tb MG:=⟨K2.pc,K2.hp,K2.ht,K2.hf,K2.t,K2.f⟩
 exact aJ eE rfl (w_head K hP Lb Lc hD hg Ld Le hb g r K1 hF hQ w (az (cF (aD (ae rfl) (dg g4) (.eq (.ii 1 1))) (af (aG rfl (a8 (ae rfl) (ae rfl) (.add _ _)) (d0 (ae rfl) h rfl (ble rfl)))
  (nc (az (aY (bU fg rfl (ae rfl) K3.pc rfl (ag (ae rfl) (ag (DC (wJ (w:=true) K3 hw i e rfl rfl) 2) aj)) ((sF (p:={p with prog:=(dn:Int)+cnt}) K3 l Hp.bQ c m).up 2))) rfl) Hp.set_set))) rfl)) rfl
theorem A6(b:st=2)(c:H2.o .Process k=.inst (p.fs k)):x8 5 365 [c_,br k,.int n,.bytes bs] H (dT H2 k {p with prog:=0}):=by
 subst b
 exact tY eE rfl (Gv K hP Lb Lc hD hg Ld Le hb g r K1 hF hQ w (gJ (aU (aD (ae rfl) (dg g4) (.eq (.ii 2 1))) aw) (gJ (aG rfl ar (d0 (ae rfl) c rfl (ble rfl)))
  (mA (y7 (gX (my (aD (ae rfl) (dg oz) (.eq (.ii 2 2))))) (mA vM))))))
end
section
variable{H H' H1 H2:Hp}{k n f D:Nat}{d:Nat}{ρ:Loc}{p:Pr}{pa tb ft df:Loc}{v:MV}{a:Int}{P:Nat→Pr}
noncomputable abbrev Nq:List XS:=[ay (cQ (aa bB) bq) (aq (aa ai) aC),
  bo (aH .Eq (aq (aa bB) bR) (eP g_)) (xB [bA (ao (aa ai) dG [(ao (aa ai) d7 [(aq (aa ai) aC)])])]) (xB [])]
theorem wK(g:H.o .Table 0=.inst tb)(e:look dX tb=none)(c:Fn 2 699 [eU,br k] H (.lst []) H):Fn 3 735 [eU,br k] H .none H:=
 aJ oo rfl (af (dQ (m:=0) (b:=Nq) (eM (bU iK rfl (ae rfl) g e (ag (ae rfl) aj) c) (.s _)) rfl (.stop .s)) aw) rfl
theorem J7{fst u:Nat}{st:Int}{pr:Pr}(c:H.o .Table 0=.inst tb)(hf:look aC tb=some (br fst))(s:look cC tb=some .none)(h:look nN tb=none)(g:look dG tb=none)(j:look d7 tb=none)(i:k≠fst)(m:H.o .Process k=.inst (p.fs k))(x:∃fs,H.o .Process fst=.inst fs)
  (b:p.parent=br u)(r:u≠k)(t:H.o .Process u=.inst (pr.fs u))(q:Fn 3 735 [eU,br k] H .none H)(w:Fn 3 777 [eU,.tup [.str bB,.int pr.pid]] (dT H k {p with state:=gI,fm:=.none,status:=st}) (.int a) H'):Fn 4 749 [eU,br k,.int st] H .none H':=by
 have l:(dT H k {p with state:=gI,fm:=.none,status:=st}).o .Process u=.inst (pr.fs u):=(Hp.b4 λz:Cl.Process=.Process∧u=k=>r z.2).trans t
 have e:H.set .Process k (.inst (p.fs k))=H:=Hp.kc m
 have core:gj 3 [ay (cQ (aa ah) bR) (eP g_),ay (cQ (aa ah) bM) bj,ay (cQ (aa ah) eG) (aa eG),bo (aH .Is (aq (aa ai) cC) (aa ah)) (xB [ay (cQ (aa ai) cC) bj]) (xB []),
   bo (aH .IsNot (aq (aa ah) bq) bj) (xB [bA (ao (aa ai) dG [(ao (aa ai) d7 [(aq (aa ah) bq)])])]) (xB [])] [(ai,eU),(ah,br k),(eG,.int st)] (dT H k p) .next [(ai,eU),(ah,br k),(eG,.int st)] H':=
  af (gK (p':={p with state:=gI}) rfl rfl (ey sA) rfl rfl) (af (gK (p':={p with state:=gI,fm:=.none}) rfl rfl a3 rfl rfl) (af (gK (p':={p with state:=gI,fm:=.none,status:=st}) rfl rfl (ae rfl) rfl rfl)
   (af (aU (aD (au (ae rfl) c rfl s) (ae rfl) (.LG _ _)) aw)
   (af (cF (aD (au (ae rfl) Hp.bQ rfl (congrArg some b)) a3 (.B7 _)) (af (bS (bU fH rfl (ae rfl) c g (ag (bU g0 rfl (ae rfl) c j (ag (au (ae rfl) Hp.bQ rfl (congrArg some b)) aj) ((wH l).up 2)) aj) w) rfl rfl) aw)) aw))))
 exact aJ (f:=.next) uj rfl (af (aU (aD (ae rfl) (au (ae rfl) c rfl hf) (.LH (λ_ z=>i z) ⟨_,m⟩ x)) aw) (af (bS (bU oq rfl (ae rfl) c h (ag (ae rfl) aj) q) rfl rfl) (zD e core))) rfl
theorem Gw{fst:Nat}{st:Int}{b:Loc}(K:pD H pa tb ft)(hf:look aC tb=some (br fst))(h:look vc tb=none)(c:k≠fst)(i:H.o .Process k=.inst (p.fs k))(j:∃fs,H.o .Process fst=.inst fs)(g:Fn 6 281 [c_,br k] H .none H1)(K1:pD H1 pa tb b)(e:H1.o .Process k=.inst (p.fs k))
  (x:Fn 4 749 [eU,br k,.int st] (dT H1 k {p with prog:=0}) .none H2):Fn 7 288 [c_,br k,.int st] H (.int 0) H2:=by
 have K2:pD (dT H1 k {p with prog:=0}) pa tb b:=⟨K1.pc,K1.hp,K1.ht,K1.hf,K1.t,K1.f⟩
 exact aJ kK rfl (af (aU (aD (ae rfl) (au (K.tab rfl) K.ht rfl hf) (.LH (λ_ z=>c z) ⟨_,i⟩ j)) aw) (af (bS (bU jv rfl (ae rfl) K.pc rfl (ag (ae rfl) aj) g) rfl rfl)
  (af (aG rfl ar (d0 (ae rfl) e rfl (ble rfl))) (af (bS (bU uk rfl (K2.tab rfl) K2.ht h (ag (ae rfl) (ag (ae rfl) aj)) (x.up 2)) rfl rfl) (az (aY ar) rfl))))) rfl
end
noncomputable def J8(p:MV×Nat):MV:=.tup [.int p.2,p.1]
noncomputable def Ma:MV→Bool
 | .tup (_::v::_)=> !isNone v
 |_=>false
noncomputable def filesOf(sl:List MV):List MV:=((sl.zipIdx 0).map J8).filter Ma
section
variable{H H' H1 H2:Hp}{k n f D m j:Nat}{d:Nat}{ρ:Loc}{p:Pr}{pa tb ft df:Loc}{v:MV}{sl:List MV}
theorem J9{a b c:Nm}{ρ:Loc}(i:look a ρ=none)(h2:look b ρ=none)(h:look c ρ=none):∀n∈[a,b,c],look n ρ=none:=λn g=>(List.mem_cons.mp g).elim (λe=>e▸i) λg=>fW h2 h n g
theorem q2(e:H.o .Descriptors D=.inst (uZ m j))(a:H.o .L j=.list sl)(hl:sl.length≤1000):Fn 1 577 [gF D] H (.lst (filesOf sl)) H:=by
 have g:rA 0 (et ([a4,aN].map bE)) [a4,aN] [(aH .IsNot (aa aN) bj)] (cS [(aa a4),(aa aN)]) [(ai,gF D)] ((sl.zipIdx 0).map J8).length (.enum j 0) H ((((sl.zipIdx 0).map J8).filter Ma).map id) H:=
  gn (λv b=>(List.mem_map.mp b).elim λq z=>z.2▸⟨_,LR rfl,ec (aD (ae rfl) a3 (.B7 _)),λ_=>ct (ag (ae rfl) (ag (ae rfl) aj)) (ble rfl)⟩) (AW a rfl)
 have c:=fD (i:=ak lq [(aq (aa ai) ei)]) (J9 rfl rfl rfl) (FN t9 (ag (au (ae rfl) e rfl rfl) aj) a) rfl g (by rw[List.map_id];exact Nat.le_trans (List.length_filter_le ..) (by rw[List.length_map,List.length_zipIdx];exact hl))
 exact aJ iJ rfl (az (aY (c6 (congrArg MV.lst (List.map_id _)) c)) rfl) rfl
def yn(k:Nat):List MV→Hp→Hp→Prop
 |[],H,H'=>H=H'
 |v::r,H,H'=>∃(n:Int)(u:MV)(H1:Hp),v=.tup [.int n,u]∧(H.o .aM 0=.inst [(bc,xf)])∧Fn 5 323 [c_,br k,.int n] H (.int 0) H1∧yn k r H1 H'
noncomputable abbrev OQ:List XS:=[bA (ao (aa ai) dz [(aa ah),(aa a4)])]
theorem Gx{vs:List MV}:∀{H:Hp},yn k vs H H'→e9 5 (et ([a4,aN].map bE)) OQ vs.length (.nC vs) [(ai,c_),(ah,br k)] H .next [(ai,c_),(ah,br k)] H':=by
 induction vs with
 |nil=>exactλh=>kv h (.stop .s)
 |cons v vs ih=>
  intro H h
  obtain⟨n,u,H1,rfl,a,c,h⟩:=h
  exact .step (.s _ _) (eL (bw aA (bw aA dA)) rfl) (cV (ρ':=[(ai,c_),(ah,br k)]) (r:=[(a4,.int n),(aN,u)]) (af (bS (bU eD rfl (ae rfl) a rfl (ag (ae rfl) (ag (ae rfl) aj)) c) rfl rfl) aw)) (ih h)
theorem Gy(c:H.o .Process k=.inst (p.fs k))(a:p.files=gF D)(e:H.o .Descriptors D=.inst (uZ m j))(g:H.o .L j=.list sl)(hl:sl.length≤1000)(h:yn k (filesOf sl) H H')(b:H'.o .Process k=.inst (p.fs k)):Fn 6 281 [c_,br k] H .none H':=
 aJ (f:=.next) ju rfl (af (cF (aD (au (ae rfl) c rfl (congrArg some a)) a3 (.B7 _)) (af (dQ (eM (bU fh rfl (au (ae rfl) c rfl (congrArg some a)) e rfl aj ((q2 e g hl).up 4)) (.s _)) rfl (Gx h)) aw))
  (af (aU (aD (au (ae rfl) b rfl rfl) a3 (.B7 _)) aw) aw)) rfl
end
section
variable{H H':Hp}{k:Nat}{d:Nat}{ρ:Loc}{fs:Loc}{c c':Cl}{v v':MV}{o:MO}{n a:Nm}
theorem Hp.ni{u:MO}(b:c≠c'):(H.new c' o).set c k u=(H.set c k u).new c' o:=congrArg (Hp.mk · (H.new c' o).n) (funext λx=>funext λy=>by
 show(if x=c∧y=k then u else if x=c'∧y=H.n c' then o else H.o x y)=if x=c'∧y=H.n c' then o else if x=c∧y=k then u else H.o x y
 by_cases h:x=c∧y=k
 ·rw[if_pos h,if_neg λz=>b (h.1.symm.trans z.1),if_pos h]
 ·rw[if_neg h,if_neg h])
theorem nj{e:XE}(l:look n ρ=some (.ref c (H.n c)))(f:e.cp=true)(h:Ev d e ρ (H.new c (.inst fs)) v ((H.new c (.inst fs)).new c' o))(b:c≠c')(hf:mr c a=true)(hl:fs.length≤1000):eu d (ay (cQ (aa n) a) e) ρ (H.new c (.inst fs)) .next ρ ((H.new c (.inst (put a v fs))).new c' o):=
 dK (aG f h (d0 (ae l) ((Hp.eh λz=>b z.1).trans Hp.dN) hf hl)) ((Hp.ni b).trans (congrArg (Hp.new · c' o) Hp.jf))
theorem nk{e:XE}(l:look n ρ=some (.ref c (H.n c)))(f:e.cp=true)(h:Ev d e ρ ((H.new c (.inst fs)).new c' o) v ((H.new c (.inst fs)).new c' o))(b:c≠c')(hf:mr c a=true)(hl:fs.length≤1000):eu d (ay (cQ (aa n) a) e) ρ ((H.new c (.inst fs)).new c' o) .next ρ ((H.new c (.inst (put a v fs))).new c' o):=
 dK (aG f h (d0 (ae l) ((Hp.eh λz=>b z.1).trans Hp.dN) hf hl)) ((Hp.ni b).trans (congrArg (Hp.new · c' o) Hp.jf))
theorem yo{b:Bool}:Fn 1 386 [.ref .aK (H.n .aK),.str bC,.bool b,.bool (!b)] (H.new .aK (.inst [])) .none (H.new .aK (.inst [(cR,.str bC),(cG,.bool b),(ee,.bool (!b)),(dq,.int 1),(dO,.int 0),(bC,.none),(qf,.none),(qi,.int 0)])):=
 aJ kV rfl (af (cu rfl rfl (ae rfl) rfl (ble rfl)) (af (cu rfl rfl (ae rfl) rfl (ble rfl)) (af (cu rfl rfl (ae rfl) rfl (ble rfl)) (af (cu rfl rfl ar rfl (ble rfl)) (af (cu rfl rfl ar rfl (ble rfl)) (af (cu rfl rfl a3 rfl (ble rfl)) (af (cu rfl rfl a3 rfl (ble rfl)) (af (cu rfl rfl ar rfl (ble rfl)) aw)))))))) rfl
theorem wL{R:Nat}:Fn 1 169 [.ref .cm (H.n .cm),.int R] (H.new .cm (.inst [])) .none ((H.new .cm (.inst [(dc,.int R),(qc,.int 0),(b9,.ref .D (H.n .D))])).new .D (.dy [])):=
 aJ j5 rfl (af (cu rfl rfl (ae rfl) rfl (ble rfl)) (af (cu rfl rfl ar rfl (ble rfl)) (af (nj rfl rfl qN (by decide) rfl (ble rfl)) aw))) rfl
theorem q3:Fn 1 239 [.ref .aM (H.n .aM),v] (H.new .aM (.inst [])) .none (H.new .aM (.inst [(bc,v)])):=
 aJ iE rfl (af (cu rfl rfl (ae rfl) rfl (ble rfl)) aw) rfl
theorem J_{i R:Nat}(b:1≤R)(h2:R≤1000):Fn 1 105 [gm (H.n .b8),.int i,.int R] (H.new .b8 (.inst [])) .none ((H.new .b8 (.inst (Pi.fs ⟨i,R,H.n .B,0,0,true,true⟩))).new .B (.dD (List.replicate R 0))):=
 aJ pj rfl (af (aU (aD (ae rfl) ar (decide_eq_false (λz:(R:Int)<1=>by omega)▸eR.lt _ _)) aw) (af (cu rfl rfl (ae rfl) rfl (ble rfl)) (af (cu rfl rfl (ae rfl) rfl (ble rfl))
  (af (nj rfl rfl (CL Dd (ag (ae rfl) aj) (.Oc h2)) (by decide) rfl (ble rfl)) (af (nk rfl rfl ar (by decide) rfl (ble rfl)) (af (nk rfl rfl ar (by decide) rfl (ble rfl)) (af (nk rfl rfl dV (by decide) rfl (ble rfl)) (af (nk rfl rfl dV (by decide) rfl (ble rfl)) aw)))))))) rfl
theorem k9{m:Nat}(b:1≤m)(h2:m≤1000):Fn 1 546 [gF (H.n .Descriptors),.int m] (H.new .Descriptors (.inst [])) .none ((H.new .Descriptors (.inst (uZ m (H.n .L)))).new .L (.list (List.replicate m .none))):=
 aJ jb rfl (af (aU (aD (ae rfl) ar (decide_eq_false (λz:(m:Int)<1=>by omega)▸eR.lt _ _)) aw) (af (cu rfl rfl (ae rfl) rfl (ble rfl)) (af (nj rfl rfl (Fp (e4 (ag a3 aj) (ble rfl)) (ae rfl) (.inl rfl) (Int.natCast_nonneg m) (by omega)) (by decide) rfl (ble rfl)) aw))) rfl
end
section
variable{H H':Hp}{k:Nat}{d:Nat}{ρ:Loc}{fs ft:Loc}{v v1 v2 v3:MV}{n a:Nm}
theorem Gz(e c b:Value):bindL ([ai,bH,aZ,eX,jK,dd,dp].map Nm.str) [e,c,b] [.none,.none,.none,.none]=some (([ai,bH,aZ,eX,jK,dd,dp].map Nm.str).zip [e,c,b,.none,.none,.none,.none]):=by kernel_rfl
theorem GA:Fn 1 218 [.ref .Parts (H.n .Parts),v1,v2] (H.new .Parts (.inst [])) .none ((H.new .Parts (.inst [(bH,v1),(aZ,v2),(eX,.none),(jK,.none),(dd,.none),(dp,.ref .D (H.n .D)),(ti,.int 0)])).new .D (.dy [])):=
 FV n' Gz (af (cu rfl rfl (ae rfl) rfl (ble rfl)) (af (cu rfl rfl (ae rfl) rfl (ble rfl)) (af (cu rfl rfl (ae rfl) rfl (ble rfl)) (af (cu rfl rfl (ae rfl) rfl (ble rfl)) (af (cu rfl rfl (ae rfl) rfl (ble rfl))
  (af (nj rfl rfl (hV (aD (ae rfl) a3 (.Ak _)) qN) (by decide) rfl (ble rfl)) (af (nk rfl rfl ar (by decide) rfl (ble rfl)) aw))))))) rfl
theorem wM{m:Nat}(b:1≤m):Fn 1 421 [.ref .bI (H.n .bI),.int m,v1,.none,.none,v2,.int 16] (H.new .bI (.inst [])) .none ((H.new .bI (.inst [(ea,.int m),(b9,v1),(eX,.none),(dd,.none),(dp,v2),(lp,.int 16),(fv,.ref .L (H.n .L))])).new .L (.list [])):=
 aJ j_ rfl (af (aU (gX (da (aD (ae rfl) ar (decide_eq_false (λz:(m:Int)<1=>by omega)▸eR.lt _ _)) (da (aD (ae rfl) ar (.lt 16 1)) fB))) aw)
  (af (cu rfl rfl (ae rfl) rfl (ble rfl)) (af (cu rfl rfl (ae rfl) rfl (ble rfl)) (af (cu rfl rfl (ae rfl) rfl (ble rfl)) (af (cu rfl rfl (ae rfl) rfl (ble rfl)) (af (cu rfl rfl (ae rfl) rfl (ble rfl)) (af (cu rfl rfl (ae rfl) rfl (ble rfl))
  (af (nj rfl rfl (kr aj (ble rfl)) (by decide) rfl (ble rfl)) aw)))))))) rfl
theorem DF{os:List MV}(c:H.o .bI 0=.inst ft)(b:look fv ft=some v)(l:LstAt H v os)(hl:os.length≤1000000):Fn 1 428 [jq] H (.int os.length) H:=
 aJ mQ rfl (az (aY (dr eB (ag (au (ae rfl) c rfl b) aj) (.qE l hl))) rfl) rfl
theorem q4{os:List MV}{m y:Nat}(b:H.o .bI 0=.inst ft)(c:look fv ft=some v)(e:look ea ft=some (.int m))(l:LstAt H v os)(hl:os.length+y≤m)(hb:m≤1000):Fn 1 435 [jq,.int y] H .none H:=
 aJ (f:=.next) jx rfl (af (aU (aD (a8 (dr eB (ag (au (ae rfl) b rfl c) aj) (.qE l (by omega))) (ae rfl) (.add _ _)) (au (ae rfl) b rfl e) (decide_eq_false (λz:(m:Int)<os.length+(y:Int)=>by omega)▸eR.gt _ _)) aw) aw) rfl
theorem GB{os:List MV}{m j:Nat}{f:MV}(b:H.o .bI 0=.inst ft)(e:look fv ft=some (.ref .L j))(h:look ea ft=some (.int m))(c:H.o .L j=.list os)(hl:os.length+1≤m)(hb:m≤1000)(g:look iX ft=none):Fn 2 442 [jq,f] H f (H.set .L j (.list (os++[f]))):=
 aJ mT rfl (af (bS (bU fN rfl (ae rfl) b g (ag ar aj) (q4 (y:=1) b e h (.inr ⟨j,rfl,c⟩) hl hb)) rfl rfl)
  (af (bS (iB (au (ae rfl) b rfl e) c (ag (ae rfl) aj) c (by omega)) rfl rfl) (az (aY (ae rfl)) rfl))) rfl
end
section
variable{H H':Hp}{k D m j:Nat}{d:Nat}{ρ:Loc}{fs ft:Loc}{v f:MV}{sl:List MV}{n a:Nm}
noncomputable abbrev Nr:List XS:=[bo (aH .Is (aI (aq (aa ai) ei) (aa a4)) bj) (xB [ay (pg (aq (aa ai) ei) (aa a4)) (aa aN),bt (aa a4)]) (xB [])]
theorem DG{n:Nat}(t:H.o .Descriptors D=.inst (uZ m j))(s:H.o .L j=.list sl)(w:sl.length=m)(hl:m≤1000)(p:sl[n]? =some .none):∀{i g:Nat},i+g=n→(∀q,i≤q→q<n→∃v,sl[q]? =some v∧isNone v=false)→
  ∃ρ,e9 0 (bE a4) Nr (g+1) (.ny i m) [(ai,gF D),(aN,f)] H (.ret (.int n)) ρ (H.set .L j (.list (sl.set n f))):=by
 have lt:n<sl.length:=(List.getElem?_eq_some_iff.mp p).1
 have it:∀{q:Nat}{v:MV},sl[q]? =some v→Ev 0 (aI (aq (aa ai) ei) (aa a4)) [(ai,gF D),(aN,f),(a4,.int q)] H v H:=λ{q v} h=>aW (au (ae rfl) t rfl rfl) (ae rfl) (.l (.inr ⟨j,rfl,s⟩) (cx h (by have:=(List.getElem?_eq_some_iff.mp h).1;omega)))
 intro i g
 induction g generalizing i with
 |zero=>
  intro e _
  cases(show i=n from e)
  exact⟨_,.ret (.r _ _ (by omega)) aA (az (cF (aD (it p) a3 (.Ak .none)) (af (aG rfl (ae rfl) (gY (au (ae rfl) t rfl rfl) (ae rfl) (.l f s lt (by omega)))) (az (aY (ae rfl)) rfl))) rfl)⟩
 |succ g ih=>
  intro e h
  obtain⟨v,u,c⟩:=h i (Nat.le_refl i) (by omega)
  exact(ih (i:=i+1) (by omega) λq a b=>h q (by omega) b).imp λρ go=>.step (.r (i:Int) m (by omega)) aA (cV (ρ':=[(ai,gF D),(aN,f)]) (r:=[(a4,.int i)]) (af (aU (aD (it u) a3 (c▸eR.Ak v)) aw) aw)) go
theorem Iu{n:Nat}(c:H.o .Descriptors D=.inst (uZ m j))(p:H.o .L j=.list sl)(l:sl.length=m)(hl:m≤1000)(e:sl[n]? =some .none)(h:∀q,q<n→∃v,sl[q]? =some v∧isNone v=false):Fn 1 553 [gF D,f] H (.int n) (H.set .L j (.list (sl.set n f))):=
 (DG c p l hl e (i:=0) (g:=n) (Nat.zero_add n) λq _ b=>h q b).elim λρ L=>aJ m4 rfl (az (dQ (eI eC (ag (au (ae rfl) c rfl rfl) aj) (by omega)) rfl L) rfl) rfl
theorem J'(e:H.o .Descriptors D=.inst (uZ m j))(b:H.o .L j=.list sl)(hl:sl.length≤1000):Fn 1 558 [gF D] H (.int (sl.filter isNone).length) H:=by
 have g:rA 0 (bE aN) [aN] [(aH .Is (aa aN) bj)] (aa aN) [(ai,gF D)] sl.length (.lst j 0) H ((sl.filter isNone).map id) H:=
  gn (λv h=>⟨_,gw,ec (aD (ae rfl) a3 (.Ak _)),λ_=>ae rfl⟩) (ke b rfl)
 have c:=fD (i:=aq (aa ai) ei) (fW rfl rfl) (eM (au (ae rfl) e rfl rfl) (.l b)) rfl g (by rw[List.map_id];exact Nat.le_trans (List.length_filter_le ..) hl)
 rw[List.map_id]at c
 exact aJ lE rfl (az (aY (dr eB (ag c aj) (.qE (.inl rfl) (Nat.le_trans (List.length_filter_le ..) (Nat.le_trans hl (by decide)))))) rfl) rfl
end
theorem DH:vb BJ (.str cO):=ox λP=>by kernel_rfl
section
variable{H H':Hp}{k D m j:Nat}{d:Nat}{ρ:Loc}{fs ft tb:Loc}{v f:MV}{n a:Nm}{P:Nat→Pr}{ks:List Nat}
noncomputable def Ka(R mk dj:Nat):Loc:=[(dc,.int R),(qc,.int mk),(b9,.ref .D dj)]
theorem Kb{R mk dj:Nat}{ds:List (Int×MV)}(c:H.o .cm 0=.inst (Ka R mk dj))(g:H.o .D dj=.dy ds)(hl:ds.length≤1000)(h:1≤R)(h2:R≤1000):
  Fn 3 176 [Io] H (gm (H.n .b8)) ((((H.new .b8 (.inst (Pi.fs ⟨mk,R,H.n .B,0,0,true,true⟩))).new .B (.dD (List.replicate R 0))).set .D dj (.dy (dput mk (gm (H.n .b8)) ds))).set .cm 0 (.inst (Ka R (mk+1) dj))):=by
 have b:((H.new .b8 (.inst (Pi.fs ⟨mk,R,H.n .B,0,0,true,true⟩))).new .B (.dD (List.replicate R 0))).o .cm 0=.inst (Ka R mk dj):=c
 have e:((H.new .b8 (.inst (Pi.fs ⟨mk,R,H.n .B,0,0,true,true⟩))).new .B (.dD (List.replicate R 0))).o .D dj=.dy ds:=g
 exact aJ n8 rfl (af (aG rfl (h7 JQ (ag (au (ae rfl) c rfl rfl) (ag (au (ae rfl) c rfl rfl) aj)) (J_ h h2)) aA)
  (af (aG rfl (ae rfl) (gY (au (ae rfl) b rfl rfl) (au (ae rfl) b rfl rfl) (.d (mk:Int) (gm (H.n .b8)) e hl))) (af (i6 (ae rfl) b rfl rfl ar (.add _ _) b (ble rfl)) (az (aY (ae rfl)) rfl)))) rfl
noncomputable abbrev Mb:List XS:=[bo (aH .Eq (aq (aa ah) bR) (eP kp)) (xB [bt (aa ah)]) (xB [])]
theorem A7{j:Nat}{x:MV}{ks:List Nat}(h:ks.find? (λj=>(P j).state.c.beq bf.c)=some j)(e:Ps H P ks):∃ρ,e9 d (bE ah) Mb ks.length (.nC (ks.map br)) [(ai,x)] H (.ret (br j)) ρ H:=by
 induction ks with
 |nil=>cases h
 |cons k ks ih=>
  rw[List.find?_cons]at h
  have t:∀{b},(P k).state.c.beq bf.c=b→ik d (aH .Eq (aq (aa ah) bR) (eP kp)) [(ai,x),(ah,br k)] H b H:=λq=>aD (au (ae rfl) (e k (List.mem_cons_self ..)) rfl rfl) (ey ky) (q▸eR.eq (.ss _ _))
  cases q:(P k).state.c.beq bf.c with
  |true=>
   rw[q]at h
   cases h
   exact⟨_,.ret (.s _ _) aA (az (cF (t q) (az (aY (ae rfl)) rfl)) rfl)⟩
  |false=>
   rw[q]at h
   exact(ih h λm g=>e m (List.mem_cons_of_mem _ g)).imp λρ D=>.step (.s _ _) aA (cV (ρ':=[(ai,x)]) (r:=[(ah,br k)]) (af (aU (t q) aw) aw)) D
theorem wN{j:Nat}(b:H.o .Table 0=.inst tb)(hp:look dH tb=some (.lst (ks.map br)))(h:ks.find? (λj=>(P j).state.c.beq bf.c)=some j)(e:Ps H P ks):Fn 1 674 [eU] H (br j) H:=
 (A7 (x:=eU) h e).elim λρ L=>aJ lR rfl (az (dQ (eM (au (ae rfl) b rfl hp) (.s _)) rfl L) rfl) rfl
noncomputable def u0(ks:List Nat)(nx b:Int)(fst:MV):Loc:=[(dH,.lst (ks.map br)),(iw,.int nx),(BL,.int b),(aC,fst),(cC,.none)]
theorem Iv{j:Nat}{nx b:Int}{fst:MV}{nm:Nm}(l:H.o .Table 0=.inst (u0 ks nx b fst))(h:ks.find? (λj=>(P j).state.c.beq bf.c)=some j)(s:Ps H P ks):
  Fn 2 682 [eU,.str nm] H (br j) (bif isNone fst then((H.set .Table 0 (.inst (u0 ks (nx+1) b fst))).set .Process j (.inst (Pr.fs {qY with pid:=nx,state:=cO,name:=nm} j))).set .Table 0 (.inst (u0 ks (nx+1) b (br j)))else(H.set .Table 0 (.inst (u0 ks (nx+1) b fst))).set .Process j (.inst (Pr.fs {qY with pid:=nx,state:=cO,name:=nm} j))):=by
 have r:=s j (List.mem_of_find?_eq_some h)
 have e:∀{p:Pr},(dT H j p).set .Table 0 (.inst (u0 ks (nx+1) b fst))=dT (H.set .Table 0 (.inst (u0 ks (nx+1) b fst))) j p:=Hp.set_comm (by decide)
 have g:∀{p:Pr},(dT H j p).o .Table 0=.inst (u0 ks nx b fst):=l
 have i:∀{p:Pr},(dT (H.set .Table 0 (.inst (u0 ks (nx+1) b fst))) j p).o .Table 0=.inst (u0 ks (nx+1) b fst):=(Hp.b4 (by intro z;exact nomatch z.1)).trans Hp.bQ
 refine aJ v7 rfl (af (aG rfl (bU lS rfl (ae rfl) l rfl aj (wN l rfl h s)) aA) (af (bS (bU gx rfl (ae rfl) r rfl aj (zE r)) rfl rfl)
  (af (gK (p':={qY with pid:=nx}) rfl rfl (au (ae rfl) g rfl rfl) rfl rfl) (af (dK (i6 (ae rfl) g rfl rfl ar (.add _ _) g (ble rfl)) e)
  (af (gK (p':={qY with pid:=nx,state:=cO}) rfl rfl (ey DH) rfl rfl) (af (gK (p':={qY with pid:=nx,state:=cO,name:=nm}) rfl rfl (ae rfl) rfl rfl) (af (ρ1:=[(ai,eU),(ml,.str nm),(ah,br j)]) ?_ (az (aY (ae rfl)) rfl)))))))) rfl
 have c:=aD (op:=.Is) (d:=1) (ρ:=[(ai,eU),(ml,.str nm),(ah,br j)]) (au (a:=aC) (ae (n:=ai) rfl) (i (p:={qY with pid:=nx,state:=cO,name:=nm})) rfl rfl) a3 (.Ak fst)
 cases q:isNone fst with
 |true=>rw[q]at c;exact cF c (af (aG rfl (ae rfl) (d0 (ae rfl) i rfl (ble rfl))) aw)
 |false=>rw[q]at c;exact aU c aw
end
section
variable{H H':Hp}{k j:Nat}{d:Nat}{ρ:Loc}{v:MV}{a b:Int}
theorem zG{great c:Int}{many:Int}(e:H.o .L k=.list [.int great,.int c])(g:0<many)(f:many<1073741824)(h:0<great):Fn 1 810 [.ref .L k,.int many] H (.int (great%many)) (H.set .L k (.list [.int (great/many),.int c])):=
 aJ oZ rfl (az (cF (aD (aW (ae rfl) ar (.l (.inr ⟨k,rfl,e⟩) (cx (j:=0) rfl (by decide)))) ar (decide_eq_true h▸eR.gt _ _))
  (af (aG rfl (a8 (aW (ae rfl) ar (.l (.inr ⟨k,rfl,e⟩) (cx (j:=0) rfl (by decide)))) (ae rfl) (.mod _ _ g)) aA)
  (af (aG rfl (a8 (aW (ae rfl) ar (.l (.inr ⟨k,rfl,e⟩) (cx (j:=0) rfl (by decide)))) (ae rfl) (.div _ _ g f)) (gY (ae rfl) ar (.l (j:=0) _ e (show 0<2 by decide) (by decide)))) (az (aY (ae rfl)) rfl)))) rfl) rfl
theorem zH{great c:Int}{many:Int}(e:H.o .L k=.list [.int great,.int c])(f:0<many)(g:¬0<great):Fn 1 810 [.ref .L k,.int many] H (.int ((c*48271+11)%2147483647/128%many)) (H.set .L k (.list [.int great,.int ((c*48271+11)%2147483647)])):=
 aJ oZ rfl (af (aU (aD (aW (ae rfl) ar (.l (.inr ⟨k,rfl,e⟩) (cx (j:=0) rfl (by decide)))) ar (decide_eq_false g▸eR.gt _ _)) aw)
  (af (aG rfl (a8 (a8 (a8 (aW (ae rfl) ar (.l (.inr ⟨k,rfl,e⟩) (cx (j:=1) rfl (by decide)))) ar (.mul _ _ (by decide))) ar (.add _ _)) ar (.mod _ _ (by decide))) (gY (ae rfl) ar (.l (j:=1) _ e (show 1<2 by decide) (by decide))))
  (az (aY (a8 (a8 (aW (ae rfl) ar (.l (.inr ⟨k,rfl,Hp.bQ⟩) (cx (j:=1) rfl (by decide)))) ar (.div _ _ (by decide) (by decide))) (ae rfl) (.mod _ _ f))) rfl))) rfl
end
structure Ro where
 pr:Nat
 pid:Int
 ib:Nat
 out:Nat
 there:Bool
 aP:Int
 gM:Int
 hand:List UInt8
 row:List UInt8
 size:Nat
 begun:Int
noncomputable def Ro.fs(r:Ro):Loc:=[(ah,br r.pr),(dS,.int r.pid),(Nm.jH,.int r.ib),(fk,.int r.out),(bP,.bool r.there),(dW,.int r.aP),(mn,.int r.gM),(el,.bytes r.hand),(d2,.bytes r.row),(dc,.int r.size),(jO,.int r.begun)]
noncomputable abbrev sV(k:Nat):MV:=.ref .S k
structure Wo(H:Hp)(wi rl:Nat)(ds:List Nat)(ws:Loc):Prop where
 w:H.o .S wi=.bu ws
 c:look aS ws=some c_
 r:look a_ ws=some (.ref .L rl)
 l:H.o .L rl=.list (ds.map sV)
section
variable{H H':Hp}{k j wi rl at_:Nat}{d:Nat}{ρ:Loc}{v:MV}{ds:List Nat}{ws:Loc}{r:Ro}{a b:Int}
theorem Wo.rows(W:Wo H wi rl ds ws)(l:look aB ρ=some (sV wi)):Ev d (aI (aa aB) (a5 a_)) ρ H (.ref .L rl) H:=aW (ae l) a7 (.s W.w W.r)
theorem Wo.row{e:XE}(W:Wo H wi rl ds ws)(l:look aB ρ=some (sV wi))(c:Ev d e ρ H (.int at_) H)(hd:ds[at_]? =some j)(hl:ds.length≤1000):Ev d (aI (aI (aa aB) (a5 a_)) e) ρ H (sV j) H:=
 aW (W.rows l) c (.l (.inr ⟨rl,rfl,W.l⟩) (cx (by rw[List.getElem?_map,hd];rfl) (by have:=(List.getElem?_eq_some_iff.mp hd).1;omega)))
theorem Wo.calls(W:Wo H wi rl ds ws)(l:look aB ρ=some (sV wi)):Ev d (aI (aa aB) (a5 aS)) ρ H c_ H:=aW (ae l) a7 (.s W.w W.c)
theorem ne_bytes{x y:List UInt8}(h:x≠y):eR H .NotEq (.bytes x) (.bytes y) true:=by
 have c:=eR.ne (H:=H) (.bb x y)
 rw[beq_eq_false_iff_ne.mpr h]at c
 exact c
theorem A8{x:List UInt8}:eR H .NotEq (.bytes x) (.bytes x) false:=by
 have c:=eR.ne (H:=H) (.bb x x)
 rw[beq_self_eq_true]at c
 exact c
theorem uH(W:Wo H wi rl ds ws)(hd:ds[at_]? =some j)(hl:ds.length≤1000)(e:H.o .S j=.bu r.fs)(c:r.hand≠[])(h:Fn d 864 [sV wi,.int at_] H v H'):Fn (d+1) 876 [sV wi,.int at_] H v H':=
 aJ hI rfl (az (aY (hV (aD (aW (W.row rfl (ae rfl) hd hl) a7 (.s e rfl)) (gb (bs:=.empty)) (b:=true) (ne_bytes c)) (dt rN (ag (ae rfl) (ag (ae rfl) aj)) h))) rfl) rfl
theorem uI(W:Wo H wi rl ds ws)(hd:ds[at_]? =some j)(hl:ds.length≤1000)(e:H.o .S j=.bu r.fs)(c:r.hand=[])(h:Fn d 869 [sV wi,.int at_] H v H'):Fn (d+1) 876 [sV wi,.int at_] H v H':=
 aJ hI rfl (az (aY (hW (aD (aW (W.row rfl (ae rfl) hd hl) a7 (.s e (congrArg (λb=>some (MV.bytes b)) c))) (gb (bs:=.empty)) (b:=false) A8) (dt uB (ag (ae rfl) (ag (ae rfl) aj)) h))) rfl) rfl
end
section
variable{H H' H2:Hp}{k j wi rl at_:Nat}{d:Nat}{ρ:Loc}{v:MV}{ds:List Nat}{ws:Loc}{r:Ro}{a b:Int}{p:Pr}
noncomputable abbrev sset(H:Hp)(j:Nat)(r:Ro):Hp:=H.set .S j (.bu r.fs)
theorem Wo.sset(W:Wo H wi rl ds ws)(h:wi≠j):Wo (sset H j r) wi rl ds ws:=⟨(Hp.b4 λz:Cl.S=.S∧wi=j=>h z.2).trans W.w,W.c,W.r,W.l⟩
theorem ic{e:XE}{bs:List UInt8}(h:Ev d e ρ H (.bytes bs) H)(hl:bs.length≤1000000):Ev d (ak cn [e]) ρ H (.int bs.length) H:=dr eB (ag h aj) (.AF hl)
theorem Kc(W:Wo H wi rl ds ws)(hd:ds[at_]? =some j)(hl:ds.length≤1000)(hw:wi≠j)(e:H.o .S j=.bu r.fs)(g:r.hand.length≤1000000)(h:H.o .Process r.pr=.inst (p.fs r.pr))(c:H.o .aM 0=.inst [(bc,xf)])
  (x:Fn 7 288 [c_,br r.pr,.int r.aP] (sset H j {r with there:=false,gM:=(r.hand.length:Int)-p.prog}) (.int 0) H2):Fn 8 857 [sV wi,.int at_] H (.bool true) H2:=by
 have l:(H.set .S j (.bu (put bP (.bool false) r.fs))).o .S j=.bu (put bP (.bool false) r.fs):=Hp.bQ
 have f:(sset H j {r with there:=false,gM:=(r.hand.length:Int)-p.prog}).o .S j=.bu (Ro.fs {r with there:=false,gM:=(r.hand.length:Int)-p.prog}):=Hp.bQ
 have i:=W.sset (r:={r with there:=false,gM:=(r.hand.length:Int)-p.prog}) hw
 exact aJ wy rfl (af (aG rfl (W.row rfl (ae rfl) hd hl) aA)
  (af (dK (aG rfl (ct (ag dV (ag (a8 (ic (aW (ae rfl) a7 (.s e rfl)) g) (au (aW (ae rfl) a7 (.s e rfl)) h rfl rfl) (.sub _ _)) aj)) (ble rfl))
   (eL (bw (gY (ae rfl) a7 (.s bP (.bool false) e (ble rfl))) (bw (gY (ae rfl) a7 (.s mn _ l (ble rfl))) dA)) rfl)) Hp.set_set)
  (az (aY (fS (bU kL rfl (i.calls rfl) c rfl (ag (aW (ae rfl) a7 (.s f rfl)) (ag (aW (ae rfl) a7 (.s f rfl)) aj)) x) ar (.eq (.ii 0 0)))) rfl))) rfl
end
section
variable{H H' H1 H2:Hp}{k j j2 wi rl at_:Nat}{d:Nat}{ρ:Loc}{v:MV}{ds:List Nat}{ws:Loc}{r r2:Ro}{a b:Int}{p:Pr}
theorem Wo.ahead(W:Wo H wi rl ds ws)(l:look aB ρ=some (sV wi))(c:look cP ρ=some (.int at_))(e:0<ds.length)(hd:ds[(at_+1)%ds.length]? =some j2)(hl:ds.length≤1000):Ev d (aI (aI (aa aB) (a5 a_)) (aL .Mod (aL .Add (aa cP) (av 1)) (ak cn [(aI (aa aB) (a5 a_))]))) ρ H (sV j2) H:=
 W.row (at_:=(at_+1)%ds.length) l (c6 (by rw[List.length_map];rfl) (a8 (a8 (ae c) ar (.add _ _)) (dr eB (ag (W.rows l) aj) (.qE (.inr ⟨rl,rfl,W.l⟩) (by rw[List.length_map];omega))) (.mod _ _ (by rw[List.length_map];exact Int.ofNat_lt.mpr e)))) hd hl
theorem wO(W:Wo H wi rl ds ws)(f:H.o .S j=.bu r.fs)(e:H.o .aM 0=.inst [(bc,xf)])(c:look b6 ρ=some (sV j))(g:look aB ρ=some (sV wi))(w:Fn 5 365 [c_,br r.pr,.int r.out,.bytes r.hand] H v H1):
  Ev 5 (ao (aI (aa aB) (a5 aS)) eN [(aI (aa b6) (a5 ah)),(aI (aa b6) (a5 fk)),(aI (aa b6) (a5 el))]) ρ H v H1:=
 bU dI rfl (W.calls g) e rfl (ag (aW (ae c) a7 (.s f rfl)) (ag (aW (ae c) a7 (.s f rfl)) (ag (aW (ae c) a7 (.s f rfl)) aj))) w
variable(W:Wo H wi rl ds ws)(hd:ds[at_]? =some j)(h0:0<ds.length)(hd2:ds[(at_+1)%ds.length]? =some j2)(hl:ds.length≤1000)(hR:H.o .S j=.bu r.fs)(DI:H.o .aM 0=.inst [(bc,xf)])
include W hd h0 hd2 hl hR DI
theorem zI:eu 7 (ay (et ([b6,qj].map bE)) (cS [(aI (aI (aa aB) (a5 a_)) (aa cP)),(aI (aI (aa aB) (a5 a_)) (aL .Mod (aL .Add (aa cP) (av 1)) (ak cn [(aI (aa aB) (a5 a_))])))])) [(aB,sV wi),(cP,.int at_)] H .next [(aB,sV wi),(cP,.int at_),(b6,sV j),(qj,sV j2)] H:=
 aG rfl (ct (ag (W.row rfl (ae rfl) hd hl) (ag (W.ahead rfl rfl h0 hd2 hl) aj)) (ble rfl)) (eL (bw aA (bw aA dA)) rfl)
theorem A9(w:Fn 5 365 [c_,br r.pr,.int r.out,.bytes r.hand] H .none H1):Fn 8 864 [sV wi,.int at_] H (.bool true) H1:=
 aJ ia rfl (af (zI W hd h0 hd2 hl hR DI) (af (aG rfl (nZ (wO W hR DI rfl rfl w)) aA)
  (af (aU (aD (aW (ae rfl) ar (.t (cx (j:=0) rfl (by decide)))) a7 (b:=false) (.eq (.ss _ _))) aw)
  (af (aU (aD (aW (ae rfl) ar (.t (cx (j:=1) rfl (by decide)))) a3 (.B7 _)) aw) (az (aY dV) rfl))))) rfl
theorem A_(w:Fn 5 365 [c_,br r.pr,.int r.out,.bytes r.hand] H (.int r.hand.length) H1)(e:H1.o .S j=.bu r.fs)(f:r.hand.length≤1000000):Fn 8 864 [sV wi,.int at_] H (.bool true) (sset H1 j {r with hand:=[]}):=
 aJ ia rfl (af (zI W hd h0 hd2 hl hR DI) (af (aG rfl (nZ (wO W hR DI rfl rfl w)) aA)
  (af (aU (aD (aW (ae rfl) ar (.t (cx (j:=0) rfl (by decide)))) a7 (b:=false) (.eq (.ss _ _))) aw)
  (af (cF (aD (aW (ae rfl) ar (.t (cx (j:=1) rfl (by decide)))) a3 (.B7 _)) (af (aU (aD (aW (ae rfl) ar (.t (cx (j:=1) rfl (by decide)))) (ic (aW (ae rfl) a7 (.s e rfl)) f) (b:=false) (by have c:=eR.ne (H:=H1) (.ii (r.hand.length:Int) r.hand.length);rw[decide_eq_true rfl]at c;exact c)) aw)
   (af (aG rfl (gb (bs:=.empty)) (gY (ae rfl) a7 (.s el (.bytes []) e (ble rfl)))) aw))) (az (aY dV) rfl))))) rfl
theorem A'(w:x8 5 365 [c_,br r.pr,.int r.out,.bytes r.hand] H H1)(g:H1.o .S j2=.bu r2.fs)(ht:r2.there=false)(e:Fn 8 857 [sV wi,.int at_] H1 (.bool true) H2):Fn 9 864 [sV wi,.int at_] H (.bool true) H2:=by
 have x:∀{ρ},look b6 ρ=some (sV j)→look aB ρ=some (sV wi)→K9 6 (ao (aI (aa aB) (a5 aS)) eN [(aI (aa b6) (a5 ah)),(aI (aa b6) (a5 fk)),(aI (aa b6) (a5 el))]) ρ H H1:=λc h=>
  CV dI rfl (W.calls h) DI rfl (ag (aW (ae c) a7 (.s hR rfl)) (ag (aW (ae c) a7 (.s hR rfl)) (ag (aW (ae c) a7 (.s hR rfl)) aj))) (w.up 1)
 have f:eu 8 _ _ H .next _ H:=aG (t:=et ([b6,qj].map bE)) rfl (ct (ag (W.row (ρ:=[(aB,sV wi),(cP,.int at_)]) rfl (ae (n:=cP) rfl) hd hl) (ag (W.ahead rfl rfl h0 hd2 hl) aj)) (ble rfl)) (eL (bw aA (bw aA dA)) rfl)
 exact aJ ia rfl (af f (af (aG rfl (zu (x rfl rfl)) aA)
  (az (cF (aD (aW (ae rfl) ar (.t (cx (j:=0) rfl (by decide)))) a7 (b:=true) (.eq (.ss _ _))) (az (aY (tM (tO (c6 (congrArg (λb=>MV.bool !b) ht) (qu (aW (ae rfl) a7 (.s g rfl)))) (tN (dt ka (ag (ae rfl) (ag (ae rfl) aj)) e))))) rfl)) rfl))) rfl
end
section
variable{H H' H1 H2:Hp}{k j j2 wi rl at_:Nat}{d:Nat}{ρ:Loc}{v:MV}{ds:List Nat}{ws:Loc}{r r2:Ro}{a b:Int}{p:Pr}
theorem Wo.behind(W:Wo H wi rl ds ws)(l:look aB ρ=some (sV wi))(e:look cP ρ=some (.int at_)){c:Nat}(f:0<ds.length)(hb:((at_:Int)-1)%ds.length=c)(hd:ds[c]? =some j2)(hl:ds.length≤1000):Ev d (aI (aI (aa aB) (a5 a_)) (aL .Mod (aL .Sub (aa cP) (av 1)) (ak cn [(aI (aa aB) (a5 a_))]))) ρ H (sV j2) H:=
 W.row (at_:=c) l (c6 (by rw[List.length_map,hb]) (a8 (a8 (ae e) ar (.sub _ _)) (dr eB (ag (W.rows l) aj) (.qE (.inr ⟨rl,rfl,W.l⟩) (by rw[List.length_map];omega))) (.mod _ _ (by rw[List.length_map];exact Int.ofNat_lt.mpr f)))) hd hl
theorem wQ(W:Wo H wi rl ds ws)(f:H.o .S j=.bu r.fs)(e:H.o .aM 0=.inst [(bc,xf)])(c:look b6 ρ=some (sV j))(g:look aB ρ=some (sV wi))(w:Fn 5 358 [c_,br r.pr,.int r.ib,.int r.size] H v H1):
  Ev 5 (ao (aI (aa aB) (a5 aS)) jk [(aI (aa b6) (a5 ah)),(aI (aa b6) (a5 Nm.jH)),(aI (aa b6) (a5 dc))]) ρ H v H1:=
 bU kT rfl (W.calls g) e rfl (ag (aW (ae c) a7 (.s f rfl)) (ag (aW (ae c) a7 (.s f rfl)) (ag (aW (ae c) a7 (.s f rfl)) aj))) w
end
theorem kf{H:Hp}{n:Nm}{v w:MV}{b:Bool}(h:r7 v w b):pN H (.tup [.str n,v]) (.tup [.str n,w]) b:=by
 have c:=pN.tt (H:=H) [.str n,v] [.str n,w] (λj=>bif j.beq 0 then n.c.beq n.c else b) (λj x y p q=>match j,p,q with
  |0,p,q=>Option.some.inj p▸Option.some.inj q▸ .ss n n
  |1,p,q=>Option.some.inj p▸Option.some.inj q▸h
  |_+2,p,_=>nomatch p)
 have e:((List.range (min [MV.str n,v].length [MV.str n,w].length)).all (λj=>bif j.beq 0 then n.c.beq n.c else b)&&[MV.str n,v].length==[MV.str n,w].length)=b:=by
  show((n.c.beq n.c&&(b&&true))&&true)=b
  rw[Nat.beq_refl,Bool.true_and,Bool.and_true,Bool.and_true]
 exact e▸c
theorem DJ{H:Hp}{m:Nat}:∀{lo:Nat}{hi:Int},hi=((lo+m:Nat):Int)→Runs H (.ny lo hi) ((List.range' lo m).map λk:Nat=>.int k):=by
 induction m with
 |zero=>exactλ{lo hi} e=>.r _ _ (Int.le_of_eq e)
 |succ m ih=>exactλ{lo hi} e=>⟨_,.r _ _ (e▸Int.ofNat_lt.mpr (Nat.lt_add_of_pos_right (Nat.succ_pos m))),ih (lo:=lo+1) (e.trans (congrArg Int.ofNat (Nat.succ_add_eq_add_succ lo m).symm))⟩
theorem oC{H:Hp}{m:Nat}:Runs H (.ny 0 m) ((List.range m).map λk:Nat=>.int k):=List.range_eq_range'▸DJ (lo:=0) (by rw[Nat.zero_add])
theorem zJ{d:Nat}{t:XT}{ns:List Nm}{ifs:List XE}{e:XE}{ρ:Loc}{H:Hp}{f g:Nat→MV}{p:Nat→Bool}{ks:List Nat}(h:∀k∈ks,∃ρ1,Ie d t ns ρ (f k) ρ1∧jS d .And ifs ρ1 H (p k) H∧(p k=true→Ev d e ρ1 H (g k) H)):∀{i:It},Runs H i (ks.map f)→rA d t ns ifs e ρ ks.length i H ((ks.filter p).map g) H:=by
 induction ks with
 |nil=>exactλr=>.stop r
 |cons k ks ih=>
  exactλ{i} r=>r.elim λc r=>(h k (List.mem_cons_self ..)).elim λρ1 q=>by
   have go:=ih (λw hw=>h w (List.mem_cons_of_mem _ hw)) r.2
   rw[List.filter_cons]
   cases hf:p k with
   |true=>rw[hf]at q;exact .yes r.1 q.1 q.2.1 (q.2.2 rfl) go
   |false=>rw[hf]at q;exact .no r.1 q.1 q.2.1 go
theorem iL{d:Nat}{t:XT}{ns:List Nm}{e:XE}{ρ:Loc}{H:Hp}{f g:Nat→MV}{ks:List Nat}(h:∀k∈ks,∃ρ1,Ie d t ns ρ (f k) ρ1∧Ev d e ρ1 H (g k) H){i:It}(r:Runs H i (ks.map f)):rA d t ns [] e ρ ks.length i H (ks.map g) H:=by
 have c:=zJ (p:=λ_=>true) (ifs:=[]) (λk hk=>(h k hk).imp λρ1 q=>⟨q.1,eS,λ_=>q.2⟩) r
 rw[List.filter_eq_self.mpr λ_ _=>rfl]at c
 exact c
theorem GD{H:Hp}{x y:MV}{bs:List UInt8}(l:LstAt H x (bs.map lB))(e:LstAt H y (bs.map lB)):pN H x y true:=by
 have c:=pN.ll (bs.map lB) (bs.map lB) (λ_=>true) l e rfl (λj a b p q=>by
  cases Option.some.inj (p.symm.trans q)
  rw[List.getElem?_map]at p
  cases h:bs[j]? with
  |none=>rw[h]at p;cases p
  |some u=>rw[h]at p;cases p;exact decide_eq_true (rfl:(u.toNat:Int)=u.toNat)▸r7.ii _ _)
 exact(List.all_eq_true.mpr λ_ _=>rfl:(List.range (bs.map lB).length).all (λ_=>true)=true)▸c
section
variable{H H' H1 H2:Hp}{k j j2 wi rl at_ bh:Nat}{d:Nat}{ρ:Loc}{v:MV}{ds:List Nat}{ws:Loc}{r r2:Ro}{a b:Int}{p:Pr}
variable(W:Wo H wi rl ds ws)(hd:ds[at_]? =some j)(h0:0<ds.length)(hb:((at_:Int)-1)%ds.length=bh)(hd2:ds[bh]? =some j2)(hl:ds.length≤1000)(hR:H.o .S j=.bu r.fs)(DI:H.o .aM 0=.inst [(bc,xf)])
noncomputable abbrev Nt(wi at_ j j2:Nat):Loc:=[(aB,sV wi),(cP,.int at_),(b6,sV j),(hj,sV j2)]
include W hd h0 hb hd2 hl hR DI
theorem zK(w:Fn 5 358 [c_,br r.pr,.int r.ib,.int r.size] H v H1)(c:H1.o .S j=.bu r.fs){l:List XS}{f:Fl}{ρ':Loc}(k:gj 7 l (Nt wi at_ j j2++[(bY,.tup [.str bY,v]),(d2,.bytes r.row)]) H1 f ρ' H'):
  gj 7 (ay (et ([b6,hj].map bE)) (cS [(aI (aI (aa aB) (a5 a_)) (aa cP)),(aI (aI (aa aB) (a5 a_)) (aL .Mod (aL .Sub (aa cP) (av 1)) (ak cn [(aI (aa aB) (a5 a_))])))])::
   ay (et ([bY,d2].map bE)) (cS [(mH [b6,aB] (ao (aI (aa aB) (a5 aS)) jk [(aI (aa b6) (a5 ah)),(aI (aa b6) (a5 Nm.jH)),(aI (aa b6) (a5 dc))])),(aI (aa b6) (a5 d2))])::l) [(aB,sV wi),(cP,.int at_)] H f ρ' H':=
 af (aG rfl (ct (ag (W.row rfl (ae rfl) hd hl) (ag (W.behind rfl rfl h0 hb hd2 hl) aj)) (ble rfl)) (eL (bw aA (bw aA dA)) rfl))
  (af (aG rfl (ct (ag (nZ (wQ W hR DI rfl rfl w)) (ag (aW (ae rfl) a7 (.s c rfl)) aj)) (ble rfl)) (eL (bw aA (bw aA dA)) rfl)) k)
theorem DK(w:Fn 5 358 [c_,br r.pr,.int r.ib,.int r.size] H .none H1)(c:H1.o .S j=.bu r.fs):Fn 8 869 [sV wi,.int at_] H (.bool true) H1:=
 aJ jd rfl (zK W hd h0 hb hd2 hl hR DI w c (az (cF (aD (ae rfl) (ct (ag a7 (ag a3 aj)) (ble rfl)) (.eq (kf .nn))) (az (aY dV) rfl)) rfl)) rfl
theorem DL(w:Fn 5 358 [c_,br r.pr,.int r.ib,.int r.size] H (.bytes []) H1)(g:H1.o .S j=.bu r.fs)(c:H1.o .S j2=.bu r2.fs)(ht:r2.there=false)(h:r.aP=r2.begun+r2.aP-r2.gM)(e:Fn 8 857 [sV wi,.int at_] H1 (.bool true) H2):Fn 9 869 [sV wi,.int at_] H (.bool true) H2:=by
 have i:∀{l:List XS}{f:Fl}{ρ':Loc},gj 8 l (Nt wi at_ j j2++[(bY,.tup [.str bY,.bytes []]),(d2,.bytes r.row)]) H1 f ρ' H2→gj 8 _ [(aB,sV wi),(cP,.int at_)] H f ρ' H2:=λk=>
  af (aG (t:=et ([b6,hj].map bE)) rfl (ct (ag (W.row (ρ:=[(aB,sV wi),(cP,.int at_)]) rfl (ae (n:=cP) rfl) hd hl) (ag (W.behind rfl rfl h0 hb hd2 hl) aj)) (ble rfl)) (eL (bw aA (bw aA dA)) rfl))
   (af (aG (t:=et ([bY,d2].map bE)) rfl (ct (ag (nZ (ns:=[b6,aB]) (DC (wQ W hR DI rfl rfl w) 1)) (ag (aW (ae (n:=b6) rfl) (a7 (n:=d2)) (.s g rfl)) aj)) (ble rfl)) (eL (bw aA (bw aA dA)) rfl)) k)
 refine aJ jd rfl (i (af (aU (aD (ae rfl) (ct (ag a7 (ag a3 aj)) (ble rfl)) (.eq (kf (.bn [])))) aw)
  (az (cF (aD (ae rfl) (ct (ag a7 (ag (gb (bs:=.empty)) aj)) (ble rfl)) (.eq (kf (.bb [] []))))
   (af (aG rfl (c6 (congrArg MV.int h.symm) (a8 (a8 (aW (ae rfl) a7 (.s c rfl)) (aW (ae rfl) a7 (.s c rfl)) (.add _ _)) (aW (ae rfl) a7 (.s c rfl)) (.sub _ _))) aA)
    (az (aY (tM (tO (c6 (congrArg (λb=>MV.bool !b) ht) (qu (aW (ae rfl) a7 (.s c rfl)))) (tO (fS (aW (ae rfl) a7 (.s g rfl)) (ae rfl) (decide_eq_true (rfl:r.aP=r.aP)▸eR.eq (.ii r.aP r.aP))) (tN (dt ka (ag (ae rfl) (ag (ae rfl) aj)) e)))))) rfl))) rfl))) rfl
end
section
variable{H H' H1 H2:Hp}{k j j2 wi rl at_ bh:Nat}{d:Nat}{ρ:Loc}{v:MV}{ds:List Nat}{ws:Loc}{r r2:Ro}{a b:Int}{p:Pr}
theorem Kd{row bs:List UInt8}{pn:Nat}(h:∀k,k<bs.length→row[(pn+k)%row.length]? =bs[k]?):((List.range bs.length).map λk:Nat=>lB (row.getD ((pn+k)%row.length) 0))=bs.map lB:=
 List.ext_getElem (by rw[List.length_map,List.length_map,List.length_range]) λi c h2=>by
  have hi:i<bs.length:=by rw[List.length_map,List.length_range]at c;exact c
  rw[List.getElem_map,List.getElem_map,List.getElem_range,List.getD_eq_getElem?_getD,h i hi,List.getElem?_eq_getElem hi]
  rfl
theorem DM(W:Wo H wi rl ds ws)(hd:ds[at_]? =some j)(E:0<ds.length)(hb:((at_:Int)-1)%ds.length=bh)(A:ds[bh]? =some j2)(hl:ds.length≤1000)(D:H.o .S j=.bu r.fs)(x:H.o .aM 0=.inst [(bc,xf)])
  {bs:List UInt8}{pn:Nat}(w:Fn 5 358 [c_,br r.pr,.int r.ib,.int r.size] H (.bytes bs) H1)(c:H1.o .S j=.bu r.fs)(B:bs≠[])(hsz:bs.length≤r.size)(C:r.size≤1000)(h:r.row≠[])(m:r.row.length≤1000)(hp:r.aP=pn)(u:∀k,k<bs.length→r.row[(pn+k)%r.row.length]? =bs[k]?):
  Fn 8 869 [sV wi,.int at_] H (.bool true) (sset H1 j {r with hand:=bs,aP:=(pn+bs.length:Nat)}):=by
 have n:bs.length≤1000:=Nat.le_trans hsz C
 have r0:0<r.row.length:=List.length_pos_iff.mpr h
 have q:∀{d:Nat}{ρ:Loc}{H:Hp},look bY ρ=some (.tup [.str bY,.bytes bs])→Ev d (aI (aa bY) (av 1)) ρ H (.bytes bs) H:=λl=>aW (ae l) ar (.t (cx (j:=1) rfl (by decide)))
 have it:∀k:Nat,r.row[(pn+k)%r.row.length]? =some (r.row.getD ((pn+k)%r.row.length) 0):=λk=>by rw[List.getD_eq_getElem?_getD,List.getElem?_eq_getElem (Nat.mod_lt _ r0)];rfl
 have cp:=iL (d:=7) (t:=bE Nm.kk) (ns:=[Nm.kk]) (e:=aI (aa d2) (aL .Mod (aL .Add (aI (aa b6) (a5 dW)) (aa Nm.kk)) (ak cn [(aa d2)]))) (ρ:=Nt wi at_ j j2++[(bY,.tup [.str bY,.bytes bs]),(d2,.bytes r.row)]) (H:=H1) (f:=λk:Nat=>.int k) (g:=λk:Nat=>lB (r.row.getD ((pn+k)%r.row.length) 0)) (ks:=List.range bs.length) (λk hk=>⟨_,gw,
   aW (ae rfl) (a8 (a8 (aW (v:=.int pn) (ae rfl) a7 (.s c (congrArg (λi=>some (MV.int i)) hp))) (ae rfl) (.add _ _)) (ic (ae rfl) (Nat.le_trans m (by decide))) (.mod _ _ (Int.ofNat_lt.mpr r0)))
    (.y (cx (it k) (Nat.lt_of_lt_of_le (Nat.mod_lt _ r0) (Nat.le_trans m (by decide)))) (Nat.le_trans m (by decide)))⟩) oC
 rw[Kd u]at cp
 have F:(H1.set .S j (.bu (put el (.bytes bs) r.fs))).o .S j=.bu (put el (.bytes bs) r.fs):=Hp.bQ
 exact aJ jd rfl (zK W hd E hb A hl D x w c (af (aU (aD (ae rfl) (ct (ag a7 (ag a3 aj)) (ble rfl)) (.eq (kf (.bn bs)))) aw)
  (af (aU (aD (ae rfl) (ct (ag a7 (ag (gb (bs:=.empty)) aj)) (ble rfl)) (.eq (kf (beq_eq_false_iff_ne.mpr B▸r7.bb bs [])))) aw)
  (af (aU (gX (da (aD (aW (ae rfl) ar (.t (cx (j:=0) rfl (by decide)))) a7 (b:=false) (.eq (.ss _ _)))
    (da (aD (ic (q rfl) (Nat.le_trans n (by decide))) (aW (ae rfl) a7 (.s c rfl)) (decide_eq_false (λz=>Nat.not_lt_of_le hsz (Int.ofNat_lt.mp z))▸eR.gt (bs.length:Int) r.size))
    (da (aD (ae rfl) (gb (bs:=.empty)) (.eq (beq_eq_false_iff_ne.mpr h▸pN.bb r.row []))) fB)))) aw)
  (af (C9 (fW rfl rfl) (eI eC (ag (ic (q rfl) (Nat.le_trans n (by decide))) aj) (by rw[Int.natAbs_natCast];exact Nat.lt_of_le_of_lt n (by decide))) rfl cp (by rw[List.length_map];exact n))
  (af (dK (aG rfl (ct (ag (q rfl) (ag (a8 (aW (v:=.int pn) (ae rfl) a7 (.s c (congrArg (λi=>some (MV.int i)) hp))) (ic (q rfl) (Nat.le_trans n (by decide))) (.add _ _)) aj)) (ble rfl))
   (eL (bw (gY (ae rfl) a7 (.s el (.bytes bs) c (ble rfl))) (bw (gY (ae rfl) a7 (.s dW _ F (ble rfl))) dA)) rfl)) Hp.set_set)
  (az (aY (fS (dr zx (ag (q rfl) aj) (.Ih n)) (ae rfl) (.eq (GD (.inl rfl) (.inl rfl))))) rfl))))))) rfl
end
structure Ke(H:Hp)(wi rl n:Nat)(sd:Nat→Nat)(R:Nat→Ro)(ws:Loc):Prop where
 W:Wo H wi rl ((List.range n).map sd) ws
 r:∀i,i<n→H.o .S (sd i)=.bu (R i).fs
theorem du{c:Type}{f:Nat→c}{n i:Nat}(h:i<n):((List.range n).map f)[i]? =some (f i):=by rw[List.getElem?_map,List.getElem?_range h];rfl
theorem bZ{c:Type}{f:Nat→c}{n:Nat}:((List.range n).map f).length=n:=(List.length_map f).trans List.length_range
section
variable{H H' H1 H2:Hp}{k j wi rl at_ n:Nat}{d:Nat}{ρ:Loc}{v:MV}{sd:Nat→Nat}{ws:Loc}{R:Nat→Ro}{Pp:Nat→Pr}{f:Nat→Int}
theorem Ke.len(X:Ke H wi rl n sd R ws)(a:n≤1000){e:XE}(h:Ev d e ρ H (.ref .L rl) H):Ev d (ak cn [e]) ρ H (.int n) H:=
 c6 (by rw[List.length_map,bZ]) (dr eB (ag h aj) (.qE (.inr ⟨rl,rfl,X.W.l⟩) (by rw[List.length_map,bZ];exact Nat.le_trans a (by decide))))
theorem Ke.at(X:Ke H wi rl n sd R ws)(a:n≤1000){e e':XE}{i:Nat}(hi:i<n)(h:Ev d e ρ H (.ref .L rl) H)(h':Ev d e' ρ H (.int i) H):Ev d (aI e e') ρ H (sV (sd i)) H:=
 aW h h' (.l (.inr ⟨rl,rfl,X.W.l⟩) (cx (by rw[List.getElem?_map,du hi];rfl) (Nat.lt_of_lt_of_le hi (Nat.le_trans a (by decide)))))
theorem DN(X:Ke H wi rl n sd R ws)(l:n≤1000)(m:∀i,i<n→H.o .Process (R i).pr=.inst ((Pp i).fs (R i).pr)):Fn 1 881 [sV wi] H (.lst (((List.range n).filter λi=>(R i).there&&(Pp i).state.c.beq aT.c).map λk:Nat=>MV.int k)) H:=by
 have c:=zJ (d:=0) (t:=bE cP) (ns:=[cP]) (ifs:=[(dZ (aI (aI (aa a_) (aa cP)) (a5 bP)) [(aH .Eq (aq (aI (aI (aa a_) (aa cP)) (a5 ah)) bR) (a5 aT))])]) (e:=aa cP) (ρ:=[(aB,sV wi),(a_,.ref .L rl)]) (H:=H) (f:=λk:Nat=>.int k) (g:=λk:Nat=>.int k) (p:=λi=>(R i).there&&(Pp i).state.c.beq aT.c) (ks:=List.range n) (λi hi=>by
  have hi:=List.mem_range.mp hi
  have row:Ev 0 (aI (aa a_) (aa cP)) [(aB,sV wi),(a_,.ref .L rl),(cP,.int i)] H (sV (sd i)) H:=X.at l hi (ae rfl) (ae rfl)
  have a:=cL (aW row a7 (.s (X.r i hi) (n:=bP) rfl)) rfl
  have b:=aD (op:=.Eq) (au (a:=bR) (aW row (a7 (n:=ah)) (.s (X.r i hi) rfl)) (m i hi) rfl rfl) (a7 (n:=aT)) (.eq (.ss _ _))
  refine⟨_,gw,ec ?_,λ_=>ae rfl⟩
  cases h:(R i).there with
  |true=>exact cy (b_ (h▸a) (ec b))
  |false=>exact cy (b3 (h▸a))) oC
 exact aJ uD rfl (af (aG rfl (X.W.rows rfl) aA) (az (aY (fD (fW rfl rfl) (eI eC (ag (X.len l (ae rfl)) aj) (by rw[Int.natAbs_natCast];exact Nat.lt_of_le_of_lt l (by decide))) rfl c (by rw[List.length_map];exact Nat.le_trans (List.length_filter_le ..) (by rw[List.length_range];exact l)))) rfl)) rfl
theorem DO{e:XE}{is:List Nat}{f:Nat→Int}(h:Ev d e ρ H (.lst (is.map λk=>.int (f k))) H):Ev d (ak Fd [e]) ρ H (.int (is.map f).sum) H:=
 dr JP (ag h aj) (.sum (.inl (congrArg MV.lst (List.map_map (f:=f) (g:=MV.int)).symm)))
theorem GF(X:Ke H wi rl n sd R ws)(b:n≤1000)(p:∀i,i<n→H.o .Process (R i).pr=.inst ((Pp i).fs (R i).pr))(m:∀i,i<n→(R i).hand.length≤1000000)(hp:look b9 ws=some (.lst ((List.range n).map gm)))(c:∀i,i<n→∃q:Pi,H.o .b8 i=.inst q.fs∧(q.wc:Int)-q.rc=f i):
  Fn 2 886 [sV wi] H (.int (((List.range n).map f).sum+((List.range n).map λi=>((R i).hand.length:Int)-(Pp i).prog).sum)) H:=by
 have x:=iL (d:=1) (t:=bE bC) (ns:=[bC]) (e:=ao (aa bC) gc []) (ρ:=[(aB,sV wi)]) (H:=H) (f:=gm) (g:=λi=>.int (f i)) (ks:=List.range n) (λi hi=>(c i (List.mem_range.mp hi)).elim λq h=>⟨_,gw,h.2▸bU j3 rfl (ae rfl) h.1 rfl aj (sy h.1)⟩) ng
 have u:∀{a:MV},rA 1 (bE b6) [b6] [] (aL .Sub (ak cn [(aI (aa b6) (a5 el))]) (aq (aI (aa b6) (a5 ah)) di)) [(aB,sV wi),(de,a)] (List.range n).length (.lst rl 0) H ((List.range n).map λi=>.int (((R i).hand.length:Int)-(Pp i).prog)) H:=λ{a}=>
  iL (f:=λi=>sV (sd i)) (λi hi=>⟨_,gw,a8 (ic (aW (ae rfl) a7 (.s (X.r i (List.mem_range.mp hi)) rfl)) (m i (List.mem_range.mp hi))) (au (aW (ae rfl) a7 (.s (X.r i (List.mem_range.mp hi)) rfl)) (p i (List.mem_range.mp hi)) rfl rfl) (.sub _ _)⟩) (ke (j:=0) X.W.l (by rw[List.map_map];rfl))
 exact aJ wA rfl (af (aG rfl (DO (fD (fW rfl rfl) (eM (aW (ae rfl) a7 (.s X.W.w hp)) (.s _)) rfl x (by rw[bZ];exact b))) aA)
  (az (aY (a8 (ae rfl) (DO (fD (fW rfl rfl) (eM (X.W.rows rfl) (.l X.W.l)) rfl u (by rw[bZ];exact b))) (.add _ _))) rfl)) rfl
end
structure Qi where
 c:List UInt8
 ro:Bool
 wo:Bool
noncomputable def oV(f:Nat→MV):Option Nat→MV
 |none=>.none
 |some k=>f k
inductive Sg where
 |unused|fresh|ready|ax|cz
 deriving DecidableEq
noncomputable def Sg.nm:Sg→Nm
 | .unused=>bf
 | .fresh=>cO
 | .ready=>aT
 | .ax=>cY
 | .cz=>gI
structure Pw where
 pid:Int
 st:Sg
 par:Bool
 fl:Option Nat
 name:Nm
 ch:Ch
 kl:Bool
 Mc:Int
 prog:Nat
 pC:MV
noncomputable def Pw.pr(p:Pw):Pr:=⟨p.pid,p.st.nm,bif p.par then br 0 else .none,oV gF p.fl,p.name,p.ch.v,p.kl,p.Mc,p.prog,p.pC⟩
structure Wd where
 n:Nat
 R:Nat
 nx:Int
 P:Nat→Pw
 F:Nat→Fi
 nf:Nat
 Q:Nat→Qi
 nq:Nat
 rb:Nat→Nat
 D:Nat→List MV
 dl:Nat→Nat
 nd:Nat
 op:List Nat
 ol:Option Nat
 pt:List Nat
 X:Nat→Option (List MV)
 S:Nat→MO
 ns:Nat
noncomputable def upd{a:Type}(f:Nat→a)(k:Nat)(x:a):Nat→a:=λj=>if j=k then x else f j
theorem aE{a:Type}{f:Nat→a}{k:Nat}{x:a}:upd f k x k=x:=if_pos rfl
theorem aQ{a:Type}{f:Nat→a}{k j:Nat}{x:a}(h:j≠k):upd f k x j=f j:=if_neg h
theorem bp{a:Type}(p:a→Prop){f:Nat→a}{k j:Nat}{x:a}(b:j=k→p x)(h2:j≠k→p (f j)):p (upd f k x j):=by
 unfold upd
 by_cases e:j=k
 ·rw[if_pos e];exact b e
 ·rw[if_neg e];exact h2 e
noncomputable def Wd.ov(w:Wd):MV:=match w.ol with
 |some j=>.ref .L j
 |none=>.lst (w.op.map bV)
noncomputable def Lf(n:Nat)(v:MV):Loc:=[(ea,.int (2*n:Nat)),(b9,Io),(eX,.none),(dd,.none),(dp,.ref .D 1),(lp,.int 16),(fv,v)]
noncomputable def MH:Loc:=[(bH,eU),(aZ,jq),(eX,.none),(jK,.none),(dd,.none),(dp,.ref .D 2),(ti,.int 0)]
noncomputable abbrev Wd.tb(w:Wd):Loc:=u0 (List.range (w.n+1)) w.nx w.n (br 0)
def PR(H:Hp)(R k g:Nat)(q:Qi):Prop:=∃rc ring,H.o .b8 k=.inst (Pi.fs ⟨k,R,g,rc,rc+q.c.length,q.ro,q.wo⟩)∧H.o .B g=.dD ring∧ring.length=R∧q.c.length≤R∧g8 R ring rc q.c.length=q.c
noncomputable def u1(l:List Nat):List (Int×MV):=l.map λk:Nat=>((k:Int),gm k)
structure Rep(H:Hp)(w:Wd):Prop where
 n5:w.n≤5
 R0:0<w.R
 R4:w.R≤10
 pc:H.o .aM 0=.inst [(bc,xf)]
 pa:H.o .Parts 0=.inst MH
 tb:H.o .Table 0=.inst w.tb
 ft:H.o .bI 0=.inst (Lf w.n w.ov)
 P:∀k,k≤w.n→H.o .Process k=.inst ((w.P k).pr.fs k)
 F:∀k,k<w.nf→H.o .aK k=.inst (w.F k).fs∧(w.F k).p<w.nq
 nf:H.n .aK=w.nf
 Q:∀k,k<w.nq→PR H w.R k (w.rb k) (w.Q k)∧w.rb k<H.n .B
 Qj:∀j k,j<w.nq→k<w.nq→w.rb j=w.rb k→j=k
 nq:H.n .b8=w.nq
 D:∀k,k<w.nd→H.o .Descriptors k=.inst (uZ 4 (w.dl k))∧H.o .L (w.dl k)=.list (w.D k)∧(w.D k).length=4∧w.dl k<H.n .L∧w.X (w.dl k)=none
 Dj:∀j k,j<w.nd→k<w.nd→w.dl j=w.dl k→j=k
 nd:H.n .Descriptors=w.nd
 ol:∀j,w.ol=some j→H.o .L j=.list (w.op.map bV)∧j<H.n .L∧w.X j=none∧∀k,k<w.nd→w.dl k≠j
 op:w.op.length≤10∧∀f,f∈w.op→f<w.nf
 pt:H.o .cm 0=.inst (Ka w.R w.nq 0)
 E2:H.o .D 0=.dy (u1 w.pt)
 Lg:w.pt.length≤10
 X:∀a vs,w.X a=some vs→H.o .L a=.list vs∧a<H.n .L
 S:H.o .S=w.S
 ns:H.n .S=w.ns
theorem Rep.K{H:Hp}{w:Wd}(r:Rep H w):pD H MH w.tb (Lf w.n w.ov):=⟨r.pc,r.pa,r.tb,r.ft,rfl,rfl⟩
section
variable{H H':Hp}{w:Wd}{k:Nat}
theorem Rep.ps(r:Rep H w):Ps H (λk=>(w.P k).pr) (List.range (w.n+1)):=λk hk=>r.P k (Nat.le_of_lt_succ (List.mem_range.mp hk))
theorem PR.of{R g:Nat}{q:Qi}(h:PR H R k g q)(e:H'.o .b8 k=H.o .b8 k)(e':H'.o .B g=H.o .B g):PR H' R k g q:=h.imp λrc h=>h.imp λring h=>⟨e.trans h.1,e'.trans h.2.1,h.2.2⟩
theorem Rep.oD(r:Rep H w)(k:Nat)(p:Pw):Rep (dT H k p.pr) {w with P:=upd w.P k p}:=
 {r with
  P:=λj a=>(Decidable.em (j=k)).elim (λe=>e▸Hp.bQ.trans (congrArg (λp:Pw=>MO.inst (p.pr.fs j)) (e▸aE.symm))) λe=>(Hp.b4 λz:Cl.Process=.Process∧j=k=>e z.2).trans ((r.P j a).trans (congrArg (λp:Pw=>MO.inst (p.pr.fs j)) (aQ e).symm))
  Q:=λj a=>⟨(r.Q j a).1.of rfl rfl,(r.Q j a).2⟩}
theorem Rep.lY(r:Rep H w){P:Nat→Pw}(h:∀k,k≤w.n→P k=w.P k):Rep H {w with P:=P}:={r with P:=λj a=>(r.P j a).trans (congrArg (λp:Pw=>MO.inst (p.pr.fs j)) (h j a).symm)}
theorem Rep.Kg(r:Rep H w)(hk:k<w.nf)(f:Fi)(hp:f.p=(w.F k).p):Rep (H.set .aK k (.inst f.fs)) {w with F:=upd w.F k f}:=
 {r with
  F:=λj a=>(Decidable.em (j=k)).elim (λe=>by cases e;exact⟨Hp.bQ.trans (congrArg (λf:Fi=>MO.inst f.fs) aE.symm),(congrArg Fi.p aE).trans hp▸(r.F k hk).2⟩)
   λe=>⟨(Hp.b4 λz:Cl.aK=.aK∧j=k=>e z.2).trans ((r.F j a).1.trans (congrArg (λf:Fi=>MO.inst f.fs) (aQ e).symm)),(congrArg Fi.p (aQ e)).symm▸(r.F j a).2⟩
  Q:=λj a=>⟨(r.Q j a).1.of rfl rfl,(r.Q j a).2⟩}
theorem Rep.GG(r:Rep H w)(hk:k<w.nd){l:List MV}(hl:l.length=4):Rep (H.set .L (w.dl k) (.list l)) {w with D:=upd w.D k l}:=
 {r with
  Q:=λj b=>⟨(r.Q j b).1.of rfl rfl,(r.Q j b).2⟩
  D:=λj b=>(Decidable.em (j=k)).elim (λe=>by cases e;exact⟨(r.D k hk).1,Hp.bQ.trans (congrArg MO.list aE.symm),(congrArg List.length aE).trans hl,(r.D k hk).2.2.2⟩)
   λe=>⟨(r.D j b).1,(Hp.b4 λz:Cl.L=.L∧w.dl j=w.dl k=>e (r.Dj j k b hk z.2)).trans ((r.D j b).2.1.trans (congrArg MO.list (aQ e).symm)),(congrArg List.length (aQ e)).trans (r.D j b).2.2.1,(r.D j b).2.2.2⟩
  ol:=λj h=>⟨(Hp.b4 λz:Cl.L=.L∧j=w.dl k=>(r.ol j h).2.2.2 k hk z.2.symm).trans (r.ol j h).1,(r.ol j h).2⟩
  X:=λa vs h=>⟨(Hp.b4 λz:Cl.L=.L∧a=w.dl k=>nomatch (show some vs=none from h.symm.trans ((congrArg w.X z.2).trans (r.D k hk).2.2.2.2))).trans (r.X a vs h).1,(r.X a vs h).2⟩}
theorem Rep.setOp(r:Rep H w){l:List Nat}(hl:l.length≤10∧∀f,f∈l→f<w.nf):Rep (H.set .bI 0 (.inst (Lf w.n (.lst (l.map bV))))) {w with op:=l,ol:=none}:=
 {r with
  ft:=Hp.bQ
  Q:=λj a=>⟨(r.Q j a).1.of rfl rfl,(r.Q j a).2⟩
  ol:=λ_ h=>nomatch h
  op:=hl}
theorem Rep.Md(r:Rep H w){l:List Nat}(hl:l.length≤10):Rep (H.set .D 0 (.dy (u1 l))) {w with pt:=l}:=
 {r with
  Q:=λj a=>⟨(r.Q j a).1.of rfl rfl,(r.Q j a).2⟩
  E2:=Hp.bQ
  Lg:=hl}
theorem Rep.GH(r:Rep H w){b vs:List MV}(h:w.X k=some b):Rep (H.set .L k (.list vs)) {w with X:=upd w.X k (some vs)}:=
 have ne:∀{a:Nat},w.X a=none→a≠k:=λq e=>nomatch (show none=some b from q.symm.trans ((congrArg w.X e).trans h))
 {r with
  Q:=λj c=>⟨(r.Q j c).1.of rfl rfl,(r.Q j c).2⟩
  D:=λj c=>have D:=r.D j c;⟨D.1,(Hp.b4 λz:Cl.L=.L∧w.dl j=k=>ne D.2.2.2.2 z.2).trans D.2.1,D.2.2.1,D.2.2.2.1,(aQ (ne D.2.2.2.2)).trans D.2.2.2.2⟩
  ol:=λj q=>have O:=r.ol j q;⟨(Hp.b4 λz:Cl.L=.L∧j=k=>ne O.2.2.1 z.2).trans O.1,O.2.1,(aQ (ne O.2.2.1)).trans O.2.2.1,O.2.2.2⟩
  X:=λa us q=>(Decidable.em (a=k)).elim (λe=>by subst e;exact Option.some.inj (aE.symm.trans q)▸⟨Hp.bQ,(r.X _ _ h).2⟩) λe=>have X:=r.X a us ((aQ e).symm.trans q);⟨(Hp.b4 λz:Cl.L=.L∧a=k=>e z.2).trans X.1,X.2⟩}
theorem Rep.Kh(r:Rep H w){v:MO}:Rep (H.set .S k v) {w with S:=upd w.S k v}:=
 {r with
  Q:=λj a=>⟨(r.Q j a).1.of rfl rfl,(r.Q j a).2⟩
  S:=funext λj=>by
   show(if Cl.S=.S∧j=k then v else H.o .S j)=if j=k then v else w.S j
   rw[r.S]
   by_cases e:j=k
   ·rw[if_pos ⟨rfl,e⟩,if_pos e]
   ·rw[if_neg λz=>e z.2,if_neg e]}
end
theorem Ki{R a b:Nat}(c:a<b)(h2:b<a+R):b%R≠a%R:=λe=>by
 have z:=Nat.sub_mod_eq_zero_of_mod_eq e
 rw[Nat.mod_eq_of_lt (Nat.sub_lt_left_of_lt_add (Nat.le_of_lt c) h2)]at z
 exact Nat.not_le_of_lt c (Nat.le_of_sub_eq_zero z)
theorem DP{R m:Nat}{x:UInt8}{ring:List UInt8}{n:Nat}:∀{rc:Nat},rc+n≤m→m<rc+R→g8 R (ring.set (m%R) x) rc n=g8 R ring rc n:=by
 induction n with
 |zero=>exactλ_ _=>rfl
 |succ n ih=>
  intro rc a h2
  have b:rc<m:=Nat.lt_of_lt_of_le (Nat.lt_add_of_pos_right (Nat.succ_pos n)) a
  show(ring.set (m%R) x).getD (rc%R) 0::g8 R (ring.set (m%R) x) (rc+1) n=ring.getD (rc%R) 0::g8 R ring (rc+1) n
  rw[ih (Nat.succ_add_eq_add_succ rc n▸a) (Nat.lt_trans h2 (Nat.add_lt_add_right (Nat.lt_succ_self rc) R)),List.getD_eq_getElem?_getD,List.getD_eq_getElem?_getD,List.getElem?_set_ne (Ki b h2)]
theorem Ba{R:Nat}{ring:List UInt8}{n:Nat}:∀{rc:Nat},g8 R ring rc (n+1)=g8 R ring rc n++[ring.getD ((rc+n)%R) 0]:=by
 induction n with
 |zero=>exactλ{rc}=>rfl
 |succ n ih=>exactλ{rc}=>(congrArg (ring.getD (rc%R) 0:: ·) (ih (rc:=rc+1))).trans (by rw[Nat.add_right_comm rc 1 n];rfl)
theorem DQ{R:Nat}{us:List UInt8}:∀{c ring:List UInt8}{rc:Nat},ring.length=R→c.length+us.length≤R→g8 R ring rc c.length=c→g8 R (qV R ring (rc+c.length) us) rc (c.length+us.length)=c++us:=by
 induction us with
 |nil=>exactλ{c ring rc} _ _ h=>h.trans (List.append_nil c).symm
 |cons x us ih=>
  intro c ring rc hl a h
  have a:c.length+(us.length+1)≤R:=a
  have h2:c.length<R:=Nat.lt_of_lt_of_le (Nat.lt_add_of_pos_right (Nat.succ_pos us.length)) a
  have b:c.length+1+us.length=c.length+(us.length+1):=Nat.succ_add_eq_add_succ c.length us.length
  have e:g8 R (ring.set ((rc+c.length)%R) x) rc (c++[x]).length=c++[x]:=by
   rw[List.length_append]
   show g8 R _ rc (c.length+1)=_
   rw[Ba,DP (Nat.le_refl _) (Nat.add_lt_add_left h2 rc),h,List.getD_eq_getElem?_getD,List.getElem?_set_self (by rw[hl];exact Nat.mod_lt _ (Nat.lt_of_le_of_lt (Nat.zero_le _) h2))]
   rfl
  have go:=ih (c:=c++[x]) (ring:=ring.set ((rc+c.length)%R) x) (rc:=rc) (List.length_set.trans hl) (by rw[List.length_append];exact b▸a) e
  rw[List.length_append,List.append_assoc]at go
  have d:c.length+(x::us).length=c.length+[x].length+us.length:=b.symm
  rw[d]
  exact go
theorem yp{R:Nat}{ring:List UInt8}{n:Nat}:∀{m rc:Nat},n≤m→g8 R ring rc n=(g8 R ring rc m).take n∧g8 R ring (rc+n) (m-n)=(g8 R ring rc m).drop n:=by
 induction n with
 |zero=>exactλ{m rc} _=>⟨List.take_zero.symm,rfl⟩
 |succ n ih=>
  intro m rc h
  cases m with
  |zero=>exact absurd h (Nat.not_succ_le_zero n)
  |succ m=>
   have go:=ih (rc:=rc+1) (Nat.le_of_succ_le_succ h)
   exact⟨congrArg (ring.getD (rc%R) 0:: ·) go.1,by rw[Nat.succ_sub_succ,show rc+(n+1)=rc+1+n from(Nat.succ_add_eq_add_succ rc n).symm];exact go.2⟩
section
variable{H H':Hp}{w:Wd}{k:Nat}
theorem Rep.Kj(r:Rep H w)(hk:k<w.nq){q:Qi}(n:H'.n=H.n∨(H'.n .B=H.n .B+1∧∀c,c≠ .B→H'.n c=H.n c))(o:∀c,c≠ .B→c≠ .b8→H'.o c=H.o c)(op:∀j,j≠k→H'.o .b8 j=H.o .b8 j)(f:∀g,g<H.n .B→g≠w.rb k→H'.o .B g=H.o .B g)(q':PR H' w.R k (w.rb k) q):Rep H' {w with Q:=upd w.Q k q}:=
 have nn:∀c,c≠ .B→H'.n c=H.n c:=λc i=>n.elim (λe=>congrFun e c) λe=>e.2 c i
 have nb:H.n .B≤H'.n .B:=n.elim (λe=>Nat.le_of_eq (congrFun e .B).symm) λe=>e.1▸Nat.le_succ _
 have b:∀{c:Cl}{j:Nat}{v:MO},c≠ .B→c≠ .b8→H.o c j=v→H'.o c j=v:=λ{c j v} h h' e=>(congrFun (o c h h') j).trans e
 {r with
  pc:=b (by decide) (by decide) r.pc
  pa:=b (by decide) (by decide) r.pa
  tb:=b (by decide) (by decide) r.tb
  ft:=b (by decide) (by decide) r.ft
  P:=λj d=>b (by decide) (by decide) (r.P j d)
  F:=λj d=>⟨b (by decide) (by decide) (r.F j d).1,(r.F j d).2⟩
  nf:=(nn .aK (by decide)).trans r.nf
  Q:=λj d=>⟨bp (PR H' w.R j (w.rb j)) (λe=>e▸q') λe=>(r.Q j d).1.of (op j e) (f _ (r.Q j d).2 λz=>e (r.Qj j k d hk z)),Nat.lt_of_lt_of_le (r.Q j d).2 nb⟩
  nq:=(nn .b8 (by decide)).trans r.nq
  D:=λj d=>have D:=r.D j d;⟨b (by decide) (by decide) D.1,b (by decide) (by decide) D.2.1,D.2.2.1,(nn .L (by decide)).symm▸D.2.2.2.1,D.2.2.2.2⟩
  nd:=(nn .Descriptors (by decide)).trans r.nd
  ol:=λj h=>have O:=r.ol j h;⟨b (by decide) (by decide) O.1,(nn .L (by decide)).symm▸O.2.1,O.2.2⟩
  pt:=b (by decide) (by decide) r.pt
  E2:=b (by decide) (by decide) r.E2
  X:=λa vs h=>⟨b (by decide) (by decide) (r.X a vs h).1,(nn .L (by decide)).symm▸(r.X a vs h).2⟩
  S:=(o .S (by decide) (by decide)).trans r.S
  ns:=(nn .S (by decide)).trans r.ns}
theorem GI{R c b rc a:Nat}(d:c≤R)(ht:a=min b (R-c)):(a:Int)=min (b:Int) ((R:Int)-(((rc+c:Nat):Int)-(rc:Nat))):=by
 rw[ht,Int.natCast_add,Int.add_comm,Int.add_sub_cancel,←Int.ofNat_sub d]
 exact(Nat.le_total b (R-c)).elim (λh=>by rw[Nat.min_eq_left h,Int.min_eq_left (Int.ofNat_le.mpr h)]) λh=>by rw[Nat.min_eq_right h,Int.min_eq_right (Int.ofNat_le.mpr h)]
theorem wR(r:Rep H w)(hk:k<w.nq){bs:List UInt8}(b:(w.Q k).ro=true)(hb:bs.length≤1000){a:Nat}(ht:a=min bs.length (w.R-(w.Q k).c.length)):
  ∃H',Fn 3 133 [gm k,.bytes bs] H (.tup [.int a,.int (if a=bs.length then 0 else 1)]) H'∧Rep H' {w with Q:=upd w.Q k ⟨(w.Q k).c++bs.take a,(w.Q k).ro,(w.Q k).wo⟩}:=
 (r.Q k hk).1.elim λrc z=>z.elim λring z=>
  have lt:(bs.take a).length=a:=List.length_take_of_le (ht▸Nat.min_le_left ..)
  have le:(w.Q k).c.length+a≤w.R:=ht▸Nat.le_trans (Nat.add_le_add_left (Nat.min_le_right ..) _) (Nat.le_of_eq (Nat.add_sub_cancel' z.2.2.2.1))
  have d:((w.Q k).c++bs.take a).length=(w.Q k).c.length+a:=List.length_append.trans (congrArg ((w.Q k).c.length+ ·) lt)
  ⟨_,Dt z.1 z.2.1 z.2.2.1 r.R0 r.R4 b hb (GI z.2.2.2.1 ht),r.Kj hk (.inl rfl) (λc h h'=>funext λj=>(Hp.b4 λz=>h' z.1).trans (Hp.b4 λz=>h z.1)) (λj f=>(Hp.b4 λz=>f z.2)) (λg i e=>Hp.b4 λz=>e z.2)
   ⟨rc,qV w.R ring (rc+(w.Q k).c.length) (bs.take a),Hp.bQ.trans (congrArg (λn=>MO.inst (Pi.fs ⟨k,w.R,w.rb k,rc,n,(w.Q k).ro,(w.Q k).wo⟩)) ((congrArg (rc+(w.Q k).c.length+ ·) lt).trans ((Nat.add_assoc ..).trans (congrArg (rc+ ·) d.symm)))),
    (Hp.b4 (by intro z;exact nomatch z.1)).trans Hp.bQ,Dr.trans z.2.2.1,d▸le,List.length_append▸DQ z.2.2.1 (lt.symm▸le) z.2.2.2.2⟩⟩
theorem DR{rc l:Nat}{c:Nat}{q:List UInt8}{b:Bool}(e:l=q.length)(a:¬(q=[]∧b=true)):(decide (0<c)&&(decide (rc+l=rc)&&b))=false:=by
 cases b with
 |false=>rw[Bool.and_false,Bool.and_false]
 |true=>rw[decide_eq_false (p:=rc+l=rc) λz=>a ⟨List.eq_nil_of_length_eq_zero (e▸Nat.add_left_cancel (n:=rc) z),rfl⟩,Bool.false_and,Bool.and_false]
theorem wU{c:Nat}{l:List UInt8}:l.drop (min c l.length)=l.drop c:=(Nat.le_total c l.length).elim (λh=>by rw[Nat.min_eq_left h]) λh=>by rw[Nat.min_eq_right h,List.drop_eq_nil_of_le (Nat.le_refl _),List.drop_eq_nil_of_le h]
theorem GJ(r:Rep H w)(hk:k<w.nq){c:Nat}(b:¬((w.Q k).c=[]∧(w.Q k).wo=true)):
  ∃H',Fn 3 140 [gm k,.int c] H (.tup [.bytes ((w.Q k).c.take c),.int 0]) H'∧Rep H' {w with Q:=upd w.Q k ⟨(w.Q k).c.drop c,(w.Q k).ro,(w.Q k).wo⟩}:=
 (r.Q k hk).1.elim λrc z=>z.elim λring z=>by
  have a:min c (w.Q k).c.length≤(w.Q k).c.length:=Nat.min_le_right ..
  have sp:=yp (R:=w.R) (ring:=ring) (rc:=rc) a
  rw[z.2.2.2.2,wU,←List.take_take,List.take_length]at sp
  have ld:(w.Q k).c.length-min c (w.Q k).c.length=((w.Q k).c.drop c).length:=List.length_drop.symm.trans (congrArg List.length wU)
  have f:=Gm (c:=c) (n:=min c (w.Q k).c.length) z.1 z.2.1 (r.Q k hk).2 r.R0 z.2.2.1 r.R4 (Nat.le_trans a (Nat.le_trans z.2.2.2.1 (Nat.le_trans r.R4 (by decide)))) (Nat.min_le_left ..) (Nat.add_le_add_left a rc) ((Nat.le_total c (w.Q k).c.length).imp Nat.min_eq_left λh=>congrArg (rc+ ·) (Nat.min_eq_right h)) (DR rfl b)
  have f:=sp.1▸f
  exact⟨_,f,r.Kj hk (.inr ⟨rfl,λc h=>if_neg h⟩) (λc h h'=>funext λj=>(Hp.b4 λz=>h' z.1).trans (Hp.eh λz=>h z.1)) (λj d=>(Hp.b4 λz=>d z.2).trans (Hp.eh (by intro z;exact nomatch z.1))) (λg e i=>(Hp.b4 (by intro z;exact nomatch z.1)).trans (Hp.eh λz=>Nat.ne_of_lt e z.2))
   ⟨rc+min c (w.Q k).c.length,ring,Hp.bQ.trans (congrArg (λn=>MO.inst (Pi.fs ⟨k,w.R,w.rb k,rc+min c (w.Q k).c.length,n,(w.Q k).ro,(w.Q k).wo⟩)) ((congrArg (rc+ ·) ((Nat.add_sub_cancel' a).symm.trans (congrArg (min c (w.Q k).c.length+ ·) ld))).trans (Nat.add_assoc ..).symm)),
    (Hp.b4 (by intro z;exact nomatch z.1)).trans ((Hp.eh λy=>Nat.ne_of_lt (r.Q k hk).2 y.2).trans z.2.1),z.2.2.1,ld▸Nat.le_trans (Nat.sub_le ..) z.2.2.2.1,ld▸sp.2⟩⟩
noncomputable def Qi.kW(q:Qi)(b:Bool):Qi:=⟨q.c,q.ro&&b,q.wo&& !b⟩
theorem Rep.kW(r:Rep H w)(hk:k<w.nq)(b:Bool):∃q:Pi,q.id=k∧q.ro=(w.Q k).ro∧q.wo=(w.Q k).wo∧H.o .b8 k=.inst q.fs∧Rep (H.set .b8 k (.inst (q.cl b).fs)) {w with Q:=upd w.Q k ((w.Q k).kW b)}:=
 (r.Q k hk).1.elim λrc q=>q.elim λring q=>⟨_,rfl,rfl,rfl,q.1,r.Kj hk (.inl rfl) (λc h h'=>funext λj=>Hp.b4 λz=>h' z.1) (λj a=>Hp.b4 λz=>a z.2) (λg e d=>rfl)
  ⟨rc,ring,by cases b<;>(unfold Qi.kW;simp only[Bool.and_true,Bool.and_false,Bool.not_true,Bool.not_false];exact Hp.bQ),q.2⟩⟩
end
theorem Nu{H:Hp}{a b c a' b' c':MV}{x y z:Bool}(f:r7 a a' x)(h2:r7 b b' y)(d:r7 c c' z):pN H (.tup [a,b,c]) (.tup [a',b',c']) (x&&(y&&z)):=by
 have t:=pN.tt (H:=H) [a,b,c] [a',b',c'] (λj=>bif j.beq 0 then x else bif j.beq 1 then y else z) (λj u v p q=>match j,p,q with
  |0,p,q=>Option.some.inj p▸Option.some.inj q▸f
  |1,p,q=>Option.some.inj p▸Option.some.inj q▸h2
  |2,p,q=>Option.some.inj p▸Option.some.inj q▸d
  |_+3,p,_=>nomatch p)
 have e:((List.range (min [a,b,c].length [a',b',c'].length)).all (λj=>bif j.beq 0 then x else bif j.beq 1 then y else z)&&[a,b,c].length==[a',b',c'].length)=(x&&(y&&z)):=by
  show((x&&(y&&(z&&true)))&&true)=_
  rw[Bool.and_true,Bool.and_true]
 exact e▸t
theorem OR{H:Hp}{a b c a' b':MV}{x y:Bool}(d:r7 a a' x)(h2:r7 b b' y):pN H (.tup [a,b,c]) (.tup [a',b']) false:=by
 have t:=pN.tt (H:=H) [a,b,c] [a',b'] (λj=>bif j.beq 0 then x else y) (λj u v p q=>match j,p,q with
  |0,p,q=>Option.some.inj p▸Option.some.inj q▸d
  |1,p,q=>Option.some.inj p▸Option.some.inj q▸h2
  |_+2,_,q=>nomatch q)
 exact(Bool.and_false _:((List.range (min [a,b,c].length [a',b'].length)).all (λj=>bif j.beq 0 then x else y)&&[a,b,c].length==[a',b'].length)=false)▸t
theorem OS{H:Hp}{a b c a' b':MV}{x y:Bool}(d:r7 a' a x)(h2:r7 b' b y):pN H (.tup [a',b']) (.tup [a,b,c]) false:=by
 have t:=pN.tt (H:=H) [a',b'] [a,b,c] (λj=>bif j.beq 0 then x else y) (λj u v p q=>match j,p,q with
  |0,p,q=>Option.some.inj p▸Option.some.inj q▸d
  |1,p,q=>Option.some.inj p▸Option.some.inj q▸h2
  |_+2,p,_=>nomatch p)
 exact(Bool.and_false _:((List.range (min [a',b'].length [a,b,c].length)).all (λj=>bif j.beq 0 then x else y)&&[a',b'].length==[a,b,c].length)=false)▸t
theorem Kk{H:Hp}:∀{a b:Ch},b≠ .none→eR H .Eq a.v b.v (decide (a=b))
 |_,.none,h=>absurd rfl h
 | .none,.pipe _ _,_=>.nt _
 | .none,.child _,_=>.nt _
 | .pipe _ _,.child _,_=>.eq (OR (.ss _ _) (.ii _ _))
 | .child _,.pipe _ _,_=>.eq (OS (.ss _ _) (.ii _ _))
 | .child i,.child k,_=>(decide_eq_decide.mpr ⟨λe=>e▸rfl,λe=>Ch.child.inj e⟩:decide (i=k)=decide (Ch.child i=Ch.child k))▸ .eq (kf (.ii i k))
 | .pipe j u,.pipe k v,_=>by
  have t:=Nu (H:=H) (.ss bC bC) (.ii (j:Int) k) (.ii (if u then 1 else 0) (if v then 1 else 0))
  have e:(bC.c.beq bC.c&&(decide ((j:Int)=k)&&decide (((if u then 1 else 0):Int)=if v then 1 else 0)))=decide (Ch.pipe j u=Ch.pipe k v):=by
   by_cases h:j=k
   ·subst h
    rw[decide_eq_true (rfl:(j:Int)=j),Nat.beq_refl]
    cases u<;>cases v<;>first|exact(decide_eq_true rfl).symm|exact(decide_eq_false nofun).symm
   ·rw[decide_eq_false (p:=(j:Int)=k) λz=>h (Int.ofNat.inj z),decide_eq_false λz=>h (Ch.pipe.inj z).1]
    exact Bool.and_false _
  exact .eq (e▸t)
noncomputable def Pw.wake(p:Pw)(c:Ch):Pw:=if p.st=.ax∧p.ch=c then{p with st:=.ready,ch:=.none}else p
noncomputable def Wd.wake(w:Wd)(c:Ch):Wd:={w with P:=λk=>(w.P k).wake c}
theorem Kl{p:Pw}{c:Ch}(h:c≠ .none):pR p.pr c.v (decide (p.st=.ax∧p.ch=c)):=by
 by_cases e:p.st=.ax
 ·exact .inr ⟨congrArg Sg.nm e,λH=>(decide_eq_decide.mpr ⟨λz=>⟨e,z⟩,λz=>z.2⟩:decide (p.ch=c)=decide (p.st=.ax∧p.ch=c))▸Kk h⟩
 ·refine .inl ⟨?_,decide_eq_false λz=>e z.1⟩
  show p.st.nm.c.beq _=false
  cases h:p.st<;>first|rfl|exact absurd h e
section
variable{H H':Hp}{w:Wd}{k:Nat}
theorem DS{B:Nat→Bool}{P:Nat→Pw}{q:Nat→Pw}(b:∀k,{(P k).pr with state:=aT,fm:=.none}=(q k).pr){ks:List Nat}:∀{H:Hp}{w:Wd},Rep H w→Rep (wD (λk=>(P k).pr) B ks H) {w with P:=λj=>if j∈ks∧B j=true then q j else w.P j}:=by
 induction ks with
 |nil=>exactλ{H w} r=>r.lY λk hk=>if_neg λz=>nomatch z.1
 |cons k ks ih=>
  intro H w r
  show Rep (wD (λk=>(P k).pr) B ks (bif B k then dT H k {(P k).pr with state:=aT,fm:=.none}else H)) _
  have a:∀{j},j≠k→((j∈k::ks∧B j=true)↔(j∈ks∧B j=true)):=λe=>⟨λz=>⟨(List.mem_cons.mp z.1).resolve_left e,z.2⟩,λz=>⟨List.mem_cons_of_mem _ z.1,z.2⟩⟩
  cases hb:B k with
  |false=>
   refine(ih r).lY λj c=>?_
   by_cases e:j=k
   ·have nb:¬B j=true:=λz=>Bool.false_ne_true (hb.symm.trans (e▸z))
    exact(if_neg λz=>nb z.2).trans (if_neg λz=>nb z.2).symm
   ·exact ite_congr (propext (a e)) (λ_=>rfl) λ_=>rfl
  |true=>
   refine(ih (show Rep (dT H k {(P k).pr with state:=aT,fm:=.none}) {w with P:=upd w.P k (q k)}from(b k).symm▸r.oD k (q k))).lY λj c=>?_
   by_cases e:j=k
   ·subst e
    exact(if_pos ⟨List.mem_cons_self ..,hb⟩).trans ((congrArg (λx=>if j∈ks∧B j=true then q j else x) (aE (f:=w.P))).trans (ite_self _)).symm
   ·exact ite_congr (propext (a e)) (λ_=>rfl) λ_=>(aQ e).symm
theorem lZ(r:Rep H w){c:Ch}(b:c≠ .none):∃a H',Fn 3 777 [eU,c.v] H (.int a) H'∧Rep H' (w.wake c):=
 ⟨_,_,Dq rfl rfl rfl (λk=>Kl (p:=w.P k) b) List.nodup_range r.ps r.tb,(DS (P:=w.P) (q:=λk=>{w.P k with st:=.ready,ch:=.none}) (λ_=>rfl) r).lY λk hk=>by
  show(w.P k).wake c=if k∈List.range (w.n+1)∧decide ((w.P k).st=.ax∧(w.P k).ch=c)=true then _ else _
  unfold Pw.wake
  by_cases e:(w.P k).st=.ax∧(w.P k).ch=c
  ·rw[if_pos e,if_pos ⟨List.mem_range.mpr (Nat.lt_succ_of_le hk),decide_eq_true e⟩]
  ·rw[if_neg e,if_neg λz=>e (of_decide_eq_true z.2)]⟩
end
theorem sG{k:Nat}{os:List Nat}:((os.map bV).filter (Dy k)).map id=(os.filter λj=> !(j.beq k)).map bV:=by
 rw[List.map_id,List.filter_map]
 rfl
theorem DT{k:Nat}{l:List Nat}(h:k∈l):jT (k:Int) (u1 l)=some (gm k):=by
 induction l with
 |nil=>exact nomatch h
 |cons j l ih=>
  show(bif decide ((j:Int)=k)then some (gm j)else jT k (u1 l))=_
  by_cases e:j=k
  ·rw[decide_eq_true (p:=(j:Int)=k) (congrArg Int.ofNat e),e];rfl
  ·rw[decide_eq_false (p:=(j:Int)=k) λz=>e (Int.ofNat.inj z)]
   exact ih ((List.mem_cons.mp h).resolve_left λz=>e z.symm)
theorem GK{k:Nat}{l:List Nat}:xN (k:Int) (u1 l)=u1 (l.erase k):=by
 induction l with
 |nil=>rfl
 |cons j l ih=>
  show(bif decide ((j:Int)=k)then u1 l else((j:Int),gm j)::xN k (u1 l))=u1 ((j::l).erase k)
  by_cases e:j=k
  ·rw[decide_eq_true (p:=(j:Int)=k) (congrArg Int.ofNat e),e,List.erase_cons_head];rfl
  ·rw[decide_eq_false (p:=(j:Int)=k) λz=>e (Int.ofNat.inj z),List.erase_cons_tail (λz=>e (eq_of_beq z)),ih];rfl
section
variable{H H' H2:Hp}{w w2:Wd}{k f:Nat}
theorem Rep.os(r:Rep H w):LstAt H w.ov (w.op.map bV):=by
 unfold Wd.ov
 cases h:w.ol with
 |none=>exact .inl rfl
 |some j=>exact .inr ⟨j,rfl,(r.ol j h).1⟩
theorem Bb(r:Rep H w)(hf:f<w.nf){m:Nat}(a:(w.F f).h=m+2):∃H',Fn 3 475 [jq,bV f] H .none H'∧Rep H' {w with F:=upd w.F f {w.F f with h:=m+1}}:=
 ⟨_,AY (r.F f hf).1 a,r.Kg hf _ rfl⟩
noncomputable def Wd.DU(w:Wd)(f:Nat):Wd:={w with
 F:=upd w.F f {w.F f with h:=0}
 op:=w.op.filter λj=> !(j.beq f)
 ol:=none
 Q:=upd w.Q (w.F f).p ((w.Q (w.F f).p).kW (!(w.F f).rd))
 pt:=bif (!((w.Q (w.F f).p).kW (!(w.F f).rd)).ro&& !((w.Q (w.F f).p).kW (!(w.F f).rd)).wo)then w.pt.erase (w.F f).p else w.pt}
theorem sH(r:Rep H w)(hf:f<w.nf)(s:(w.F f).h=1)(hp:(w.F f).p∈w.pt):∃H',Fn 3 475 [jq,bV f] H .none H'∧Rep H' (w.DU f):=by
 have F:=r.F f hf
 have m:=r.Kg hf {w.F f with h:=0} rfl
 have a:=m.setOp (l:=w.op.filter λj=> !(j.beq f)) ⟨Nat.le_trans (List.length_filter_le ..) r.op.1,λj e=>r.op.2 j (List.mem_filter.mp e).1⟩
 obtain⟨q,i,d,b,n,g⟩:=a.kW F.2 (!(w.F f).rd)
 have o:(!(q.cl (!(w.F f).rd)).ro&& !(q.cl (!(w.F f).rd)).wo)=(!((w.Q (w.F f).p).kW (!(w.F f).rd)).ro&& !((w.Q (w.F f).p).kW (!(w.F f).rd)).wo):=by
  have d:q.ro=(w.Q (w.F f).p).ro:=d
  have b:q.wo=(w.Q (w.F f).p).wo:=b
  unfold Qi.kW Pi.cl
  cases(w.F f).rd<;>simp only[d,b,Bool.not_true,Bool.not_false,cond_true,cond_false,Bool.and_true,Bool.and_false]
 have c:=AU (w:= !(w.F f).rd) (dj:=0) (ds:=u1 w.pt) n a.pt rfl a.E2 (by unfold u1;rw[List.length_map];exact Nat.le_trans r.Lg (by decide)) (i.symm▸DT hp)
 rw[o,show(q.id:Int)=((w.F f).p:Nat)from congrArg Int.ofNat i,GK]at c
 rw[←sG]at c
 refine⟨_,AZ F.1 s r.ft rfl r.os (Nat.le_trans r.op.1 (by decide)) (λj e _=>⟨_,(r.F j (r.op.2 j e)).1⟩) (ble rfl) rfl r.pt rfl c,?_⟩
 rw[sG]
 unfold Wd.DU
 cases(!((w.Q (w.F f).p).kW (!(w.F f).rd)).ro&& !((w.Q (w.F f).p).kW (!(w.F f).rd)).wo)with
 |false=>exact g
 |true=>exact g.Md (Nat.le_trans (List.length_erase_le ..) r.Lg)
theorem yq(r:Rep H w)(hf:f<w.nf)(c:Fn 3 475 [jq,bV f] H .none H2)(g:Rep H2 w2)(ht:w2.tb=w.tb)(hp:(w.F f).p<w2.nq):∃H',Fn 4 330 [c_,bV f] H .none H'∧Rep H' ((w2.wake (.pipe (w.F f).p false)).wake (.pipe (w.F f).p true)):=
 (lZ g (c:=.pipe (w.F f).p false) nofun).elim λa z=>z.elim λj z=>(lZ z.2 (c:=.pipe (w.F f).p true) nofun).elim λb y=>y.elim λi y=>
  (g.Q _ hp).1.elim λrc u=>u.elim λring u=>(z.2.Q _ hp).1.elim λh d=>d.elim λe d=>
   ⟨i,ym r.K (r.F f hf).1 rfl rfl c (ht▸g.K) u.1 z.1 (ht▸z.2.K) d.1 y.1,y.2⟩
theorem uJ{dk i:Nat}(r:Rep H w)(hk:k≤w.n)(hd:(w.P k).fl=some dk)(a:dk<w.nd)(hi:(w.D dk)[i]? =some (bV f))(hf:f<w.nf){w2:Wd}
  (c:∀H1,Rep H1 {w with D:=upd w.D dk ((w.D dk).set i .none)}→∃H',Fn 3 475 [jq,bV f] H1 .none H'∧Rep H' w2)(ht:w2.tb=w.tb)(hp:(w.F f).p<w2.nq):∃H',Fn 5 323 [c_,br k,.int i] H (.int 0) H'∧Rep H' ((w2.wake (.pipe (w.F f).p false)).wake (.pipe (w.F f).p true)):=
 have D:=r.D dk a
 have b:=r.GG a (l:=(w.D dk).set i .none) (List.length_set.trans D.2.2.1)
 (c _ b).elim λH2 c=>(yq b hf c.1 c.2 ht hp).elim λd z=>
  ⟨d,DB (D:=dk) (r.P k hk) (congrArg (oV gF) hd) D.1 r.pc (J3 D.1 D.2.1 D.2.2.1 (ble rfl) hi rfl) z.1,z.2⟩
end
theorem DV{H:Hp}{k c:Nat}{q:Pi}(b:H.o .b8 k=.inst q.fs)(e:0<c)(hw:q.wc=q.rc)(d:q.wo=true):Fn 3 140 [gm k,.int c] H (.tup [.bytes [],.int 1]) H:=
 aJ oW rfl (az (cF (cy (b_ (aD (ae rfl) ar (decide_eq_true (Int.ofNat_lt.mpr e)▸eR.gt (c:Int) 0))
  (b_ (aD (je b rfl) ar (decide_eq_true (show(q.wc:Int)-q.rc=0 by rw[hw,Int.sub_self])▸eR.eq (.ii ((q.wc:Int)-q.rc) 0))) (b_ (d▸cL (au (a:=d6) (ae (n:=ai) rfl) b rfl rfl) rfl) eS))))
  (az (aY (ct (ag (gb (bs:=.empty)) (ag (dg g4) aj)) (ble rfl))) rfl)) rfl) rfl
structure GL(w:Wd)(k dk i f:Nat):Prop where
 hk:k≤w.n
 fl:(w.P k).fl=some dk
 hd:dk<w.nd
 hi:(w.D dk)[i]? =some (bV f)
 hf:f<w.nf
section
variable{H H' H2:Hp}{w w2:Wd}{k f dk i:Nat}
theorem GL.get(r:Rep H w)(h:GL w k dk i f):Fn 1 565 [gF dk,.int i] H (bV f) H:=Ip (r.D dk h.hd).1 (r.D dk h.hd).2.1 (r.D dk h.hd).2.2.1 (ble rfl) h.hi rfl
theorem GN(r:Rep H w)(h:GL w k dk i f)(a:(w.F f).rd=true)(b:(w.P k).kl=false){c:Nat}(e:0<c)(d:(w.Q (w.F f).p).c=[]∧(w.Q (w.F f).p).wo=true):
  ∃H',Fn 5 358 [c_,br k,.int i,.int c] H .none H'∧Rep H' {w with P:=upd w.P k {w.P k with st:=.ax,ch:=.pipe (w.F f).p false}}:=
 (r.Q _ (r.F f h.hf).2).1.elim λrc z=>z.elim λring z=>
  ⟨_,DD (D:=dk) r.K (r.P k h.hk) (congrArg (oV gF) h.fl) b (r.D dk h.hd).1 rfl rfl rfl rfl rfl (r.F f h.hf).1 z.1 (h.get r) (zA (r.F f h.hf).1 a z.1 (DV z.1 e (congrArg (λl:List UInt8=>rc+l.length) d.1) d.2)),r.oD k {w.P k with st:=.ax,ch:=.pipe (w.F f).p false}⟩
theorem GO(r:Rep H w)(h:GL w k dk i f)(d:(w.F f).rd=true){c:Nat}(g:¬((w.Q (w.F f).p).c=[]∧(w.Q (w.F f).p).wo=true)):
  ∃H',Fn 5 358 [c_,br k,.int i,.int c] H (.bytes ((w.Q (w.F f).p).c.take c)) H'∧Rep H' (Wd.wake {w with Q:=upd w.Q (w.F f).p ⟨(w.Q (w.F f).p).c.drop c,(w.Q (w.F f).p).ro,(w.Q (w.F f).p).wo⟩} (.pipe (w.F f).p true)):=
 (r.Q _ (r.F f h.hf).2).1.elim λrc z=>z.elim λring z=>(GJ r (r.F f h.hf).2 (c:=c) g).elim λH1 y=>(lZ y.2 (c:=.pipe (w.F f).p true) nofun).elim λa x=>x.elim λH2 x=>
  (y.2.Q _ (r.F f h.hf).2).1.elim λe u=>u.elim λb u=>
  ⟨_,DE (D:=dk) r.K (r.P k h.hk) (congrArg (oV gF) h.fl) (r.D dk h.hd).1 rfl rfl rfl (h.get r) (zA (r.F f h.hf).1 d z.1 y.1) y.2.K (y.2.F f h.hf).1 u.1 x.1,x.2⟩
theorem k_{p:Pw}{c:Ch}(h:p.st≠ .ax):p.wake c=p:=if_neg λz=>h z.1
theorem wV(r:Rep H w)(h:GL w k dk i f)(g:(w.F f).rd=false)(d:(w.P k).st≠ .ax)(e:(w.Q (w.F f).p).ro=true){bs:List UInt8}(hb:bs.length≤1000)(hp:(w.P k).prog≤bs.length)(hl:(bs.drop (w.P k).prog).length≤w.R-(w.Q (w.F f).p).c.length):
  ∃H',Fn 5 365 [c_,br k,.int i,.bytes bs] H (.int bs.length) H'∧Rep H' {(Wd.wake {w with Q:=upd w.Q (w.F f).p ⟨(w.Q (w.F f).p).c++bs.drop (w.P k).prog,(w.Q (w.F f).p).ro,(w.Q (w.F f).p).wo⟩} (.pipe (w.F f).p false))with P:=upd (λj=>(w.P j).wake (.pipe (w.F f).p false)) k {w.P k with prog:=0}}:=
 (r.Q _ (r.F f h.hf).2).1.elim λrc z=>z.elim λring z=>(wR r (r.F f h.hf).2 (bs:=bs.drop (w.P k).prog) e (Nat.le_trans (List.length_drop▸Nat.sub_le ..) hb) (Nat.min_eq_left hl).symm).elim λH1 y=>(lZ y.2 (c:=.pipe (w.F f).p false) nofun).elim λa x=>x.elim λH2 x=>
  (y.2.Q _ (r.F f h.hf).2).1.elim λq u=>u.elim λb u=>by
  have m:=y.1
  rw[if_pos rfl]at m
  have n:=x.2
  rw[List.take_length]at n
  have l:H2.o .Process k=.inst ((w.P k).pr.fs k):=(x.2.P k h.hk).trans (congrArg (λp:Pw=>MO.inst (p.pr.fs k)) (k_ d))
  exact⟨_,A4 (D:=dk) (dn:=(w.P k).prog) r.K (r.P k h.hk) (congrArg (oV gF) h.fl) rfl (r.D dk h.hd).1 rfl rfl rfl hb (h.get r) (qW (r.F f h.hf).1 g z.1 m) y.2.K (y.2.F f h.hf).1 u.1 x.1 rfl l (by rw[List.length_drop,Nat.add_sub_cancel' hp]),n.oD k {w.P k with prog:=0}⟩
theorem DW(r:Rep H w)(h:GL w k dk i f)(m:(w.F f).rd=false)(g:(w.P k).st≠ .ax)(n:(w.P k).kl=false)(l:(w.Q (w.F f).p).ro=true){bs:List UInt8}(hb:bs.length≤1000)(hl:w.R-(w.Q (w.F f).p).c.length<(bs.drop (w.P k).prog).length):
  ∃H',Fn 5 365 [c_,br k,.int i,.bytes bs] H .none H'∧Rep H' {(Wd.wake {w with Q:=upd w.Q (w.F f).p ⟨(w.Q (w.F f).p).c++(bs.drop (w.P k).prog).take (w.R-(w.Q (w.F f).p).c.length),(w.Q (w.F f).p).ro,(w.Q (w.F f).p).wo⟩} (.pipe (w.F f).p false))with P:=upd (λj=>(w.P j).wake (.pipe (w.F f).p false)) k {w.P k with prog:=(w.P k).prog+(w.R-(w.Q (w.F f).p).c.length),st:=.ax,ch:=.pipe (w.F f).p true}}:=
 (r.Q _ (r.F f h.hf).2).1.elim λrc z=>z.elim λring z=>(wR r (r.F f h.hf).2 (bs:=bs.drop (w.P k).prog) l (Nat.le_trans (List.length_drop▸Nat.sub_le ..) hb) (Nat.min_eq_right (Nat.le_of_lt hl)).symm).elim λH1 y=>(lZ y.2 (c:=.pipe (w.F f).p false) nofun).elim λa x=>x.elim λH2 x=>
  (y.2.Q _ (r.F f h.hf).2).1.elim λv u=>u.elim λe u=>(x.2.Q _ (r.F f h.hf).2).1.elim λt b=>b.elim λd b=>by
  have s:=y.1
  rw[if_neg (Nat.ne_of_lt hl)]at s
  have q:H2.o .Process k=.inst ((w.P k).pr.fs k):=(x.2.P k h.hk).trans (congrArg (λp:Pw=>MO.inst (p.pr.fs k)) (k_ g))
  exact⟨_,A5 (D:=dk) (dn:=(w.P k).prog) r.K (r.P k h.hk) (congrArg (oV gF) h.fl) rfl (r.D dk h.hd).1 rfl rfl rfl hb (h.get r) (qW (r.F f h.hf).1 m z.1 s) y.2.K (y.2.F f h.hf).1 u.1 x.1 rfl q n x.2.K (x.2.F f h.hf).1 b.1 rfl rfl rfl,x.2.oD k {w.P k with prog:=(w.P k).prog+(w.R-(w.Q (w.F f).p).c.length),st:=.ax,ch:=.pipe (w.F f).p true}⟩
theorem DX(r:Rep H w)(h:GL w k dk i f)(e:(w.F f).rd=false)(b:(w.P k).st≠ .ax)(d:(w.Q (w.F f).p).ro=false){bs:List UInt8}(hb:bs.length≤1000):
  ∃H',x8 5 365 [c_,br k,.int i,.bytes bs] H H'∧Rep H' {w.wake (.pipe (w.F f).p false)with P:=upd (λj=>(w.P j).wake (.pipe (w.F f).p false)) k {w.P k with prog:=0}}:=
 (r.Q _ (r.F f h.hf).2).1.elim λrc z=>z.elim λring z=>(lZ r (c:=.pipe (w.F f).p false) nofun).elim λa x=>x.elim λH2 x=>by
  have g:H2.o .Process k=.inst ((w.P k).pr.fs k):=(x.2.P k h.hk).trans (congrArg (λp:Pw=>MO.inst (p.pr.fs k)) (k_ b))
  exact⟨_,A6 (D:=dk) (dn:=(w.P k).prog) (cnt:=0) r.K (r.P k h.hk) (congrArg (oV gF) h.fl) rfl (r.D dk h.hd).1 rfl rfl rfl hb (h.get r) (qW (r.F f h.hf).1 e z.1 (AR z.1 d)) r.K (r.F f h.hf).1 z.1 x.1 rfl g,x.2.oD k {w.P k with prog:=0}⟩
end
theorem kz{a:Type}{f:Nat→a}{k:Nat}{x y:a}:upd (upd f k x) k y=upd f k y:=funext λj=>by
 by_cases e:j=k
 ·rw[e,aE,aE]
 ·rw[aQ e,aQ e,aQ e]
theorem o5{s:Sg}:s.nm.c.beq bf.c=decide (s=.unused):=by cases s<;>rfl
theorem DY{s:Sg}:s.nm.c.beq gI.c=decide (s=.cz):=by cases s<;>rfl
theorem Me{s:Sg}:s.nm.c.beq cY.c=decide (s=.ax):=by cases s<;>rfl
theorem DZ{s:Sg}:s.nm.c.beq aT.c=decide (s=.ready):=by cases s<;>rfl
noncomputable def D1:Pw:=⟨0,.unused,false,none,fR,.none,false,0,0,.lst (List.replicate 32 (.int 0))⟩
section
variable{H H' H2:Hp}{w w1 w2:Wd}{k j f dk i:Nat}
theorem D2{P:Nat→Pw}{j:Nat}:fc (λk=>(P k).pr) 0 j=(!decide ((P j).st=.unused)&&(P j).par):=by
 show(!((P j).st.nm.c.beq bf.c)&&sC 0 (bif (P j).par then br 0 else .none))=_
 rw[o5]
 cases(P j).par<;>rfl
theorem Rep.par(r:Rep H w):∀j∈List.range (w.n+1),((w.P j).pr).parent=.none∨∃i,((w.P j).pr).parent=br i∧∃fs,H.o .Process i=.inst fs:=λj a=>by
 show(bif (w.P j).par then br 0 else .none)=.none∨∃i,(bif (w.P j).par then br 0 else .none)=br i∧_
 cases(w.P j).par with
 |false=>exact .inl rfl
 |true=>exact .inr ⟨0,rfl,_,r.P 0 (Nat.zero_le _)⟩
theorem Rep.len(r:Rep H w):(List.range (w.n+1)).length≤1000:=by rw[List.length_range];exact Nat.le_trans (Nat.succ_le_succ r.n5) (by decide)
theorem D3(r:Rep H w)(a:k≠0)(hk:k≤w.n):Fn 2 699 [eU,br k] H (.lst []) H:=by
 have t:=qZ r.tb rfl r.len r.ps ⟨_,r.P k hk⟩ r.par
 rw[List.filter_eq_nil_iff.mpr λj _=>?_]at t
 ·exact t
 ·unfold fc
  show¬(_&&sC k (bif (w.P j).par then br 0 else .none))=true
  cases(w.P j).par with
  |false=>rw[show sC k (bif false then br 0 else .none)=false from rfl,Bool.and_false];exact Bool.false_ne_true
  |true=>rw[show sC k (bif true then br 0 else .none)=false from Bool.eq_false_iff.mpr λq=>a (Nat.eq_of_beq_eq_true q).symm,Bool.and_false];exact Bool.false_ne_true
theorem Km(r:Rep H w)(l:k≠0)(hk:k≤w.n)(s:(w.P k).fl=some dk)(d:dk<w.nd)(g:(w.P k).par=true){i1 B i2 A:Nat}(E:filesOf (w.D dk)=[.tup [.int i1,bV B],.tup [.int i2,bV A]]){st:Int}
  (m:∃H1,Fn 5 323 [c_,br k,.int i1] H (.int 0) H1∧Rep H1 w1)(e:∀H1,Rep H1 w1→∃H2,Fn 5 323 [c_,br k,.int i2] H1 (.int 0) H2∧Rep H2 w2)(F:w2.P k=w.P k)(n2:w2.n=w.n)(C:w2.nx=w.nx):
  ∃H',Fn 7 288 [c_,br k,.int st] H (.int 0) H'∧Rep H' (Wd.wake {w2 with P:=upd w2.P k {w.P k with prog:=0,st:=.cz,ch:=.none,Mc:=st}} (.child (w2.P 0).pid)):=
 m.elim λH1 m=>(e H1 m.2).elim λH2 e=>by
  have h:k≤w2.n:=n2.symm▸hk
  have x:H2.o .Process k=.inst ((w.P k).pr.fs k):=(e.2.P k h).trans (congrArg (λp:Pw=>MO.inst (p.pr.fs k)) F)
  have q:=e.2.oD k {w.P k with prog:=0}
  have v:(dT H2 k {(w.P k).pr with prog:=0}).o .Process 0=.inst ((w2.P 0).pr.fs 0):=(Hp.b4 λz:Cl.Process=.Process∧0=k=>l z.2.symm).trans (e.2.P 0 (Nat.zero_le _))
  have t:=q.oD k {w.P k with prog:=0,st:=.cz,ch:=.none,Mc:=st}
  rw[show∀p,upd (Wd.P {w2 with P:=upd w2.P k {w.P k with prog:=0}}) k p=upd w2.P k p fromλp=>kz]at t
  have tb:w2.tb=w.tb:=by unfold Wd.tb;rw[n2,C]
  exact(lZ t (c:=.child (w2.P 0).pid) nofun).elim λa y=>y.elim λG y=>
   ⟨G,Gw (fst:=0) r.K rfl rfl l (r.P k hk) ⟨_,r.P 0 (Nat.zero_le _)⟩ (Gy (r.P k hk) (congrArg (oV gF) s) (r.D dk d).1 (r.D dk d).2.1 ((r.D dk d).2.2.1▸ble rfl) (E▸⟨i1,bV B,H1,rfl,r.pc,m.1,i2,bV A,H2,rfl,m.2.pc,e.1,rfl⟩) x) (tb▸e.2.K) x
    (J7 (fst:=0) (u:=0) (tb▸q.tb) rfl rfl rfl rfl rfl l Hp.bQ ⟨_,v⟩ (congrArg (λb=>bif b then br 0 else .none) g) l.symm v (wK (tb▸q.tb) rfl (D3 q l h)) y.1),y.2⟩
theorem Kn(r:Rep H w)(d:k≠0)(hk:k≤w.n)(a:(w.P k).st≠ .unused)(hp:∀i,i<k→(w.P i).st≠ .unused→(w.P i).pid≠(w.P k).pid){x:MV}:
  ∃H',Fn 4 302 [c_,x,.int (w.P k).pid] H (.int 0) H'∧Rep H' {w with P:=upd w.P k (if(w.P k).st=.ax then{w.P k with kl:=true,st:=.ready,ch:=.none}else{w.P k with kl:=true})}:=by
 have fd:(List.range (w.n+1)).find? (o4 (λk=>(w.P k).pr) (w.P k).pid)=some k:=by
  refine List.find?_range_eq_some.mpr ⟨?_,List.mem_range.mpr (Nat.lt_succ_of_le hk),λi hi=>?_⟩
  ·show(!((w.P k).st.nm.c.beq bf.c)&&decide ((w.P k).pid=(w.P k).pid))=true
   rw[o5,decide_eq_false a,decide_eq_true rfl];rfl
  ·show(!(!((w.P i).st.nm.c.beq bf.c)&&decide ((w.P i).pid=(w.P k).pid)))=true
   rw[o5]
   by_cases e:(w.P i).st=.unused
   ·rw[decide_eq_true e];rfl
   ·rw[decide_eq_false (hp i hi e),Bool.and_false];rfl
 have c:=J6 r.tb rfl rfl rfl rfl fd r.ps (b:=decide ((w.P k).st=.ax)) Me
 refine⟨_,Gu (pc:=[]) (f:=0) r.K rfl rfl rfl d ⟨_,r.P k hk⟩ ⟨_,r.P 0 (Nat.zero_le _)⟩ (yj r.tb rfl fd r.ps) c,?_⟩
 by_cases e:(w.P k).st=.ax
 ·rw[decide_eq_true e,if_pos e];exact r.oD k {w.P k with kl:=true,st:=.ready,ch:=.none}
 ·rw[decide_eq_false e,if_neg e];exact r.oD k {w.P k with kl:=true}
theorem GP(r:Rep H w)(h:∃j,j≤w.n∧(w.P j).par=true∧(w.P j).st=.cz):∃j H',j≤w.n∧(w.P j).par=true∧(w.P j).st=.cz∧Fn 4 295 [c_,br 0] H (.tup [.int (w.P j).pid,.int (w.P j).Mc]) H'∧Rep H' {w with P:=upd w.P j D1}:=by
 cases q:((List.range (w.n+1)).filter (fc (λk=>(w.P k).pr) 0)).find? (nh λk=>(w.P k).pr)with
 |none=>exact h.elim λj h=>absurd (show nh (λk=>(w.P k).pr) j=true from DY.trans (decide_eq_true h.2.2)) (List.find?_eq_none.mp q j (List.mem_filter.mpr ⟨List.mem_range.mpr (Nat.lt_succ_of_le h.1),by rw[D2,h.2.2,h.2.1];rfl⟩))
 |some j=>
  have m:=List.mem_filter.mp (List.mem_of_find?_eq_some q)
  have z:(w.P j).st=.cz:=of_decide_eq_true (DY.symm.trans (show nh (λk=>(w.P k).pr) j=true from List.find?_some q))
  have c:=m.2
  rw[D2,z]at c
  exact⟨j,_,Nat.le_of_lt_succ (List.mem_range.mp m.1),c,z,zF r.K rfl (Gq r.tb rfl r.len r.ps (r.P 0 (Nat.zero_le _)) r.par rfl rfl q),r.oD j D1⟩
theorem GQ(r:Rep H w)(h:∀j,j≤w.n→(w.P j).par=true→(w.P j).st=.unused):x8 4 295 [c_,br 0] H H:=
 DA r.K rfl (Gr r.tb rfl r.len r.ps (r.P 0 (Nat.zero_le _)) r.par rfl (List.filter_eq_nil_iff.mpr λj a c=>by
  rw[D2]at c
  have b:(w.P j).par=true:=aF c
  rw[h j (Nat.le_of_lt_succ (List.mem_range.mp a)) b]at c
  exact nomatch aV c))
theorem GR(r:Rep H w)(h:∃j,j≤w.n∧(w.P j).par=true∧(w.P j).st≠ .unused)(d:∀j,j≤w.n→(w.P j).par=true→(w.P j).st≠ .cz)(a:(w.P 0).kl=false):
  ∃H',Fn 4 295 [c_,br 0] H .none H'∧Rep H' {w with P:=upd w.P 0 {w.P 0 with st:=.ax,ch:=.child (w.P 0).pid}}:=by
 cases q:(List.range (w.n+1)).filter (fc (λk=>(w.P k).pr) 0)with
 |nil=>exact h.elim λj h=>absurd (show fc (λk=>(w.P k).pr) 0 j=true by rw[D2,h.2.1,decide_eq_false h.2.2];rfl) (List.filter_eq_nil_iff.mp q j (List.mem_range.mpr (Nat.lt_succ_of_le h.1)))
 |cons c cs=>
  refine⟨_,zF r.K rfl (Gs r.tb rfl r.len r.ps (r.P 0 (Nat.zero_le _)) r.par rfl q (λj e=>?_) a rfl rfl rfl),r.oD 0 {w.P 0 with st:=.ax,ch:=.child (w.P 0).pid}⟩
  have m:=List.mem_filter.mp (q▸e)
  have b:=m.2
  rw[D2]at b
  exact DY.trans (decide_eq_false (d j (Nat.le_of_lt_succ (List.mem_range.mp m.1)) (aF b)))
end
noncomputable def pk(n i:Nat):Nat:=if i=0 then n else i
noncomputable def ri(n k:Nat):Nat:=if k=n then 0 else k
noncomputable def bN(n i:Nat):Nat:=if i=0 then n-1 else i-1
noncomputable def nx(n i:Nat):Nat:=if i+1=n then 0 else i+1
structure Rp where
 hand:List UInt8
 prog:Nat
 aP:Nat
 gM:Nat
 st:Sg
 ch:Ch
 there:Bool
 kl:Bool
 ro:Bool
 wo:Bool
structure RS where
 n:Nat
 R:Nat
 size:Nat→Nat
 row:Nat→List UInt8
 begun:Nat→Nat
 p:Nat→Rp
 c:Nat→List UInt8
 fst:Sg
 l0:Ch
structure Lay where
 rg:Nat→MV
 r0:MV
 dl:Nat→Nat
 rb:Nat→Nat
 ol:Option Nat
 X:Nat→Option (List MV)
 S:Nat→MO
 ns:Nat
noncomputable def ib(n i:Nat):Nat:=if(pk n i)%2=1 then 0 else 2
noncomputable def out(i:Nat):Nat:=if i=0 then 1 else 3
noncomputable def gp(l:Lay)(q:Rp)(k:Nat):Pw:=if q.st=.unused then D1 else⟨(k+1:Nat),q.st,true,some k,aC,q.ch,q.kl,if q.st=.cz then q.aP else 0,q.prog,l.rg k⟩
noncomputable def d3(l:Lay)(s:RS)(k:Nat):Pw:=if k=0 then⟨1,s.fst,false,some 0,aC,s.l0,false,0,0,l.r0⟩else gp l (s.p (ri s.n k)) k
noncomputable def jr(s:RS)(f:Nat):Bool:=if f%2=0 then(s.p (nx s.n (f/2))).ro else(s.p (f/2)).wo
noncomputable def q5(s:RS)(f:Nat):Fi:=⟨(f%2).beq 0,if jr s f then 1 else 0,f/2⟩
noncomputable def yr(a b fa fb:Nat)(d c:Bool):List MV:=(List.range 4).map λj=>if j=a∧d=true then bV fa else if j=b∧c=true then bV fb else .none
noncomputable def yt(s:RS)(k:Nat):List MV:=if k=0 then List.replicate 4 .none else yr (ib s.n (ri s.n k)) (out (ri s.n k)) (2*bN s.n (ri s.n k)) (2*ri s.n k+1) (s.p (ri s.n k)).ro (s.p (ri s.n k)).wo
noncomputable def pU(s:RS)(i:Nat):Qi:=⟨s.c i,jr s (2*i),jr s (2*i+1)⟩
noncomputable def gN(s:RS)(i:Nat):Bool:=jr s (2*i+1)||jr s (2*i)
noncomputable def wd(l:Lay)(s:RS):Wd where
 n:=s.n
 R:=s.R
 nx:=(s.n+2:Nat)
 P:=d3 l s
 F:=q5 s
 nf:=2*s.n
 Q:=pU s
 nq:=s.n
 rb:=l.rb
 D:=yt s
 dl:=l.dl
 nd:=s.n+1
 op:=(List.range (2*s.n)).filter (jr s)
 ol:=l.ol
 pt:=(List.range s.n).filter (gN s)
 X:=l.X
 S:=l.S
 ns:=l.ns
section
variable{n i j k:Nat}
theorem uK(h:2≤n):pk n i≠0:=by
 cases i with
 |zero=>exactλe:n=0=>by rw[e]at h;exact nomatch h
 |succ i=>exact Nat.succ_ne_zero i
theorem iM(h:i<n):pk n i≤n:=by
 cases i with
 |zero=>exact Nat.le_refl n
 |succ i=>exact Nat.le_of_lt h
theorem zL(h:i<n):ri n (pk n i)=i:=by
 cases i with
 |zero=>exact if_pos rfl
 |succ i=>exact if_neg (Nat.ne_of_lt h)
theorem q6(h:k≠0):pk n (ri n k)=k:=by
 unfold ri
 by_cases e:k=n
 ·rw[if_pos e];exact e.symm
 ·rw[if_neg e];exact if_neg h
theorem q7(a:k≠0)(h:k≤n):ri n k<n:=by
 unfold ri
 by_cases e:k=n
 ·rw[if_pos e];exact Nat.lt_of_lt_of_le (Nat.pos_of_ne_zero a) h
 ·rw[if_neg e];exact Nat.lt_of_le_of_ne h e
theorem dw(hi:i<n):bN n i<n:=by
 cases i with
 |zero=>exact Nat.sub_lt hi (by decide)
 |succ i=>exact Nat.lt_of_succ_lt hi
theorem g5(hi:i<n):nx n i<n:=by
 unfold nx
 by_cases e:i+1=n
 ·rw[if_pos e];exact Nat.lt_of_le_of_lt (Nat.zero_le i) hi
 ·rw[if_neg e];exact Nat.lt_of_le_of_ne hi e
theorem fe(hi:i<n):nx n (bN n i)=i:=by
 cases i with
 |zero=>exact if_pos (Nat.sub_add_cancel hi)
 |succ i=>exact if_neg (Nat.ne_of_lt hi)
theorem l3(hi:i<n):bN n (nx n i)=i:=by
 unfold nx
 by_cases e:i+1=n
 ·rw[if_pos e,←e];rfl
 ·rw[if_neg e];rfl
theorem l5(h2:2≤n)(hi:i<n):bN n i≠i:=by
 cases i with
 |zero=>exactλe=>Nat.ne_of_gt (Nat.sub_pos_of_lt h2) e
 |succ i=>exact Nat.ne_of_lt (Nat.lt_succ_self i)
theorem zM(h2:2≤n)(hi:i<n):nx n i≠i:=λe=>l5 h2 hi ((congrArg (bN n) e).symm.trans (l3 hi))
theorem sI{i:Nat}:(2*i)%2=0∧(2*i)/2=i∧(2*i+1)%2=1∧(2*i+1)/2=i:=⟨Nat.mul_mod_right 2 i,Nat.mul_div_cancel_left i (by decide),Nat.mul_add_mod 2 i 1,Nat.mul_add_div (by decide) i 1⟩
end
theorem o6{s:RS}{i:Nat}:jr s (2*i)=(s.p (nx s.n i)).ro:=(if_pos sI.1).trans (by rw[sI.2.1])
theorem q8{s:RS}{i:Nat}:jr s (2*i+1)=(s.p i).wo:=(if_neg (by rw[sI.2.2.1];decide)).trans (by rw[sI.2.2.2])
theorem Rep.wW{H:Hp}{w w':Wd}(r:Rep H w)(d:∀k,k≤w.n→w'.P k=w.P k)(f:∀k,k<w.nf→w'.F k=w.F k)(c:∀k,k<w.nq→w'.Q k=w.Q k)(a:∀k,k<w.nd→w'.D k=w.D k)(b:w'.op=w.op)(hp:w'.pt=w.pt)
  (e:w'={w with P:=w'.P,F:=w'.F,Q:=w'.Q,D:=w'.D,op:=w'.op,pt:=w'.pt}):Rep H w':=by
 rw[b,hp]at e
 rw[e]
 exact{r with
  P:=λk hk=>(r.P k hk).trans (congrArg (λp:Pw=>MO.inst (p.pr.fs k)) (d k hk).symm)
  F:=λk hk=>(f k hk).symm▸r.F k hk
  Q:=λk hk=>⟨(c k hk).symm▸(r.Q k hk).1,(r.Q k hk).2⟩
  D:=λk hk=>have D:=r.D k hk;⟨D.1,D.2.1.trans (congrArg MO.list (a k hk).symm),(congrArg List.length (a k hk)).trans D.2.2.1,D.2.2.2⟩}
noncomputable def Rp.bD(q:Rp)(cs:List Ch):Rp:=if q.st=.ax∧q.ch∈cs then{q with st:=.ready,ch:=.none}else q
noncomputable def Pw.bD(q:Pw)(cs:List Ch):Pw:=if q.st=.ax∧q.ch∈cs then{q with st:=.ready,ch:=.none}else q
noncomputable def RS.go(s:RS)(i:Nat)(q:Rp)(cs:List Ch)(pc:Nat)(l:List UInt8):RS:=
 {s with p:=λj=>if j=i then q else(s.p j).bD cs,c:=upd s.c pc l,fst:=if s.fst=.ax∧s.l0∈cs then .ready else s.fst,l0:=if s.fst=.ax∧s.l0∈cs then .none else s.l0}
section
variable{H H':Hp}{l:Lay}{s s':RS}{i j k:Nat}{q:Rp}{cs:List Ch}{c:Ch}
theorem sJ{p:Pw}:p.wake c=p.bD [c]:=by
 unfold Pw.wake Pw.bD
 simp only[List.mem_singleton]
theorem Pw.sL{p:Pw}:p.bD []=p:=if_neg λz=>nomatch z.2
theorem Pw.yu{p:Pw}:(p.bD cs).wake c=p.bD (c::cs):=by
 by_cases e:p.st=.ax
 ·by_cases m:p.ch∈cs
  ·rw[show p.bD cs=_ from if_pos ⟨e,m⟩,show p.bD (c::cs)=_ from if_pos ⟨e,List.mem_cons_of_mem _ m⟩]
   exact if_neg λz=>nomatch z.1
  ·rw[show p.bD cs=p from if_neg λz=>m z.2]
   by_cases n:p.ch=c
   ·exact(if_pos ⟨e,n⟩).trans (if_pos ⟨e,n▸List.mem_cons_self ..⟩).symm
   ·exact(if_neg λz=>n z.2).trans (if_neg λz=>(List.mem_cons.mp z.2).elim n m).symm
 ·rw[show p.bD cs=p from if_neg λz=>e z.1]
  exact(if_neg λz=>e z.1).trans (if_neg λz=>e z.1).symm
theorem Rp.eV:(q.bD cs).hand=q.hand∧(q.bD cs).prog=q.prog∧(q.bD cs).aP=q.aP∧(q.bD cs).gM=q.gM∧(q.bD cs).there=q.there∧(q.bD cs).kl=q.kl∧(q.bD cs).ro=q.ro∧(q.bD cs).wo=q.wo:=by
 unfold Rp.bD;split<;>exact⟨rfl,rfl,rfl,rfl,rfl,rfl,rfl,rfl⟩
theorem eW(b:q.st≠ .unused)(a:q.st≠ .cz):gp l q k=⟨(k+1:Nat),q.st,true,some k,aC,q.ch,q.kl,0,q.prog,l.rg k⟩:=by
 unfold gp
 rw[if_neg b,if_neg a]
theorem yv:(gp l q k).bD cs=gp l (q.bD cs) k:=by
 by_cases e:q.st=.ax
 ·rw[eW (e▸nofun) (e▸nofun)]
  unfold Pw.bD Rp.bD
  by_cases m:q.ch∈cs
  ·rw[if_pos ⟨e,m⟩,if_pos ⟨e,m⟩];rfl
  ·rw[if_neg (λz=>m z.2),if_neg (λz=>m z.2),eW (e▸nofun) (e▸nofun)]
 ·rw[show q.bD cs=q from if_neg λz=>e z.1]
  refine if_neg λz=>?_
  unfold gp at z
  by_cases u:q.st=.unused
  ·rw[if_pos u]at z;exact nomatch z.1
  ·rw[if_neg u]at z;exact e z.1
theorem ej(h2:2≤s.n)(hi:i<s.n):d3 l s (pk s.n i)=gp l (s.p i) (pk s.n i):=(if_neg (uK h2)).trans (congrArg (λj=>gp l (s.p j) (pk s.n i)) (zL hi))
theorem D4{pc:Nat}{d:List UInt8}(h2:2≤s.n)(hi:i<s.n)(hk:k≤s.n):d3 l (s.go i q cs pc d) k=upd (λk=>(d3 l s k).bD cs) (pk s.n i) (gp l q (pk s.n i)) k:=by
 by_cases e:k=pk s.n i
 ·rw[e,aE]
  exact(ej (s:=s.go i q cs pc d) h2 hi).trans (congrArg (gp l · (pk s.n i)) (if_pos rfl))
 ·rw[aQ e]
  unfold d3
  by_cases a:k=0
  ·rw[if_pos a,if_pos a]
   show(⟨1,if s.fst=.ax∧s.l0∈cs then .ready else s.fst,false,some 0,aC,if s.fst=.ax∧s.l0∈cs then .none else s.l0,false,0,0,l.r0⟩:Pw)=if s.fst=.ax∧s.l0∈cs then _ else _
   split<;>rfl
  ·rw[if_neg a,if_neg a]
   have z:ri s.n k≠i:=λz=>e (z▸(q6 a).symm)
   exact(congrArg (gp l · k) (if_neg z:(s.go i q cs pc d).p (ri s.n k)=(s.p (ri s.n k)).bD cs)).trans yv.symm
theorem Rep.flags{P:Nat→Pw}{Q:Nat→Qi}(r:Rep H {wd l s with P:=P,Q:=Q})(a:s'.n=s.n)(d:s'.R=s.R)(hf:∀i,(s'.p i).ro=(s.p i).ro∧(s'.p i).wo=(s.p i).wo)(h:∀k,k≤s.n→d3 l s' k=P k)(g:∀k,k<s.n→pU s' k=Q k):Rep H (wd l s'):=by
 have b:jr s'=jr s:=funext λf=>by
  unfold jr
  rw[(hf _).1,(hf _).2,a]
 have hd:yt s'=yt s:=funext λk=>by
  unfold yt
  rw[(hf _).1,(hf _).2,a]
 have hp:gN s'=gN s:=funext λk=>by unfold gN;rw[b]
 have m:q5 s'=q5 s:=funext λk=>by unfold q5;rw[b]
 refine r.wW (w':=wd l s') h (λk _=>congrFun m k) g (λk _=>congrFun hd k) ?_ ?_ ?_
 ·exact(congrArg (λn=>(List.range (2*n)).filter (jr s')) a).trans (by rw[b];rfl)
 ·exact(congrArg (λn=>(List.range n).filter (gN s')) a).trans (by rw[hp];rfl)
 ·exact(show∀n R,s'.n=n→s'.R=R→wd l s'=⟨n,R,(n+2:Nat),d3 l s',q5 s',2*n,pU s',n,l.rb,yt s',l.dl,n+1,(wd l s').op,l.ol,(wd l s').pt,l.X,l.S,l.ns⟩fromλn R e e'=>e▸e'▸rfl) s.n s.R a d
theorem Rep.go{P:Nat→Pw}{Q:Nat→Qi}{pc:Nat}{d:List UInt8}(r:Rep H {wd l s with P:=P,Q:=Q})(h2:2≤s.n)(hi:i<s.n)(ro:q.ro=(s.p i).ro)(wo:q.wo=(s.p i).wo)(b:P=upd (λk=>(d3 l s k).bD cs) (pk s.n i) (gp l q (pk s.n i)))(a:Q=upd (pU s) pc ⟨d,jr s (2*pc),jr s (2*pc+1)⟩):Rep H (wd l (s.go i q cs pc d)):=by
 have f:∀j,((s.go i q cs pc d).p j).ro=(s.p j).ro∧((s.go i q cs pc d).p j).wo=(s.p j).wo:=λj=>by
  show(if j=i then q else(s.p j).bD cs).ro=_∧(if j=i then q else(s.p j).bD cs).wo=_
  by_cases e:j=i
  ·rw[if_pos e,e];exact⟨ro,wo⟩
  ·rw[if_neg e];exact Rp.eV.2.2.2.2.2.2
 refine r.flags rfl rfl f (λk hk=>b▸D4 h2 hi hk) λk hk=>?_
 rw[a]
 show(⟨upd s.c pc d k,jr (s.go i q cs pc d) (2*k),jr (s.go i q cs pc d) (2*k+1)⟩:Qi)=_
 rw[o6,q8,(f _).1,(f _).2,show nx (s.go i q cs pc d).n k=nx s.n k from rfl,←o6,←q8]
 by_cases e:k=pc
 ·rw[e,aE,aE]
 ·rw[aQ e,aQ e];rfl
end
theorem cW{a:Type}{f:Nat→a}{k:Nat}:upd f k (f k)=f:=funext λj=>by
 by_cases e:j=k
 ·rw[e,aE]
 ·rw[aQ e]
theorem Iw:Sg.ax≠ .unused:=nofun
theorem Iy:Sg.ax≠ .cz:=nofun
theorem Ko{n i:Nat}:ib n i<4:=by unfold ib;split<;>decide
theorem Kp{i:Nat}:out i<4:=by unfold out;split<;>decide
theorem D7{n i:Nat}:out i≠ib n i:=by unfold ib out;split<;>split<;>decide
theorem Mf{a b fa fb:Nat}{d:Bool}(e:a<4):(yr a b fa fb true d)[a]? =some (bV fa):=(du e).trans (congrArg some (if_pos ⟨rfl,rfl⟩))
theorem Mg{a b fa fb:Nat}{d:Bool}(hb:b<4)(h:b≠a):(yr a b fa fb d true)[b]? =some (bV fb):=(du hb).trans (congrArg some ((if_neg λz=>h z.1).trans (if_pos ⟨rfl,rfl⟩)))
section
variable{H H':Hp}{l:Lay}{s s':RS}{i j k p:Nat}{q:Rp}{cs:List Ch}{c:Ch}
theorem D8(h:(s.p (nx s.n p)).ro=true):q5 s (2*p)=⟨true,1,p⟩:=by
 unfold q5
 rw[o6,h,sI.1,sI.2.1];rfl
theorem wX(h:(s.p p).wo=true):q5 s (2*p+1)=⟨false,1,p⟩:=by
 unfold q5
 rw[q8,h,sI.2.2.1,sI.2.2.2];rfl
theorem oE(h2:2≤s.n)(hi:i<s.n):yt s (pk s.n i)=yr (ib s.n i) (out i) (2*bN s.n i) (2*i+1) (s.p i).ro (s.p i).wo:=(if_neg (uK h2)).trans (by rw[zL hi])
theorem yw(h2:2≤s.n)(hi:i<s.n)(a:(s.p i).st≠ .unused):(d3 l s (pk s.n i)).fl=some (pk s.n i):=by
 rw[ej h2 hi]
 unfold gp
 rw[if_neg a]
theorem Kq(h2:2≤s.n)(hi:i<s.n)(a:(s.p i).st≠ .unused)(b:(s.p i).ro=true):GL (wd l s) (pk s.n i) (pk s.n i) (ib s.n i) (2*bN s.n i):=
 ⟨iM hi,yw h2 hi a,Nat.lt_succ_of_le (iM hi),(congrArg (·[ib s.n i]?) ((oE h2 hi).trans (by rw[b]))).trans (Mf Ko),Nat.mul_lt_mul_of_pos_left (dw hi) (by decide)⟩
theorem D9(h2:2≤s.n)(hi:i<s.n)(a:(s.p i).st≠ .unused)(b:(s.p i).wo=true):GL (wd l s) (pk s.n i) (pk s.n i) (out i) (2*i+1):=
 ⟨iM hi,yw h2 hi a,Nat.lt_succ_of_le (iM hi),(congrArg (·[out i]?) ((oE h2 hi).trans (by rw[b]))).trans (Mg Kp D7),Nat.lt_of_lt_of_le (Nat.lt_succ_self _) (Nat.mul_le_mul_left 2 hi)⟩
theorem kg(h2:2≤s.n)(hi:i<s.n)(h:(s.p i).st=.ready):d3 l s (pk s.n i)=⟨(pk s.n i+1:Nat),.ready,true,some (pk s.n i),aC,(s.p i).ch,(s.p i).kl,0,(s.p i).prog,l.rg (pk s.n i)⟩:=
 (ej h2 hi).trans ((eW (h▸nofun) (h▸nofun)).trans (by rw[h]))
variable(r:Rep H (wd l s))(h2:2≤s.n)(hi:i<s.n)(gq:(s.p i).st=.ready)(MI:(s.p i).kl=false)
include r h2 hi gq
theorem GS{m:Nat}{lo:Nat}{hd:List UInt8}(b:(s.p i).ro=true)(MI:(s.p i).kl=false)(d:0<m)(e:s.c (bN s.n i)=[])(hw:(s.p (bN s.n i)).wo=true):
  ∃H',Fn 5 358 [c_,br (pk s.n i),.int (ib s.n i),.int m] H .none H'∧Rep H' (wd l (s.go i {s.p i with st:=.ax,ch:=.pipe (bN s.n i) false} [] i (s.c i))):=by
 have a:(wd l s).F (2*bN s.n i)=⟨true,1,bN s.n i⟩:=D8 (by rw[fe hi];exact b)
 have up:=kg (l:=l) h2 hi gq
 have t:=GN r (Kq h2 hi (gq▸nofun) b) (by rw[a]) ((congrArg Pw.kl up).trans MI) d (by rw[a];exact⟨e,q8.trans hw⟩)
 rw[a]at t
 refine t.imp λH' t=>⟨t.1,Rep.go (Q:=pU s) t.2 h2 hi rfl rfl ?_ cW.symm⟩
 show upd (d3 l s) (pk s.n i) {d3 l s (pk s.n i)with st:=.ax,ch:=.pipe (bN s.n i) false}=_
 rw[up,show(λk=>(d3 l s k).bD [])=d3 l s from funext λk=>Pw.sL,eW Iw Iy]
theorem zN{m:Nat}{q:Rp}(b:(s.p i).ro=true)(d:¬(s.c (bN s.n i)=[]∧(s.p (bN s.n i)).wo=true))(e:gp l q (pk s.n i)=gp l (s.p i) (pk s.n i)∧q.ro=(s.p i).ro∧q.wo=(s.p i).wo):
  ∃H',Fn 5 358 [c_,br (pk s.n i),.int (ib s.n i),.int m] H (.bytes ((s.c (bN s.n i)).take m)) H'∧Rep H' (wd l (s.go i q [.pipe (bN s.n i) true] (bN s.n i) ((s.c (bN s.n i)).drop m))):=by
 have a:(wd l s).F (2*bN s.n i)=⟨true,1,bN s.n i⟩:=D8 (by rw[fe hi];exact b)
 have up:=kg (l:=l) h2 hi gq
 have t:=GO r (c:=m) (Kq h2 hi (gq▸nofun) b) (by rw[a]) (by rw[a];exactλz=>d ⟨z.1,q8.symm.trans z.2⟩)
 rw[a]at t
 refine t.imp λH' t=>⟨t.1,Rep.go (P:=λk=>(d3 l s k).wake (.pipe (bN s.n i) true)) t.2 h2 hi e.2.1 e.2.2 ?_ rfl⟩
 rw[e.1,←ej h2 hi,show(λk=>(d3 l s k).bD [.pipe (bN s.n i) true])=λk=>(d3 l s k).wake (.pipe (bN s.n i) true)from funext λk=>sJ.symm]
 rw[show d3 l s (pk s.n i)=(λk=>(d3 l s k).wake (.pipe (bN s.n i) true)) (pk s.n i)from(k_ (by rw[up];exact nofun)).symm,cW]
variable(ho:(s.p i).wo=true){bs:List UInt8}(hb:bs.length≤1000)
include ho hb
theorem D_{q:Rp}(b:(s.p (nx s.n i)).ro=true)(hp:(s.p i).prog≤bs.length)(hl:(bs.drop (s.p i).prog).length≤s.R-(s.c i).length)(e:q.st=.ready∧q.ch=(s.p i).ch∧q.kl=(s.p i).kl∧q.prog=0∧q.ro=(s.p i).ro∧q.wo=(s.p i).wo):
  ∃H',Fn 5 365 [c_,br (pk s.n i),.int (out i),.bytes bs] H (.int bs.length) H'∧Rep H' (wd l (s.go i q [.pipe i false] i (s.c i++bs.drop (s.p i).prog))):=by
 have a:(wd l s).F (2*i+1)=⟨false,1,i⟩:=wX ho
 have up:=kg (l:=l) h2 hi gq
 have d:((wd l s).P (pk s.n i)).prog=(s.p i).prog:=congrArg Pw.prog up
 have t:=wV r (bs:=bs) (D9 h2 hi (gq▸nofun) ho) (by rw[a]) (by show(d3 l s (pk s.n i)).st≠_;rw[up];exact nofun) (by rw[a];exact o6.trans b) hb (by rw[d];exact hp) (by rw[d,a];exact hl)
 rw[a,d]at t
 refine t.imp λH' t=>⟨t.1,Rep.go (P:=upd (λj=>(d3 l s j).wake (.pipe i false)) (pk s.n i) {d3 l s (pk s.n i)with prog:=0}) t.2 h2 hi e.2.2.2.2.1 e.2.2.2.2.2 ?_ rfl⟩
 rw[up,eW (e.1▸nofun) (e.1▸nofun),e.1,e.2.1,e.2.2.1,e.2.2.2.1,show(λk=>(d3 l s k).bD [.pipe i false])=λk=>(d3 l s k).wake (.pipe i false)from funext λk=>sJ.symm]
theorem D'(MI:(s.p i).kl=false)(b:(s.p (nx s.n i)).ro=true)(hl:s.R-(s.c i).length<(bs.drop (s.p i).prog).length):
  ∃H',Fn 5 365 [c_,br (pk s.n i),.int (out i),.bytes bs] H .none H'∧Rep H' (wd l (s.go i {s.p i with prog:=(s.p i).prog+(s.R-(s.c i).length),st:=.ax,ch:=.pipe i true} [.pipe i false] i (s.c i++(bs.drop (s.p i).prog).take (s.R-(s.c i).length)))):=by
 have a:(wd l s).F (2*i+1)=⟨false,1,i⟩:=wX ho
 have up:=kg (l:=l) h2 hi gq
 have d:((wd l s).P (pk s.n i)).prog=(s.p i).prog:=congrArg Pw.prog up
 have t:=DW r (bs:=bs) (D9 h2 hi (gq▸nofun) ho) (by rw[a]) (by show(d3 l s (pk s.n i)).st≠_;rw[up];exact nofun) ((congrArg Pw.kl up).trans MI) (by rw[a];exact o6.trans b) hb (by rw[d,a];exact hl)
 rw[a,d]at t
 refine t.imp λH' t=>⟨t.1,Rep.go (P:=upd (λj=>(d3 l s j).wake (.pipe i false)) (pk s.n i) {d3 l s (pk s.n i)with prog:=(s.p i).prog+(s.R-(s.c i).length),st:=.ax,ch:=.pipe i true}) t.2 h2 hi rfl rfl ?_ rfl⟩
 rw[up,eW Iw Iy,show(λk=>(d3 l s k).bD [.pipe i false])=λk=>(d3 l s k).wake (.pipe i false)from funext λk=>sJ.symm]
theorem Ea(a:(s.p (nx s.n i)).ro=false):
  ∃H',x8 5 365 [c_,br (pk s.n i),.int (out i),.bytes bs] H H'∧Rep H' (wd l (s.go i {s.p i with prog:=0} [.pipe i false] i (s.c i))):=by
 have b:(wd l s).F (2*i+1)=⟨false,1,i⟩:=wX ho
 have up:=kg (l:=l) h2 hi gq
 have t:=DX r (bs:=bs) (D9 h2 hi (gq▸nofun) ho) (by rw[b]) (by show(d3 l s (pk s.n i)).st≠_;rw[up];exact nofun) (by rw[b];exact o6.trans a) hb
 rw[b]at t
 refine t.imp λH' t=>⟨t.1,Rep.go (P:=upd (λj=>(d3 l s j).wake (.pipe i false)) (pk s.n i) {d3 l s (pk s.n i)with prog:=0}) (Q:=pU s) t.2 h2 hi rfl rfl ?_ cW.symm⟩
 rw[up,eW (q:={s.p i with prog:=0}) (gq▸nofun) (gq▸nofun),show(λk=>(d3 l s k).bD [.pipe i false])=λk=>(d3 l s k).wake (.pipe i false)from funext λk=>sJ.symm]
 show upd _ _ (Pw.mk _ .ready _ _ _ _ _ _ _ _)=upd _ _ (Pw.mk _ (s.p i).st _ _ _ _ _ _ _ _)
 rw[gq]
end
theorem half{f:Nat}:(f%2=0∧f=2*(f/2))∨(f%2=1∧f=2*(f/2)+1):=(Nat.mod_two_eq_zero_or_one f).imp (λe=>⟨e,((congrArg (2*(f/2)+ ·) e).symm.trans (Nat.div_add_mod f 2)).symm⟩) λe=>⟨e,((congrArg (2*(f/2)+ ·) e).symm.trans (Nat.div_add_mod f 2)).symm⟩
theorem half_lt{f n:Nat}(h:f<2*n):f/2<n:=Nat.div_lt_of_lt_mul h
theorem l6{k n:Nat}(h:k<n):2*k<2*n∧2*k+1<2*n:=⟨Nat.mul_lt_mul_of_pos_left h (by decide),Nat.lt_of_lt_of_le (Nat.lt_succ_self _) (Nat.mul_le_mul_left 2 h)⟩
theorem GU{a b:Nat}(h:a≠b):(!(a.beq b))=true:=by rw[Bool.eq_false_iff.mpr λq=>h (Nat.eq_of_beq_eq_true q)];rfl
section
variable{H H':Hp}{l:Lay}{s s':RS}{f:Nat}
variable(hf:f<2*s.n)(h1:jr s f=true)(h2:jr s' f=false)(Bo:∀g,g<2*s.n→g≠f→jr s' g=jr s g)(hc:s'.c=s.c)
include hf h1 h2 Bo hc
theorem Eb{k:Nat}(hk:k<s.n):pU s' k=upd (pU s) (f/2) ((pU s (f/2)).kW (!(f%2).beq 0)) k:=by
 refine bp (pU s' k= ·) (λe=>?_) λe=>?_
 ·unfold pU Qi.kW
  rw[←e,hc]
  rcases half (f:=f)with h|h
  ·rw[h.1]
   have a:2*k=f:=(congrArg (2* ·) e).trans h.2.symm
   rw[a,h2,Bo (f+1) (a▸(l6 hk).2) (Nat.succ_ne_self f)]
   simp only[Nat.beq_refl,Bool.not_true,Bool.and_false,Bool.not_false,Bool.and_true]
  ·rw[h.1]
   have a:2*k+1=f:=(congrArg (2* · +1) e).trans h.2.symm
   rw[a,h2,Bo (2*k) (l6 hk).1 (λz=>Nat.succ_ne_self f ((congrArg Nat.succ z).symm.trans a))]
   rw[show Nat.beq 1 0=false from rfl,Bool.not_false,Bool.not_true,Bool.and_true,Bool.and_false]
 ·unfold pU
  rw[hc,Bo _ (l6 hk).1 λz=>e (sI.2.1.symm.trans (congrArg (· /2) z)),Bo _ (l6 hk).2 λz=>e (sI.2.2.2.symm.trans (congrArg (· /2) z))]
theorem GV:(List.range s.n).filter (gN s')=bif (!((pU s (f/2)).kW (!(f%2).beq 0)).ro&& !((pU s (f/2)).kW (!(f%2).beq 0)).wo)then((List.range s.n).filter (gN s)).erase (f/2)else(List.range s.n).filter (gN s):=by
 have hk:=half_lt hf
 have q:=Eb hf h1 h2 Bo hc hk
 rw[aE]at q
 rw[←q]
 have ne:∀k,k<s.n→k≠f/2→gN s' k=gN s k:=λk hk e=>by
  unfold gN
  rw[Bo _ (l6 hk).1 λz=>e (sI.2.1.symm.trans (congrArg (· /2) z)),Bo _ (l6 hk).2 λz=>e (sI.2.2.2.symm.trans (congrArg (· /2) z))]
 have cond:(!(pU s' (f/2)).ro&& !(pU s' (f/2)).wo)= !gN s' (f/2):=by
  show(!jr s' _&& !jr s' _)= !(jr s' _||jr s' _)
  rw[Bool.not_or,Bool.and_comm]
 rw[cond]
 have one:gN s (f/2)=true:=by
  unfold gN
  rcases half (f:=f)with h|h
  ·rw[←h.2,h1,Bool.or_true]
  ·rw[←h.2,h1,Bool.true_or]
 cases h:gN s' (f/2)with
 |true=>exact List.filter_congr λk hk=>(Decidable.em (k=f/2)).elim (λe=>e▸h.trans one.symm) λe=>ne k (List.mem_range.mp hk) e
 |false=>
  show _=((List.range s.n).filter (gN s)).erase (f/2)
  rw[List.Nodup.erase_eq_filter (List.nodup_range.filter _),List.filter_filter]
  exact List.filter_congr λk hk=>(Decidable.em (k=f/2)).elim (λe=>by rw[e,h,bne_self_eq_false,Bool.false_and]) λe=>by rw[ne k (List.mem_range.mp hk) e,bne_iff_ne.mpr e,Bool.true_and]
theorem Rep.Iz{P:Nat→Pw}{D:Nat→List MV}(r:Rep H {Wd.DU {wd l s with D:=D} f with P:=P})(a:s'.n=s.n)(b:s'.R=s.R)(c:∀k,k≤s.n→d3 l s' k=P k)(d:∀k,k<s.n+1→yt s' k=D k):Rep H (wd {l with ol:=none} s'):=by
 refine r.wW (w':=wd {l with ol:=none} s') c (λk hk=>?_) (λk hk=>Eb hf h1 h2 Bo hc hk) d ?_ ?_ ?_
 ·refine bp (q5 s' k= ·) (λe=>?_) λe=>?_
  ·unfold q5
   rw[e,h2];rfl
  ·unfold q5
   rw[Bo k hk e]
   rfl
 ·show(List.range (2*s'.n)).filter (jr s')=((List.range (2*s.n)).filter (jr s)).filter λj=> !(j.beq f)
  rw[List.filter_filter,a]
  exact List.filter_congr λk hk=>(Decidable.em (k=f)).elim (λe=>by rw[e,h2,Nat.beq_refl];rfl) λe=>by rw[Bo k (List.mem_range.mp hk) e,GU e,Bool.true_and]
 ·exact(congrArg (λn=>(List.range n).filter (gN s')) a).trans (GV hf h1 h2 Bo hc)
 ·exact(show∀n R,s'.n=n→s'.R=R→wd {l with ol:=none} s'=⟨n,R,(n+2:Nat),d3 l s',q5 s',2*n,pU s',n,l.rb,yt s',l.dl,n+1,(wd l s').op,none,(wd l s').pt,l.X,l.S,l.ns⟩fromλn R e e'=>e▸e'▸rfl) s.n s.R a b
end
theorem map_set{b:Type}{f:Nat→b}{n a:Nat}{x:b}:((List.range n).map f).set a x=(List.range n).map (upd f a x):=
 List.ext_getElem (by rw[List.length_set,bZ,bZ]) λj h1 h2=>by
  rw[List.getElem_set,List.getElem_map,List.getElem_map,List.getElem_range]
  by_cases e:a=j
  ·rw[if_pos e,e,aE]
  ·rw[if_neg e,aQ λz=>e z.symm]
section
variable{a b fa fb:Nat}{ra wb:Bool}
theorem Ec(h:b≠a):(yr a b fa fb ra wb).set a .none=yr a b fa fb false wb:=map_set.trans (List.map_congr_left λj _=>by
 refine bp (· =(if j=a∧false=true then bV fa else if j=b∧wb=true then bV fb else .none)) (λe=>?_) λe=>?_
 ·rw[if_neg (λz=>nomatch z.2),if_neg λz=>h (z.1.symm.trans e)]
 ·exact(if_neg λz=>e z.1).trans (if_neg λz=>nomatch z.2).symm)
theorem Ed(h:b≠a):(yr a b fa fb ra wb).set b .none=yr a b fa fb ra false:=map_set.trans (List.map_congr_left λj _=>by
 refine bp (· =(if j=a∧ra=true then bV fa else if j=b∧false=true then bV fb else .none)) (λe=>?_) λe=>?_
 ·rw[if_neg λz=>h (e.symm.trans z.1),if_neg λz=>nomatch z.2]
 ·exact ite_congr rfl (λ_=>rfl) λ_=>(if_neg λz=>e z.1).trans (if_neg λz=>nomatch z.2).symm)
theorem fo{n i:Nat}:filesOf (yr (ib n i) (out i) fa fb true true)=[.tup [.int (ib n i),bV fa],.tup [.int (out i),bV fb]]∨filesOf (yr (ib n i) (out i) fa fb true true)=[.tup [.int (out i),bV fb],.tup [.int (ib n i),bV fa]]:=by
 unfold ib out;split<;>split<;>first|exact .inl rfl|exact .inr rfl
end
section
variable{H H':Hp}{l:Lay}{s s':RS}{i j k pc:Nat}{q q':Rp}{cs cs':List Ch}{c c':Ch}{d:List UInt8}
theorem cg:(s.go i q cs pc d).p i=q:=if_pos rfl
theorem ed(h:j≠i):(s.go i q cs pc d).p j=(s.p j).bD cs:=if_neg h
theorem sM(h2:2≤s.n)(hi:i<s.n)(a:(s.p i).st=.ready)(e:gp l q (pk s.n i)=gp l (s.p i) (pk s.n i))(hk:k≤s.n):d3 l (s.go i q [c',c] pc d) k=((d3 l s k).wake c).wake c':=by
 rw[D4 h2 hi hk,e,←ej h2 hi,show(λk=>(d3 l s k).bD [c',c])=λk=>((d3 l s k).wake c).wake c' from funext λk=>by rw[sJ (p:=d3 l s k) (c:=c),Pw.yu]]
 have up:(d3 l s (pk s.n i)).st≠ .ax:=by rw[kg h2 hi a];exact nofun
 rw[show upd (λk=>((d3 l s k).wake c).wake c') (pk s.n i) (d3 l s (pk s.n i))=λk=>((d3 l s k).wake c).wake c' from by
  have z:((d3 l s (pk s.n i)).wake c).wake c'=d3 l s (pk s.n i):=by rw[k_ up,k_ up]
  exact(congrArg (upd _ _) z.symm).trans cW]
theorem Mh(a:k≠0)(h:k≠pk s.n i):ri s.n k≠i:=λz=>h (z▸(q6 a).symm)
theorem Ee{L:List MV}(h2:2≤s.n)(hi:i<s.n)(h:yr (ib s.n i) (out i) (2*bN s.n i) (2*i+1) q.ro q.wo=L):yt (s.go i q cs pc d) k=upd (yt s) (pk s.n i) L k:=by
 refine bp (yt (s.go i q cs pc d) k= ·) (λe=>?_) λe=>?_
 ·rw[e,←h]
  exact(oE (s:=s.go i q cs pc d) h2 hi).trans (by rw[cg];rfl)
 ·unfold yt
  by_cases a:k=0
  ·rw[if_pos a,if_pos a]
  ·rw[if_neg a,if_neg a,show(s.go i q cs pc d).n=s.n from rfl,ed (Mh a e),Rp.eV.2.2.2.2.2.2.1,Rp.eV.2.2.2.2.2.2.2]
variable(r:Rep H (wd l s))(h2:2≤s.n)(hi:i<s.n)(gq:(s.p i).st=.ready)
include r h2 hi gq
theorem wY(b:(s.p i).ro=true):∃H',Fn 5 323 [c_,br (pk s.n i),.int (ib s.n i)] H (.int 0) H'∧Rep H' (wd {l with ol:=none} (s.go i {s.p i with ro:=false} [.pipe (bN s.n i) true,.pipe (bN s.n i) false] i (s.c i))):=by
 have h:=Kq (l:=l) h2 hi (gq▸nofun) b
 have m:jr s (2*bN s.n i)=true:=o6.trans (by rw[fe hi];exact b)
 have F:=D8 (s:=s) (p:=bN s.n i) (by rw[fe hi];exact b)
 have hp:bN s.n i∈(List.range s.n).filter (gN s):=List.mem_filter.mpr ⟨List.mem_range.mpr (dw hi),by unfold gN;rw[m,Bool.or_true]⟩
 have a:(q5 s (2*bN s.n i)).p=bN s.n i:=congrArg Fi.p F
 have t:=uJ r h.hk h.fl h.hd h.hi h.hf (λH1 o=>sH o h.hf (show(q5 s (2*bN s.n i)).h=1 from congrArg Fi.h F) (show(q5 s (2*bN s.n i)).p∈_ from a.symm▸hp)) rfl (show(q5 s (2*bN s.n i)).p<s.n from a.symm▸dw hi)
 rw[show((wd l s).F (2*bN s.n i)).p=bN s.n i from a]at t
 refine t.imp λH' t=>⟨t.1,Rep.Iz h.hf m (o6.trans (by rw[show(s.go i {s.p i with ro:=false} [.pipe (bN s.n i) true,.pipe (bN s.n i) false] i (s.c i)).n=s.n from rfl,fe hi,cg])) (λg v u=>?_) cW t.2 rfl rfl (λk hk=>sM h2 hi gq rfl hk) λk hk=>Ee h2 hi ?_⟩
 ·unfold jr
  refine ite_congr rfl (λe=>?_) λe=>?_
  ·have z:nx s.n (g/2)≠i:=λz=>u (((half (f:=g)).resolve_right λy=>nomatch e.symm.trans y.1).2.trans (congrArg (2* ·) ((l3 (half_lt v)).symm.trans (congrArg (bN s.n) z))))
   rw[show(s.go i {s.p i with ro:=false} [.pipe (bN s.n i) true,.pipe (bN s.n i) false] i (s.c i)).n=s.n from rfl,ed z,Rp.eV.2.2.2.2.2.2.1]
  ·by_cases z:g/2=i
   ·rw[z,cg]
   ·rw[ed z,Rp.eV.2.2.2.2.2.2.2]
 ·exact((congrArg (List.set · (ib s.n i) .none) (oE h2 hi)).trans (Ec D7)).symm
theorem wZ(b:(s.p i).wo=true):∃H',Fn 5 323 [c_,br (pk s.n i),.int (out i)] H (.int 0) H'∧Rep H' (wd {l with ol:=none} (s.go i {s.p i with wo:=false} [.pipe i true,.pipe i false] i (s.c i))):=by
 have h:=D9 (l:=l) h2 hi (gq▸nofun) b
 have m:jr s (2*i+1)=true:=q8.trans b
 have F:=wX (s:=s) (p:=i) b
 have hp:i∈(List.range s.n).filter (gN s):=List.mem_filter.mpr ⟨List.mem_range.mpr hi,by unfold gN;rw[m,Bool.true_or]⟩
 have a:(q5 s (2*i+1)).p=i:=congrArg Fi.p F
 have t:=uJ r h.hk h.fl h.hd h.hi h.hf (λH1 o=>sH o h.hf (show(q5 s (2*i+1)).h=1 from congrArg Fi.h F) (show(q5 s (2*i+1)).p∈_ from a.symm▸hp)) rfl (show(q5 s (2*i+1)).p<s.n from a.symm▸hi)
 rw[show((wd l s).F (2*i+1)).p=i from a]at t
 refine t.imp λH' t=>⟨t.1,Rep.Iz h.hf m (q8.trans (by rw[cg])) (λg v u=>?_) cW t.2 rfl rfl (λk hk=>sM h2 hi gq rfl hk) λk hk=>Ee h2 hi ?_⟩
 ·unfold jr
  refine ite_congr rfl (λe=>?_) λe=>?_
  ·by_cases z:nx s.n (g/2)=i
   ·rw[show(s.go i {s.p i with wo:=false} [.pipe i true,.pipe i false] i (s.c i)).n=s.n from rfl,z,cg]
   ·rw[show(s.go i {s.p i with wo:=false} [.pipe i true,.pipe i false] i (s.c i)).n=s.n from rfl,ed z,Rp.eV.2.2.2.2.2.2.1]
  ·have z:g/2≠i:=λz=>u (((half (f:=g)).resolve_left λy=>e y.1).2.trans (congrArg (2* · +1) z))
   rw[ed z,Rp.eV.2.2.2.2.2.2.2]
 ·exact((congrArg (List.set · (out i) .none) (oE h2 hi)).trans (Ed D7)).symm
end
noncomputable def GW(n i:Nat):List Ch:=[.pipe (bN n i) false,.pipe (bN n i) true,.pipe i false,.pipe i true,.child 1]
section
variable{H H':Hp}{l l1 l2:Lay}{s s':RS}{i j k pc:Nat}{q q':Rp}{cs cs':List Ch}{c c':Ch}{d d':List UInt8}
theorem Rp.kh:(q.bD cs).bD cs'=q.bD (cs'++cs):=by
 by_cases e:q.st=.ax
 ·by_cases m:q.ch∈cs
  ·rw[show q.bD cs=_ from if_pos ⟨e,m⟩,show q.bD (cs'++cs)=_ from if_pos ⟨e,List.mem_append_right _ m⟩]
   exact if_neg λz=>nomatch z.1
  ·rw[show q.bD cs=q from if_neg λz=>m z.2]
   exact ite_congr (propext ⟨λz=>⟨e,List.mem_append_left _ z.2⟩,λz=>⟨e,(List.mem_append.mp z.2).resolve_right m⟩⟩) (λ_=>rfl) λ_=>rfl
 ·rw[show q.bD cs=q from if_neg λz=>e z.1]
  exact(if_neg λz=>e z.1).trans (if_neg λz=>e z.1).symm
noncomputable def RS.fq(s:RS):Rp:=⟨[],0,0,0,s.fst,s.l0,false,false,false,false⟩
theorem ie:(s.go i q cs pc d).fst=(s.fq.bD cs).st∧(s.go i q cs pc d).l0=(s.fq.bD cs).ch:=by
 unfold Rp.bD
 show(if s.fst=.ax∧s.l0∈cs then Sg.ready else s.fst)=(if s.fst=.ax∧s.l0∈cs then _ else _:Rp).st∧(if s.fst=.ax∧s.l0∈cs then Ch.none else s.l0)=(if s.fst=.ax∧s.l0∈cs then _ else _:Rp).ch
 split<;>exact⟨rfl,rfl⟩
theorem RS.Kr(hp:s'.p=s.p)(a:s'.c=s.c)(b:s'.fst=s.fst)(h2:s'.l0=s.l0)(e:s'={s with p:=s'.p,c:=s'.c,fst:=s'.fst,l0:=s'.l0}):s'=s:=by rw[e,hp,a,b,h2]
theorem sN:(s.go i q cs pc d).go i q' cs' pc d'=s.go i q' (cs'++cs) pc d':=by
 have f:(s.go i q cs pc d).fq={s.fq with st:=(s.fq.bD cs).st,ch:=(s.fq.bD cs).ch}:=by unfold RS.fq;rw[ie.1,ie.2];rfl
 have g:(s.go i q cs pc d).fq=s.fq.bD cs:=f.trans (by unfold Rp.bD;split<;>rfl)
 refine RS.Kr (funext λj=>?_) kz ?_ ?_ rfl
 ·by_cases e:j=i
  ·rw[e,cg,cg]
  ·rw[ed e,ed e,ed e,Rp.kh]
 ·rw[ie.1,ie.1,g,Rp.kh]
 ·rw[ie.2,ie.2,g,Rp.kh]
theorem go_congr(h:∀c,c∈cs↔c∈cs'):s.go i q cs pc d=s.go i q cs' pc d:=by
 have w:∀q:Rp,q.bD cs=q.bD cs':=λq=>ite_congr (by rw[show(q.ch∈cs)=(q.ch∈cs')from propext (h _)]) (λ_=>rfl) λ_=>rfl
 refine RS.Kr (funext λj=>?_) rfl ?_ ?_ rfl
 ·by_cases e:j=i
  ·rw[e,cg,cg]
  ·rw[ed e,ed e,w]
 ·rw[ie.1,ie.1,w]
 ·rw[ie.2,ie.2,w]
theorem GX(h:d=s.c pc):s.go i q cs pc d=s.go i q cs i (s.c i):=by
 refine RS.Kr rfl ?_ rfl rfl rfl
 show upd s.c pc d=upd s.c i (s.c i)
 rw[h,cW,cW]
theorem zO{i1 v i2 u:Nat}{m:Wd}(r:Rep H (wd l s))(h2:2≤s.n)(hi:i<s.n)(b:(s.p i).st=.ready)(o:filesOf (yt s (pk s.n i))=[.tup [.int i1,bV v],.tup [.int i2,bV u]])
  (y:∃H1,Fn 5 323 [c_,br (pk s.n i),.int i1] H (.int 0) H1∧Rep H1 m)(w:∀H1,Rep H1 m→∃H2,Fn 5 323 [c_,br (pk s.n i),.int i2] H1 (.int 0) H2∧Rep H2 (wd {l with ol:=none} (s.go i {s.p i with ro:=false,wo:=false} cs i (s.c i))))
  (a:q.st=.cz∧q.ch=.none∧q.prog=0∧q.kl=(s.p i).kl∧q.ro=false∧q.wo=false):∃H',Fn 7 288 [c_,br (pk s.n i),.int q.aP] H (.int 0) H'∧Rep H' (wd {l with ol:=none} (s.go i q (.child 1::cs) i (s.c i))):=by
 have up:=kg (l:=l) h2 hi b
 have h:d3 l (s.go i {s.p i with ro:=false,wo:=false} cs i (s.c i)) (pk s.n i)=d3 l s (pk s.n i):=(ej (s:=s.go i {s.p i with ro:=false,wo:=false} cs i (s.c i)) h2 hi).trans (by rw[cg,ej h2 hi];rfl)
 have t:=Km (st:=q.aP) r (uK h2) (iM hi) (yw h2 hi (b▸nofun)) (Nat.lt_succ_of_le (iM hi)) (congrArg Pw.par up) o y w h rfl rfl
 refine t.imp λH' t=>⟨t.1,?_⟩
 have g:=Rep.go (q:=q) (cs:=[.child 1]) (pc:=i) (d:=s.c i) (l:={l with ol:=none}) (s:=s.go i {s.p i with ro:=false,wo:=false} cs i (s.c i)) (P:=λk=>(upd (d3 l (s.go i {s.p i with ro:=false,wo:=false} cs i (s.c i))) (pk s.n i) {d3 l s (pk s.n i)with prog:=0,st:=.cz,ch:=.none,Mc:=q.aP} k).wake (.child 1)) (Q:=pU (s.go i {s.p i with ro:=false,wo:=false} cs i (s.c i))) t.2 h2 hi (by rw[cg];exact a.2.2.2.2.1) (by rw[cg];exact a.2.2.2.2.2) (funext λk=>?_) ?_
 ·rw[sN]at g;exact g
 ·refine bp (λx:Pw=>x.wake (.child 1)=_) (λe=>?_) λe=>?_
  ·rw[e,show(s.go i {s.p i with ro:=false,wo:=false} cs i (s.c i)).n=s.n from rfl,aE,up]
   refine(k_ (p:=⟨(pk s.n i+1:Nat),.cz,true,some (pk s.n i),aC,.none,(s.p i).kl,q.aP,0,l.rg (pk s.n i)⟩) (c:=.child 1) nofun).trans ?_
   unfold gp
   rw[a.1,a.2.1,a.2.2.1,a.2.2.2.1];rfl
  ·rw[show(s.go i {s.p i with ro:=false,wo:=false} cs i (s.c i)).n=s.n from rfl,aQ e];exact sJ
 ·refine(cW (f:=pU (s.go i {s.p i with ro:=false,wo:=false} cs i (s.c i))) (k:=i)).symm.trans (congrArg (upd _ i) ?_)
  show(⟨upd s.c i (s.c i) i,_,_⟩:Qi)=⟨s.c i,_,_⟩
  rw[aE]
theorem Ku(r:Rep H (wd l s))(h2:2≤s.n)(hi:i<s.n)(a:(s.p i).st=.ready)(ro:(s.p i).ro=true)(wo:(s.p i).wo=true)(e:q.st=.cz∧q.ch=.none∧q.prog=0∧q.kl=(s.p i).kl∧q.ro=false∧q.wo=false):
  ∃H',Fn 7 288 [c_,br (pk s.n i),.int q.aP] H (.int 0) H'∧Rep H' (wd {l with ol:=none} (s.go i q (GW s.n i) i (s.c i))):=by
 have ds:yt s (pk s.n i)=yr (ib s.n i) (out i) (2*bN s.n i) (2*i+1) true true:=(oE h2 hi).trans (by rw[ro,wo])
 have g:∀{q:Rp}{cs:List Ch},(s.go i q cs i (s.c i)).c i=s.c i:=aE
 rcases fo (fa:=2*bN s.n i) (fb:=2*i+1) (n:=s.n) (i:=i)with f|f
 ·rw[←ds]at f
  have t:=zO r h2 hi a f (wY r h2 hi a ro) (λH1 b=>by
   have y:=wZ b h2 hi (by rw[cg];exact a) (by rw[cg];exact wo)
   rw[cg,g,sN]at y
   exact y) e
  rw[go_congr (cs':=GW s.n i) (λc=>?_)]at t
  ·exact t
  ·unfold GW
   simp only[List.mem_cons,List.mem_append,List.cons_append,List.nil_append,List.not_mem_nil,or_false]
   exact⟨λz=>z.elim (λz=>.inr (.inr (.inr (.inr z)))) λz=>z.elim (λz=>.inr (.inr (.inr (.inl z)))) λz=>z.elim (λz=>.inr (.inr (.inl z))) λz=>z.elim (λz=>.inr (.inl z)) .inl,
    λz=>z.elim (λz=>.inr (.inr (.inr (.inr z)))) λz=>z.elim (λz=>.inr (.inr (.inr (.inl z)))) λz=>z.elim (λz=>.inr (.inr (.inl z))) λz=>z.elim (λz=>.inr (.inl z)) .inl⟩
 ·rw[←ds]at f
  have t:=zO r h2 hi a f (wZ r h2 hi a wo) (λH1 b=>by
   have y:=wY b h2 hi (by rw[cg];exact a) (by rw[cg];exact ro)
   rw[cg,g,sN]at y
   exact y) e
  rw[go_congr (cs':=GW s.n i) (λc=>?_)]at t
  ·exact t
  ·unfold GW
   simp only[List.mem_cons,List.mem_append,List.cons_append,List.nil_append,List.not_mem_nil,or_false]
   exact⟨λz=>z.elim (λz=>.inr (.inr (.inr (.inr z)))) λz=>z.elim (λz=>.inr (.inl z)) λz=>z.elim .inl λz=>z.elim (λz=>.inr (.inr (.inr (.inl z)))) λz=>.inr (.inr (.inl z)),
    λz=>z.elim (λz=>.inr (.inr (.inl z))) λz=>z.elim (λz=>.inr (.inl z)) λz=>z.elim (λz=>.inr (.inr (.inr (.inr z)))) λz=>z.elim (λz=>.inr (.inr (.inr (.inl z)))) .inl⟩
end
section
variable{H H':Hp}{l:Lay}{s:RS}{i j k:Nat}{q:Rp}
noncomputable def Rp.c0(q:Rp):Rp:={q with kl:=true,st:=.ready,ch:=if q.st=.ax then .none else q.ch}
noncomputable def Rp.ek(q:Rp):Rp:={q with st:=.unused,ch:=.none,prog:=0,kl:=false}
theorem hM:(gp l q k).st=q.st:=by
 unfold gp
 by_cases u:q.st=.unused
 ·rw[if_pos u,u];rfl
 ·rw[if_neg u]
theorem q9(u:q.st≠ .unused):(gp l q k).par=true∧(gp l q k).pid=(k+1:Nat):=by
 unfold gp
 rw[if_neg u]
 exact⟨rfl,rfl⟩
theorem GY(u:(d3 l s k).st≠ .unused):(d3 l s k).pid=(k+1:Nat):=by
 unfold d3 at u⊢
 by_cases a:k=0
 ·rw[if_pos a,a];rfl
 ·rw[if_neg a]at u⊢
  exact(q9 (hM▸u)).2
theorem uL(hp:(d3 l s k).par=true):k≠0:=by
 unfold d3 at hp
 intro a
 rw[if_pos a]at hp
 exact nomatch hp
theorem Ef:(λk=>(d3 l s k).bD [])=d3 l s:=funext λk=>Pw.sL
variable(r:Rep H (wd l s))(h2:2≤s.n)
include r h2
theorem Kv{x:MV}(hi:i<s.n)(a:(s.p i).st=.ready∨(s.p i).st=.ax):∃H',Fn 4 302 [c_,x,.int (pk s.n i+1:Nat)] H (.int 0) H'∧Rep H' (wd l (s.go i (s.p i).c0 [] i (s.c i))):=by
 have b:(s.p i).st≠ .unused:=a.elim (λe=>e▸nofun) λe=>e▸nofun
 have d:(s.p i).st≠ .cz:=a.elim (λe=>e▸nofun) λe=>e▸nofun
 have up:d3 l s (pk s.n i)=_:=(ej h2 hi).trans (eW b d)
 have t:=Kn (x:=x) r (uK h2) (iM hi) (show(d3 l s (pk s.n i)).st≠_ from up▸b) (λj g f=>by
  exactλz=>Nat.ne_of_lt g (Nat.succ.inj (Int.ofNat.inj ((GY (l:=l) f).symm.trans (z.trans (congrArg Pw.pid up))))))
 rw[show((wd l s).P (pk s.n i)).pid=((pk s.n i+1:Nat):Int)from congrArg Pw.pid up]at t
 refine t.imp λH' t=>⟨t.1,Rep.go (Q:=pU s) t.2 h2 hi rfl rfl ?_ cW.symm⟩
 rw[Ef,eW (q:=(s.p i).c0) (show Sg.ready≠_ from nofun) (show Sg.ready≠_ from nofun),show(wd l s).P (pk s.n i)=_ from up]
 refine congrArg (upd _ _) ?_
 show(if(s.p i).st=.ax then(_:Pw)else _)=⟨_,.ready,true,_,_,if(s.p i).st=.ax then .none else(s.p i).ch,true,0,_,_⟩
 rcases a with e|e
 ·rw[if_neg (e▸nofun),if_neg (e▸nofun),←e];rfl
 ·rw[if_pos e,if_pos e];rfl
theorem GZ(h:∃i,i<s.n∧(s.p i).st=.cz):∃i H',i<s.n∧(s.p i).st=.cz∧Fn 4 295 [c_,br 0] H (.tup [.int (pk s.n i+1:Nat),.int (s.p i).aP]) H'∧Rep H' (wd l (s.go i (s.p i).ek [] i (s.c i))):=by
 obtain⟨i,hi,b⟩:=h
 have at_:∀{i},i<s.n→(s.p i).st=.cz→d3 l s (pk s.n i)=⟨(pk s.n i+1:Nat),.cz,true,some (pk s.n i),aC,(s.p i).ch,(s.p i).kl,(s.p i).aP,(s.p i).prog,l.rg (pk s.n i)⟩:=λ{i} hi b=>(ej h2 hi).trans (by
  unfold gp
  rw[if_neg (b▸nofun),b];rfl)
 obtain⟨j,H',o,hp,b,f,m⟩:=GP r ⟨pk s.n i,iM hi,congrArg Pw.par (at_ hi b),congrArg Pw.st (at_ hi b)⟩
 have g:j≠0:=uL (l:=l) (s:=s) hp
 have d:ri s.n j<s.n:=q7 g o
 have em:pk s.n (ri s.n j)=j:=q6 g
 have e:(s.p (ri s.n j)).st=.cz:=hM.symm.trans ((congrArg Pw.st (ej (l:=l) h2 d)).symm.trans (em.symm▸b))
 have a:=at_ d e
 refine⟨ri s.n j,H',d,e,?_,Rep.go (Q:=pU s) m h2 d rfl rfl ?_ cW.symm⟩
 ·rw[show(wd l s).P j=d3 l s (pk s.n (ri s.n j))from congrArg (d3 l s) em.symm,a]at f
  exact f
 ·rw[Ef,em,show gp l (s.p (ri s.n j)).ek j=D1 from if_pos rfl];rfl
theorem G1(h:∀i,i<s.n→(s.p i).st=.unused):x8 4 295 [c_,br 0] H H:=GQ r λj b hp=>by
 have a:j≠0:=uL (l:=l) (s:=s) hp
 have em:pk s.n (ri s.n j)=j:=q6 a
 exact(congrArg Pw.st ((congrArg (d3 l s) em.symm).trans (ej (l:=l) h2 (q7 a b)))).trans (hM.trans (h _ (q7 a b)))
theorem zP(h:∃i,i<s.n∧(s.p i).st≠ .unused)(f:∀i,i<s.n→(s.p i).st≠ .cz):∃H',Fn 4 295 [c_,br 0] H .none H'∧Rep H' (wd l {s with fst:=.ax,l0:=.child 1}):=by
 obtain⟨i,hi,b⟩:=h
 have at_:d3 l s (pk s.n i)=gp l (s.p i) (pk s.n i):=ej h2 hi
 have t:=GR r ⟨pk s.n i,iM hi,(congrArg Pw.par at_).trans (q9 b).1,λz=>b (hM.symm.trans ((congrArg Pw.st at_).symm.trans z))⟩ (λj d hp z=>by
  have a:j≠0:=uL (l:=l) (s:=s) hp
  exact f _ (q7 a d) (hM.symm.trans ((congrArg Pw.st (ej (l:=l) h2 (q7 a d))).symm.trans ((congrArg (λj=>(d3 l s j).st) (q6 a)).trans z)))) rfl
 refine t.imp λH' t=>⟨t.1,Rep.flags (s:=s) (Q:=pU s) t.2 rfl rfl (λ_=>⟨rfl,rfl⟩) (λk hk=>?_) λ_ _=>rfl⟩
 refine bp (λx=>d3 l {s with fst:=.ax,l0:=.child 1} k=x) (λe=>?_) λe=>?_
 ·rw[e];rfl
 ·exact(if_neg e).trans (if_neg (c:=k=0) e).symm
end
structure Co where
 hand:List UInt8
 prog:Nat
 aP:Nat
 gM:Nat
 there:Bool
noncomputable def Rp.co(q:Rp):Co:=⟨q.hand,q.prog,q.aP,q.gM,q.there⟩
noncomputable def Co.ig(x:Co):List UInt8:=x.hand.drop x.prog
noncomputable def Co.tl(x:Co):List UInt8:=bif x.there then x.ig else[]
noncomputable def Co.ls(x:Co):Nat:=bif x.there then 0 else x.gM
def Lk(x:Co)(c:List UInt8)(y:Co)(a:Nat)(row:List UInt8):Prop:=y.there=true→y.aP+(c++x.tl).length+x.ls=a+x.aP∧∀k,k<(c++x.tl).length→row[(y.aP+k)%row.length]? =(c++x.tl)[k]?
structure Al(q:Rp):Prop where
 ro:q.ro=q.there
 wo:q.wo=q.there
 on:q.there=true→q.kl=false∧(q.st=.ready∨q.st=.ax)
 off:q.there=false→q.st=.cz∨q.st=.unused
structure Hd(x:Co):Prop where
 le:x.prog≤x.hand.length
 len:x.hand.length≤1000
 lt:x.there=true→x.hand≠[]→x.prog<x.hand.length
def Sl(n R i:Nat)(q:Rp)(c:Nat→List UInt8)(t:Nat→Bool):Prop:=q.st=.ax→(q.ch=.pipe (bN n i) false∧q.hand=[]∧c (bN n i)=[]∧t (bN n i)=true)∨(q.ch=.pipe i true∧q.hand≠[]∧(c i).length=R∧t (nx n i)=true)
structure Inv(s:RS):Prop where
 n2:2≤s.n
 n5:s.n≤5
 R0:0<s.R
 sz:∀i,i<s.n→0<s.size i∧s.size i≤50∧(s.row i).length≤1000
 MJ:∀i,i<s.n→∀k,(s.row (nx s.n i))[(s.begun i+k)%(s.row (nx s.n i)).length]? =(s.row i)[k%(s.row i).length]?
 E3:∀i,i<s.n→(s.c i).length≤s.R
 al:∀i,i<s.n→Al (s.p i)
 hd:∀i,i<s.n→Hd (s.p i).co
 lk:∀i,i<s.n→Lk (s.p i).co (s.c i) (s.p (nx s.n i)).co (s.begun i) (s.row (nx s.n i))
 sl:∀i,i<s.n→Sl s.n s.R i (s.p i) s.c λj=>(s.p j).there
 fs:s.fst=.ready∨(s.fst=.ax∧s.l0=.child 1∧∀i,i<s.n→(s.p i).st≠ .cz)
section
variable{s:RS}{i j k pc:Nat}{q:Rp}{cs:List Ch}{c l:List UInt8}
theorem nr:(q.bD cs).co=q.co:=by unfold Rp.bD;split<;>rfl
theorem iN:((q.bD cs).st=q.st∧(q.bD cs).ch=q.ch∧(q.st=.ax→q.ch∉cs))∨(q.st=.ax∧(q.bD cs).st=.ready):=by
 unfold Rp.bD
 by_cases h:q.st=.ax∧q.ch∈cs
 ·rw[if_pos h];exact .inr ⟨h.1,rfl⟩
 ·rw[if_neg h];exact .inl ⟨rfl,rfl,λa b=>h ⟨a,b⟩⟩
theorem Al.bD(h:Al q):Al (q.bD cs):=by
 have f:=Rp.eV (q:=q) (cs:=cs)
 refine⟨f.2.2.2.2.2.2.1.trans (h.ro.trans f.2.2.2.2.1.symm),f.2.2.2.2.2.2.2.trans (h.wo.trans f.2.2.2.2.1.symm),λe=>?_,λe=>?_⟩
 ·have o:=h.on (f.2.2.2.2.1.symm.trans e)
  exact⟨f.2.2.2.2.2.1.trans o.1,iN.elim (λw=>o.2.imp w.1.trans w.1.trans) λw=>.inl w.2⟩
 ·have o:=h.off (f.2.2.2.2.1.symm.trans e)
  exact iN.elim (λw=>o.imp w.1.trans w.1.trans) λw=>o.elim (λz=>nomatch w.1.symm.trans z) λz=>nomatch w.1.symm.trans z
theorem zQ:((s.go i q cs pc l).p j).co=upd (λj=>(s.p j).co) i q.co j:=by
 refine bp (((s.go i q cs pc l).p j).co= ·) (λe=>?_) λe=>?_
 ·rw[e,cg]
 ·rw[ed e,nr]
theorem ki:(λj=>((s.go i q cs pc l).p j).there)=upd (λj=>(s.p j).there) i q.there:=funext λj=>by
 refine bp (((s.go i q cs pc l).p j).there= ·) (λe=>?_) λe=>?_
 ·rw[e,cg]
 ·rw[ed e,Rp.eV.2.2.2.2.1]
theorem Inv.go(I:Inv s)(hi:i<s.n)(hp:pc=i∨pc=bN s.n i)(E3:l.length≤s.R)(al:Al q)(hd:Hd q.co)(sl:Sl s.n s.R i q (upd s.c pc l) λj=>(s.p j).there)
  (m:q.there=false→(s.p i).there=true→ .pipe i false∈cs∧ .pipe (bN s.n i) true∈cs)(g:l=s.c pc∨((.pipe pc false∈cs∨nx s.n pc=i)∧(.pipe pc true∈cs∨pc=i)))(t:q.st=.cz→ .child 1∈cs)
  (A:Lk q.co (upd s.c pc l i) (s.p (nx s.n i)).co (s.begun i) (s.row (nx s.n i)))(v:Lk (s.p (bN s.n i)).co (upd s.c pc l (bN s.n i)) q.co (s.begun (bN s.n i)) (s.row i)):Inv (s.go i q cs pc l):=by
 have u:=l5 I.n2 hi
 have nn:=zM I.n2 hi
 have r:∀j,upd s.c pc l j=s.c j∨(j=pc∧l≠s.c pc):=λj=>(Decidable.em (j=pc)).elim (λe=>(Decidable.em (l=s.c pc)).imp (λh=>by rw[e,aE,h]) λh=>⟨e,h⟩) λe=>.inl (aQ e)
 refine⟨I.n2,I.n5,I.R0,I.sz,I.MJ,λj a=>?_,λj a=>?_,λj a=>?_,λj a=>?_,λj a=>?_,?_⟩
 ·exact bp (λc:List UInt8=>c.length≤s.R) (λ_=>E3) λ_=>I.E3 j a
 ·by_cases e:j=i
  ·rw[e,cg];exact al
  ·rw[ed e];exact(I.al j a).bD
 ·rw[zQ];exact bp Hd (λ_=>hd) λ_=>I.hd j a
 ·show Lk _ (upd s.c pc l j) ((s.go i q cs pc l).p (nx s.n j)).co (s.begun j) (s.row (nx s.n j))
  rw[zQ,zQ]
  by_cases e:j=i
  ·rw[e,aE,aQ nn];exact A
  ·rw[aQ e]
   by_cases f:nx s.n j=i
   ·have B:j=bN s.n i:=(l3 a).symm.trans (congrArg (bN s.n) f)
    rw[B,fe hi,aE];exact v
   ·rw[aQ f,aQ (λz=>hp.elim (λh=>e (z.trans h)) λh=>f ((congrArg (nx s.n) (z.trans h)).trans (fe hi)))];exact I.lk j a
 ·show Sl s.n s.R j _ (upd s.c pc l) _
  rw[ki]
  by_cases e:j=i
  ·rw[e,cg]
   intro h
   rw[aQ u,aQ nn]
   exact sl h
  ·rw[ed e]
   intro h
   rcases iN (q:=s.p j) (cs:=cs)with w|w
   ·have o:=w.1.symm.trans h
    have out:=w.2.2 o
    rw[w.2.1,Rp.eV.1]
    refine(I.sl j a o).imp (λz=>?_) λz=>?_
    ·refine⟨z.1,z.2.1,?_,bp (λb:Bool=>b=true) (λx=>Classical.byContradiction λy=>out (z.1.symm▸x.symm▸(m (Bool.eq_false_iff.mpr y) ((congrArg (λj=>(s.p j).there) x).symm.trans z.2.2.2)).1)) λ_=>z.2.2.2⟩
     refine(r (bN s.n j)).elim (λx=>x.trans z.2.2.1) λx=>absurd (g.resolve_left x.2).1 λy=>y.elim (λy=>out (z.1.symm▸x.1.symm▸y)) λy=>e ((fe a).symm.trans ((congrArg (nx s.n) x.1).trans y))
    ·refine⟨z.1,z.2.1,?_,bp (λb:Bool=>b=true) (λx=>Classical.byContradiction λy=>out (z.1.symm▸(show j=bN s.n i from(l3 a).symm.trans (congrArg (bN s.n) x)).symm▸(m (Bool.eq_false_iff.mpr y) ((congrArg (λj=>(s.p j).there) x).symm.trans z.2.2.2)).2)) λ_=>z.2.2.2⟩
     refine(r j).elim (λx=>(congrArg List.length x).trans z.2.2.1) λx=>absurd (g.resolve_left x.2).2 λy=>y.elim (λy=>out (z.1.symm▸x.1.symm▸y)) λy=>e (x.1.trans y)
   ·exact nomatch w.2.symm.trans h
 ·rcases I.fs with h|h
  ·have d:¬(s.fst=.ax∧s.l0∈cs):=λy=>nomatch h.symm.trans y.1
   exact .inl ((if_neg d).trans h)
  ·by_cases z:Ch.child 1∈cs
   ·exact .inl (if_pos ⟨h.1,h.2.1.symm▸z⟩)
   ·have d:¬(s.fst=.ax∧s.l0∈cs):=λy=>z (h.2.1▸y.2)
    refine .inr ⟨(if_neg d).trans h.1,(if_neg d).trans h.2.1,λj a y=>?_⟩
    by_cases e:j=i
    ·rw[e,cg]at y;exact z (t y)
    ·rw[ed e]at y
     exact iN.elim (λw=>h.2.2 j a (w.1.symm.trans y)) λw=>nomatch w.2.symm.trans y
end
noncomputable def Eg(q:Rp):Rp:={q with there:=false,gM:=q.hand.length-q.prog,ro:=false,wo:=false,prog:=0,st:=.cz,ch:=.none}
noncomputable def RS.ended(s:RS)(i:Nat)(q:Rp):RS:=s.go i (Eg q) (GW s.n i) i (s.c i)
noncomputable def RS.room(s:RS)(i:Nat):Nat:=s.R-(s.c i).length
noncomputable def RS.got(s:RS)(i:Nat):List UInt8:=(s.c (bN s.n i)).take (s.size i)
inductive gG(s:RS)(i:Nat):RS→Prop where
 |jh:(s.p i).hand=[]→s.c (bN s.n i)=[]→(s.p (bN s.n i)).there=true→gG s i (s.go i {s.p i with st:=.ax,ch:=.pipe (bN s.n i) false} [] i (s.c i))
 |read:(s.p i).hand=[]→s.c (bN s.n i)≠[]→gG s i (s.go i {s.p i with hand:=s.got i,aP:=(s.p i).aP+(s.got i).length} [.pipe (bN s.n i) true] (bN s.n i) ((s.c (bN s.n i)).drop (s.size i)))
 |full:(s.p i).hand≠[]→(s.p (nx s.n i)).there=true→(s.p i).co.ig.length≤s.room i→gG s i (s.go i {s.p i with prog:=0,hand:=[]} [.pipe i false] i (s.c i++(s.p i).co.ig))
 |part:(s.p i).hand≠[]→(s.p (nx s.n i)).there=true→s.room i<(s.p i).co.ig.length→gG s i (s.go i {s.p i with prog:=(s.p i).prog+s.room i,st:=.ax,ch:=.pipe i true} [.pipe i false] i (s.c i++(s.p i).co.ig.take (s.room i)))
 |eof:(s.p i).hand=[]→s.c (bN s.n i)=[]→(s.p (bN s.n i)).there=false→gG s i (s.ended i (s.p i))
 |refused:(s.p i).hand≠[]→(s.p (nx s.n i)).there=false→gG s i (s.ended i {s.p i with prog:=0})
section
variable{s s':RS}{i j k pc bg:Nat}{q:Rp}{cs:List Ch}{c l us vs row G2:List UInt8}{x x' y y' z:Co}
theorem Lk.rd(h:Lk x c y bg row)(e:y'.there=true→y.there=true)(p:y'.aP=y.aP):Lk x c y' bg row:=λt=>p.symm▸h (e t)
theorem Lk.off(h:y.there=false):Lk x c y bg row:=λt=>nomatch h.symm.trans t
theorem Lk.read(h:Lk x (us++vs) y bg row)(e:y'.there=true→y.there=true)(p:y'.aP=y.aP+us.length):Lk x vs y' bg row:=λt=>by
 have h:=h (e t)
 rw[List.append_assoc,List.length_append,←Nat.add_assoc,←p]at h
 refine⟨h.1,λk hk=>?_⟩
 have g:=h.2 (us.length+k) (Nat.add_lt_add_left hk us.length)
 rw[List.getElem?_append_right (Nat.le_add_right ..),Nat.add_sub_cancel_left,←Nat.add_assoc,←p]at g
 exact g
theorem Lk.got(h:Lk x c y bg row)(f:x.tl=[])(e:x.ls=0)(b:x'.tl=us)(d:x'.ls=0)(p:x'.aP=x.aP+us.length)(MJ:∀k,row[(bg+k)%row.length]? =G2[k%G2.length]?)(cont:∀k,k<us.length→G2[(x.aP+k)%G2.length]? =us[k]?):Lk x' c y bg row:=λt=>by
 have h:=h t
 rw[f,e,List.append_nil,Nat.add_zero]at h
 rw[b,d,p,List.length_append,←Nat.add_assoc,←Nat.add_assoc,h.1]
 refine⟨rfl,λk hk=>?_⟩
 rcases Nat.lt_or_ge k c.length with a|a
 ·rw[List.getElem?_append_left a,h.2 k a]
 ·obtain⟨m,rfl⟩:=Nat.le.dest a
  rw[List.getElem?_append_right a,Nat.add_sub_cancel_left,←Nat.add_assoc,h.1,Nat.add_assoc,MJ,cont m (Nat.lt_of_add_lt_add_left hk)]
theorem Lk.push(h:Lk x c y bg row)(b:x.tl=us++vs)(a:x'.tl=vs)(l:x'.ls=x.ls)(p:x'.aP=x.aP):Lk x' (c++us) y bg row:=λt=>by
 rw[List.append_assoc,a,←b,l,p]
 exact h t
theorem Lk.ended(h:Lk x c y bg row)(a:x'.tl=[])(l:x'.ls=x.tl.length+x.ls)(p:x'.aP=x.aP):Lk x' c y bg row:=λt=>by
 have h:=h t
 rw[a,l,p,List.append_nil]
 rw[List.length_append]at h
 exact⟨(by rw[←h.1,Nat.add_assoc,Nat.add_assoc,Nat.add_assoc]),λk hk=>(h.2 k (Nat.lt_of_lt_of_le hk (Nat.le_add_right ..))).trans (List.getElem?_append_left hk)⟩
theorem la(h:x.there=true):x.tl=x.ig∧x.ls=0:=by unfold Co.tl Co.ls;rw[h];exact⟨rfl,rfl⟩
theorem pV(h:x.hand=[]):x.ig=[]:=by unfold Co.ig;rw[h,List.drop_nil]
theorem kA:x.ig.length=x.hand.length-x.prog:=List.length_drop
variable(I:Inv s)(hi:i<s.n)(ht:(s.p i).there=true)
include I hi
theorem Inv.Mi:Lk (s.p (bN s.n i)).co (s.c (bN s.n i)) (s.p i).co (s.begun (bN s.n i)) (s.row i):=by
 have h:=I.lk _ (dw hi)
 rw[fe hi]at h
 exact h
theorem Inv.jh(ht:(s.p i).there=true)(b:(s.p i).hand=[])(d:s.c (bN s.n i)=[])(hw:(s.p (bN s.n i)).there=true):Inv (s.go i {s.p i with st:=.ax,ch:=.pipe (bN s.n i) false} [] i (s.c i)):=by
 have a:=I.al i hi
 refine I.go hi (.inl rfl) (I.E3 i hi) ⟨a.ro,a.wo,λh=>⟨(a.on h).1,.inr rfl⟩,λh=>nomatch ht.symm.trans h⟩ (I.hd i hi) (λ_=>.inl ⟨rfl,b,?_,hw⟩) (λh=>nomatch ht.symm.trans h) (.inl rfl) (λh=>nomatch h) ?_ ?_
 ·rw[cW];exact d
 ·rw[cW];exact I.lk i hi
 ·rw[cW];exact I.Mi hi
theorem Inv.read(ht:(s.p i).there=true)(b:(s.p i).st=.ready)(g:(s.p i).hand=[]):Inv (s.go i {s.p i with hand:=s.got i,aP:=(s.p i).aP+(s.got i).length} [.pipe (bN s.n i) true] (bN s.n i) ((s.c (bN s.n i)).drop (s.size i))):=by
 have a:=I.al i hi
 have d:(s.p i).prog=0:=Nat.eq_zero_of_le_zero (Nat.le_trans (I.hd i hi).le (Nat.le_of_eq (congrArg List.length g)))
 have r:=l5 I.n2 hi
 have k:=I.Mi hi
 rw[←List.take_append_drop (s.size i) (s.c (bN s.n i))]at k
 have t0:=la (x:=(s.p i).co) ht
 have e:=la (x:=Rp.co {s.p i with hand:=s.got i,aP:=(s.p i).aP+(s.got i).length}) ht
 have o:(Rp.co {s.p i with hand:=s.got i,aP:=(s.p i).aP+(s.got i).length}).ig=s.got i:=by
  show(s.got i).drop (s.p i).prog=_
  rw[d,List.drop_zero]
 have gl:(s.got i).length≤1000:=Nat.le_trans (List.length_take_le ..) (Nat.le_trans (I.sz i hi).2.1 (by decide))
 refine I.go hi (.inr rfl) (Nat.le_trans (List.length_drop▸Nat.sub_le ..) (I.E3 _ (dw hi))) ⟨a.ro,a.wo,λh=>⟨(a.on h).1,.inl b⟩,λh=>nomatch ht.symm.trans h⟩ ⟨Nat.le_trans (Nat.le_of_eq d) (Nat.zero_le _),gl,λ_ h=>Nat.lt_of_le_of_lt (Nat.le_of_eq d) (List.length_pos_iff.mpr h)⟩ (λh=>nomatch b.symm.trans h) (λh=>nomatch ht.symm.trans h) (.inr ⟨.inr (fe hi),.inl (.head _)⟩) (λh=>nomatch b.symm.trans h) ?_ ?_
 ·rw[aQ r.symm]
  exact(I.lk i hi).got (t0.1.trans (pV g)) t0.2 (e.1.trans o) e.2 rfl (I.MJ i hi) λm f=>by
   have z:=(k ht).2 m (by rw[List.length_append,List.length_append];exact Nat.lt_of_lt_of_le f (Nat.le_trans (Nat.le_add_right ..) (Nat.le_add_right ..)))
   rw[List.append_assoc,show List.take (s.size i) (s.c (bN s.n i))=s.got i from rfl,List.getElem?_append_left f]at z
   exact z
 ·rw[aE]
  exact k.read (λh=>h) rfl
theorem Inv.push(ht:(s.p i).there=true)(m:(s.p i).st=.ready)(g:(s.p i).co.ig=us++vs)(E3:(s.c i).length+us.length≤s.R)(al:Al q)(hd:Hd q.co)(e:q.there=true)(d:q.aP=(s.p i).aP)(o:q.co.ig=vs)(f:q.st≠ .cz)
  (a:q.st=.ax→q.ch=.pipe i true∧q.hand≠[]∧(s.c i).length+us.length=s.R∧(s.p (nx s.n i)).there=true):Inv (s.go i q [.pipe i false] i (s.c i++us)):=by
 have t0:=la (x:=(s.p i).co) ht
 have b:=la (x:=q.co) e
 refine I.go hi (.inl rfl) (List.length_append▸E3) al hd (λh=>.inr ⟨(a h).1,(a h).2.1,?_,(a h).2.2.2⟩) (λh=>nomatch e.symm.trans h) (.inr ⟨.inl (.head _),.inr rfl⟩) (λh=>absurd h f) ?_ ?_
 ·rw[aE,List.length_append];exact(a h).2.2.1
 ·rw[aE];exact(I.lk i hi).push (t0.1.trans g) (b.1.trans o) (b.2.trans t0.2.symm) d
 ·rw[aQ (l5 I.n2 hi)];exact(I.Mi hi).rd (λ_=>ht) d
theorem Inv.ended(ht:(s.p i).there=true)(a:q.hand=(s.p i).hand)(h2:q.aP=(s.p i).aP)(b:(s.p (nx s.n i)).there=true→q.prog=(s.p i).prog):Inv (s.ended i q):=by
 refine I.go hi (.inl rfl) (I.E3 i hi) ⟨rfl,rfl,(λh=>nomatch h),λ_=>.inl rfl⟩ ⟨Nat.zero_le _,Nat.le_trans (Nat.le_of_eq (congrArg List.length a)) (I.hd i hi).len,(λh=>nomatch h)⟩ (λh=>nomatch h) (λ_ _=>⟨.tail _ (.tail _ (.head _)),.tail _ (.head _)⟩) (.inl rfl) (λ_=>.tail _ (.tail _ (.tail _ (.tail _ (.head _))))) ?_ ?_
 ·rw[cW]
  have t0:=la (x:=(s.p i).co) ht
  cases e:(s.p (nx s.n i)).there with
  |false=>exact .off e
  |true=>exact(I.lk i hi).ended rfl (by rw[t0.1,t0.2,kA];show q.hand.length-q.prog=_;rw[a,b e];rfl) h2
 ·exact .off rfl
theorem Inv.turn(ht:(s.p i).there=true)(b:(s.p i).st=.ready)(K:gG s i s'):Inv s':=by
 have a:=I.al i hi
 have h:=I.hd i hi
 have g:(s.c i).length+s.room i=s.R:=Nat.add_sub_cancel' (I.E3 i hi)
 cases K with
 |jh d h2 f=>exact I.jh hi ht d h2 f
 |read d h2=>exact I.read hi ht b d
 |full d h2 f=>exact I.push hi ht b (us:=(s.p i).co.ig) (vs:=[]) (List.append_nil _).symm (g▸Nat.add_le_add_left f _) ⟨a.ro,a.wo,λh=>⟨(a.on h).1,.inl b⟩,λh=>nomatch ht.symm.trans h⟩ ⟨Nat.le_refl 0,Nat.zero_le _,λ_ h=>absurd rfl h⟩ ht rfl rfl (b▸nofun) λe=>nomatch b.symm.trans e
 |part d h2 f=>
  have le:(s.p i).prog+s.room i<(s.p i).hand.length:=Nat.add_lt_of_lt_sub' (kA (x:=(s.p i).co)▸f)
  have lt:((s.p i).co.ig.take (s.room i)).length=s.room i:=List.length_take_of_le (Nat.le_of_lt f)
  exact I.push hi ht b (List.take_append_drop (s.room i) _).symm (lt.symm▸Nat.le_of_eq g) ⟨a.ro,a.wo,λh=>⟨(a.on h).1,.inr rfl⟩,λh=>nomatch ht.symm.trans h⟩ ⟨Nat.le_of_lt le,h.len,λ_ _=>le⟩ ht rfl List.drop_drop.symm nofun λ_=>⟨rfl,d,lt.symm▸g,h2⟩
 |eof d h2 f=>exact I.ended hi ht rfl rfl λ_=>rfl
 |refused d h2=>exact I.ended hi ht rfl rfl λe=>nomatch h2.symm.trans e
end
noncomputable def il(n:Nat):Nat:=n+n
theorem yx{n i:Nat}(h:i<n):bN n i<il n:=Nat.lt_of_lt_of_le (dw h) (Nat.le_add_right n n)
noncomputable def o7(s:RS)(i:Nat):Ro:=⟨pk s.n i,(pk s.n i+1:Nat),ib s.n i,out i,(s.p i).there,(s.p i).aP,(s.p i).gM,(s.p i).hand,s.row i,s.size i,s.begun i⟩
noncomputable def Mj(n a:Nat):Loc:=[(aS,c_),(aC,br 0),(a_,.ref .L a),(b9,.lst ((List.range n).map gm))]
structure St(H:Hp)(l:Lay)(s:RS)(bx rl:Nat):Prop where
 r:Rep H (wd l s)
 h2:2≤s.n
 hb:∃a b:Int,l.X bx=some [.int a,.int b]
 hl:l.X rl=some (((List.range s.n).map (bN s.n)).map sV)
 S:∀i,i<s.n→l.S (bN s.n i)=.bu (o7 s i).fs
 w:l.S (il s.n)=.bu (Mj s.n rl)
 ne:bx≠rl
section
variable{H H':Hp}{l l':Lay}{s s':RS}{bx rl i j k pc:Nat}{q:Rp}{cs:List Ch}{c d:List UInt8}
theorem St.n5(a:St H l s bx rl):s.n≤1000:=Nat.le_trans a.r.n5 (by decide)
theorem St.rws(a:St H l s bx rl):Ke H (il s.n) rl s.n (bN s.n) (o7 s) (Mj s.n rl):=⟨⟨(congrFun a.r.S (il s.n)).trans a.w,rfl,rfl,(a.r.X _ _ a.hl).1⟩,λi hi=>(congrFun a.r.S _).trans (a.S i hi)⟩
theorem uM{n:Nat}(hi:i<n)(a:j<n)(h:bN n i=bN n j):i=j:=(fe hi).symm.trans ((congrArg (nx n) h).trans (fe a))
theorem St.keep(a:St H l s bx rl)(r:Rep H' (wd l' s'))(b:s'.n=s.n)(e:l'.X=l.X)(f:∀i,i<s.n→l'.S (bN s.n i)=.bu (o7 s' i).fs)(hw:l'.S (il s.n)=l.S (il s.n)):St H' l' s' bx rl:=
 ⟨r,b.symm▸a.h2,e▸a.hb,by rw[e,b];exact a.hl,λi hi=>by rw[b]at hi⊢;exact f i hi,by rw[b,hw];exact a.w,a.ne⟩
theorem Eh(h:j≠i):o7 (s.go i q cs pc d) j=o7 s j:=by
 have c:((s.go i q cs pc d).p j).co=(s.p j).co:=(congrArg Rp.co (ed h)).trans nr
 show(⟨pk s.n j,(pk s.n j+1:Nat),ib s.n j,out j,((s.go i q cs pc d).p j).co.there,((s.go i q cs pc d).p j).co.aP,((s.go i q cs pc d).p j).co.gM,((s.go i q cs pc d).p j).co.hand,s.row j,s.size j,s.begun j⟩:Ro)=_
 rw[c];rfl
theorem uN:o7 (s.go i q cs pc d) i=⟨pk s.n i,(pk s.n i+1:Nat),ib s.n i,out i,q.there,q.aP,q.gM,q.hand,s.row i,s.size i,s.begun i⟩:=by
 unfold o7
 rw[cg];rfl
theorem St.Lh(a:St H l s bx rl)(r:Rep H' (wd l (s.go i q cs pc d)))(h:q.there=(s.p i).there∧q.aP=(s.p i).aP∧q.gM=(s.p i).gM∧q.hand=(s.p i).hand):St H' l (s.go i q cs pc d) bx rl:=
 a.keep r rfl rfl (λj b=>(a.S j b).trans (congrArg (λr:Ro=>MO.bu r.fs) (by
  by_cases e:j=i
  ·rw[e,uN,h.1,h.2.1,h.2.2.1,h.2.2.2];rfl
  ·exact(Eh e).symm))) rfl
theorem Rep.row{v:MO}(r:Rep H (wd l s)):Rep (H.set .S k v) (wd {l with S:=upd l.S k v} s):=r.Kh
theorem St.Nv{v:MO}(a:St H l s bx rl)(hi:i<s.n)(g:v=.bu (o7 (s.go i q cs pc d) i).fs)(r:Rep H' (wd l' (s.go i q cs pc d)))(h:l'.X=l.X)(f:l'.S=upd l.S (bN s.n i) v):St H' l' (s.go i q cs pc d) bx rl:=
 a.keep r rfl h (λj b=>by
  rw[f]
  refine bp (· =MO.bu (o7 (s.go i q cs pc d) j).fs) (λe=>?_) λe=>?_
  ·rw[uM b hi e,g]
  ·rw[Eh λz=>e (congrArg (bN s.n) z)];exact a.S j b) (by rw[f];exact aQ (Nat.ne_of_gt (yx hi)))
theorem St.ends(a:St H l s bx rl)(hi:i<s.n)(b:(s.p i).st=.ready)(ro:(s.p i).ro=true)(wo:(s.p i).wo=true)(hd:Hd (s.p i).co):∃H' l',Fn 8 857 [sV (il s.n),.int i] H (.bool true) H'∧St H' l' (s.ended i (s.p i)) bx rl:=by
 have X:=a.rws
 have up:=kg (l:=l) a.h2 hi b
 have g:(((s.p i).hand.length:Int)-((d3 l s (pk s.n i)).pr).prog)=(((s.p i).hand.length-(s.p i).prog:Nat):Int):=by
  rw[show((d3 l s (pk s.n i)).pr).prog=((s.p i).prog:Int)from congrArg (λp:Pw=>p.pr.prog) up]
  exact(Int.ofNat_sub hd.le).symm
 have f:({o7 s i with there:=false,gM:=(((s.p i).hand.length-(s.p i).prog:Nat):Int)}:Ro)=o7 (s.ended i (s.p i)) i:=by rw[RS.ended,uN];rfl
 have e:=a.r.row (k:=bN s.n i) (v:=.bu (o7 (s.ended i (s.p i)) i).fs)
 have x:=Ku (q:=Eg (s.p i)) e a.h2 hi b ro wo ⟨rfl,rfl,rfl,rfl,rfl,rfl⟩
 refine x.elim λH2 x=>⟨H2,_,Kc (p:=(d3 l s (pk s.n i)).pr) X.W (du hi) (by rw[bZ];exact a.n5) (Nat.ne_of_gt (yx hi)) (X.r i hi) (Nat.le_trans hd.len (by decide)) (a.r.P _ (iM hi)) a.r.pc ?_,a.Nv hi rfl x.2 rfl rfl⟩
 show Fn 7 288 _ (sset H (bN s.n i) {o7 s i with there:=false,gM:=((s.p i).hand.length:Int)-((d3 l s (pk s.n i)).pr).prog}) _ _
 rw[g,f]
 exact x.1
end
theorem yy{n i:Nat}(h:i<n):(i+1)%n=nx n i:=by
 unfold nx
 by_cases e:i+1=n
 ·rw[if_pos e,e,Nat.mod_self]
 ·rw[if_neg e];exact Nat.mod_eq_of_lt (Nat.lt_of_le_of_ne h e)
theorem pW{n i:Nat}(h:i<n):((i:Int)-1)%(n:Int)=(bN n i:Nat):=by
 cases i with
 |zero=>
  have e:((0:Nat):Int)-1=((n-1:Nat):Int)+(n:Int)*(-1):=by rw[Int.ofNat_sub h,Int.mul_neg,Int.mul_one];show(0:Int)-1=(n:Int)-1+ -n;rw[Int.sub_eq_add_neg,Int.sub_eq_add_neg,Int.add_right_comm,Int.add_right_neg]
  rw[e,Int.add_mul_emod_self_left]
  exact Int.emod_eq_of_lt (Int.natCast_nonneg _) (Int.ofNat_lt.mpr (Nat.sub_lt h (by decide)))
 |succ i=>
  rw[show((i+1:Nat):Int)-1=(i:Nat)from Int.add_sub_cancel (i:Int) 1]
  exact Int.emod_eq_of_lt (Int.natCast_nonneg _) (Int.ofNat_lt.mpr (Nat.lt_of_succ_lt h))
section
variable{H H':Hp}{l l':Lay}{s s':RS}{bx rl i j k pc:Nat}{q:Rp}{cs:List Ch}{c d:List UInt8}
theorem Ei(h:∀c,c∈cs→c∈GW s.n i)(e:Eg q=Eg (s.p i)):(s.go i q cs i (s.c i)).ended i ((s.go i q cs i (s.c i)).p i)=s.ended i (s.p i):=by
 unfold RS.ended
 rw[cg,show(s.go i q cs i (s.c i)).c i=s.c i from aE,sN,e,show(s.go i q cs i (s.c i)).n=s.n from rfl]
 exact go_congr λc=>⟨λz=>(List.mem_append.mp z).elim id (h c),λz=>List.mem_append_left _ z⟩
variable(σ:St H l s bx rl)(I:Inv s)(hi:i<s.n)(ht:(s.p i).there=true)(gq:(s.p i).st=.ready)
include σ I hi ht gq
theorem St.jh(b:(s.p i).hand=[])(e:s.c (bN s.n i)=[])(hw:(s.p (bN s.n i)).there=true):∃H' l',Fn 10 876 [sV (il s.n),.int i] H (.bool true) H'∧St H' l' (s.go i {s.p i with st:=.ax,ch:=.pipe (bN s.n i) false} [] i (s.c i)) bx rl:=by
 have a:=I.al i hi
 have X:=σ.rws
 have hb:((i:Int)-1)%((List.range s.n).map (bN s.n)).length=(bN s.n i:Nat):=by rw[bZ];exact pW hi
 have ln:((List.range s.n).map (bN s.n)).length≤1000:=bZ (f:=bN s.n)▸σ.n5
 have t:=GS (lo:=0) (hd:=[]) σ.r σ.h2 hi gq (a.ro.trans ht) (a.on ht).1 (I.sz i hi).1 e ((I.al _ (dw hi)).wo.trans hw)
 exact t.elim λH1 t=>⟨H1,l,(uI X.W (du hi) ln (X.r i hi) b (DK X.W (du hi) (bZ (f:=bN s.n)▸Nat.lt_of_le_of_lt (Nat.zero_le _) hi) hb (du (dw hi)) ln (X.r i hi) σ.r.pc t.1 ((congrFun t.2.S _).trans (σ.S i hi)))).up 1,σ.Lh t.2 ⟨rfl,rfl,rfl,rfl⟩⟩
theorem St.eof(v:(s.p i).hand=[])(o:s.c (bN s.n i)=[])(hw:(s.p (bN s.n i)).there=false):∃H' l',Fn 10 876 [sV (il s.n),.int i] H (.bool true) H'∧St H' l' (s.ended i (s.p i)) bx rl:=by
 have a:=I.al i hi
 have X:=σ.rws
 have b:=dw hi
 have hb:((i:Int)-1)%((List.range s.n).map (bN s.n)).length=(bN s.n i:Nat):=by rw[bZ];exact pW hi
 have ln:((List.range s.n).map (bN s.n)).length≤1000:=bZ (f:=bN s.n)▸σ.n5
 have t:=zN (m:=s.size i) (q:=s.p i) σ.r σ.h2 hi gq (a.ro.trans ht) (λz=>nomatch (((I.al _ b).wo.trans hw).symm.trans z.2)) ⟨rfl,rfl,rfl⟩
 rw[o,List.take_nil,List.drop_nil,GX o.symm]at t
 have k:=(I.Mi hi ht).1
 have tl:(s.p (bN s.n i)).co.tl=[]:=by unfold Co.tl;rw[show(s.p (bN s.n i)).co.there=false from hw];rfl
 have ls:(s.p (bN s.n i)).co.ls=(s.p (bN s.n i)).gM:=by unfold Co.ls;rw[show(s.p (bN s.n i)).co.there=false from hw];rfl
 rw[o,tl,ls]at k
 have k:((s.p i).aP:Int)=(s.begun (bN s.n i):Int)+(s.p (bN s.n i)).aP-(s.p (bN s.n i)).gM:=(Int.add_sub_cancel ((s.p i).aP:Int) (s.p (bN s.n i)).gM).symm.trans (congrArg (· -((s.p (bN s.n i)).gM:Int)) (congrArg Int.ofNat k))
 exact t.elim λH1 t=>by
  have g:=σ.Lh t.2 ⟨rfl,rfl,rfl,rfl⟩
  have e:=g.ends hi (by rw[cg];exact gq) (by rw[cg];exact a.ro.trans ht) (by rw[cg];exact a.wo.trans ht) (by rw[cg];exact I.hd i hi)
  rw[Ei (λc h=>by rw[List.mem_singleton.mp h];exact .tail _ (.head _)) rfl]at e
  exact e.elim λH2 e=>e.elim λu e=>⟨H2,u,uI X.W (du hi) ln (X.r i hi) v (DL X.W (du hi) (bZ (f:=bN s.n)▸Nat.lt_of_le_of_lt (Nat.zero_le _) hi) hb (du b) ln (X.r i hi) σ.r.pc t.1 ((congrFun t.2.S _).trans (σ.S i hi)) ((congrFun t.2.S _).trans (σ.S _ b)) hw k e.1),e.2⟩
theorem St.read(v:(s.p i).hand=[])(u:s.c (bN s.n i)≠[]):∃H' l',Fn 10 876 [sV (il s.n),.int i] H (.bool true) H'∧St H' l' (s.go i {s.p i with hand:=s.got i,aP:=(s.p i).aP+(s.got i).length} [.pipe (bN s.n i) true] (bN s.n i) ((s.c (bN s.n i)).drop (s.size i))) bx rl:=by
 have a:=I.al i hi
 have X:=σ.rws
 have h:=dw hi
 have hb:((i:Int)-1)%((List.range s.n).map (bN s.n)).length=(bN s.n i:Nat):=by rw[bZ];exact pW hi
 have ln:((List.range s.n).map (bN s.n)).length≤1000:=bZ (f:=bN s.n)▸σ.n5
 have z:=I.sz i hi
 have t:=zN (m:=s.size i) (q:={s.p i with hand:=s.got i,aP:=(s.p i).aP+(s.got i).length}) σ.r σ.h2 hi gq (a.ro.trans ht) (λz=>u z.1) ⟨by rw[eW (q:={s.p i with hand:=s.got i,aP:=(s.p i).aP+(s.got i).length}) (gq▸nofun) (gq▸nofun),eW (gq▸nofun) (gq▸nofun)],rfl,rfl⟩
 have b:∀k,k<(s.got i).length→(s.row i)[((s.p i).aP+k)%(s.row i).length]? =(s.got i)[k]? :=λk hk=>by
  have g:=(I.Mi hi ht).2 k (by
   rw[List.length_append]
   exact Nat.lt_of_lt_of_le hk (Nat.le_trans (List.length_take_le' ..) (Nat.le_add_right ..)))
  rw[←List.take_append_drop (s.size i) (s.c (bN s.n i)),List.append_assoc,show List.take (s.size i) (s.c (bN s.n i))=s.got i from rfl,List.getElem?_append_left hk]at g
  exact g
 have o:s.got i≠[]:=λe=>(List.take_eq_nil_iff.mp e).elim (Nat.ne_of_gt z.1) u
 have r0:s.row i≠[]:=λe=>by
  have d:=b 0 (List.length_pos_iff.mpr o)
  rw[e,List.getElem?_nil]at d
  exact o (List.length_eq_zero_iff.mp (Nat.eq_zero_of_le_zero (List.getElem?_eq_none_iff.mp d.symm)))
 exact t.elim λH1 t=>by
  have e:({o7 s i with hand:=s.got i,aP:=((s.p i).aP+(s.got i).length:Nat)}:Ro)=o7 (s.go i {s.p i with hand:=s.got i,aP:=(s.p i).aP+(s.got i).length} [.pipe (bN s.n i) true] (bN s.n i) ((s.c (bN s.n i)).drop (s.size i))) i:=by rw[uN];rfl
  have f:=uI X.W (du hi) ln (X.r i hi) v (DM X.W (du hi) (bZ (f:=bN s.n)▸Nat.lt_of_le_of_lt (Nat.zero_le _) hi) hb (du h) ln (X.r i hi) σ.r.pc (bs:=s.got i) (pn:=(s.p i).aP) t.1 ((congrFun t.2.S _).trans (σ.S i hi)) o (List.length_take_le ..) (Nat.le_trans z.2.1 (by decide)) r0 z.2.2 rfl b)
  rw[e]at f
  exact⟨_,_,f.up 1,σ.Nv hi rfl t.2.row rfl rfl⟩
end
section
variable{H H':Hp}{l l':Lay}{s s':RS}{bx rl i j k pc:Nat}{q:Rp}{cs:List Ch}{c d:List UInt8}
variable(σ:St H l s bx rl)(I:Inv s)(hi:i<s.n)(ht:(s.p i).there=true)(gq:(s.p i).st=.ready)
include σ I hi ht gq
theorem St.full(h:(s.p i).hand≠[])(g:(s.p (nx s.n i)).there=true)(hf:(s.p i).co.ig.length≤s.room i):∃H' l',Fn 10 876 [sV (il s.n),.int i] H (.bool true) H'∧St H' l' (s.go i {s.p i with prog:=0,hand:=[]} [.pipe i false] i (s.c i++(s.p i).co.ig)) bx rl:=by
 have a:=I.al i hi
 have X:=σ.rws
 have m:0<((List.range s.n).map (bN s.n)).length:=bZ (f:=bN s.n)▸Nat.lt_of_le_of_lt (Nat.zero_le _) hi
 have ln:((List.range s.n).map (bN s.n)).length≤1000:=bZ (f:=bN s.n)▸σ.n5
 have b:((List.range s.n).map (bN s.n))[(i+1)%((List.range s.n).map (bN s.n)).length]? =some (bN s.n (nx s.n i)):=by rw[bZ,yy hi];exact du (g5 hi)
 have z:=I.hd i hi
 have t:=D_ (q:={s.p i with prog:=0,hand:=[]}) σ.r σ.h2 hi gq (a.wo.trans ht) (bs:=(s.p i).hand) z.len ((I.al _ (g5 hi)).ro.trans g) z.le hf ⟨gq,rfl,rfl,rfl,rfl,rfl⟩
 exact t.elim λH1 t=>by
  have e:({o7 s i with hand:=[]}:Ro)=o7 (s.go i {s.p i with prog:=0,hand:=[]} [.pipe i false] i (s.c i++(s.p i).co.ig)) i:=by rw[uN];rfl
  have f:=uH X.W (du hi) ln (X.r i hi) h (A_ X.W (du hi) m b ln (X.r i hi) σ.r.pc t.1 ((congrFun t.2.S _).trans (σ.S i hi)) (Nat.le_trans z.len (by decide)))
  rw[e]at f
  exact⟨_,_,f.up 1,σ.Nv hi rfl t.2.row rfl rfl⟩
theorem St.part(g:(s.p i).hand≠[])(e:(s.p (nx s.n i)).there=true)(hf:s.room i<(s.p i).co.ig.length):∃H' l',Fn 10 876 [sV (il s.n),.int i] H (.bool true) H'∧St H' l' (s.go i {s.p i with prog:=(s.p i).prog+s.room i,st:=.ax,ch:=.pipe i true} [.pipe i false] i (s.c i++(s.p i).co.ig.take (s.room i))) bx rl:=by
 have a:=I.al i hi
 have X:=σ.rws
 have h:0<((List.range s.n).map (bN s.n)).length:=bZ (f:=bN s.n)▸Nat.lt_of_le_of_lt (Nat.zero_le _) hi
 have ln:((List.range s.n).map (bN s.n)).length≤1000:=bZ (f:=bN s.n)▸σ.n5
 have b:((List.range s.n).map (bN s.n))[(i+1)%((List.range s.n).map (bN s.n)).length]? =some (bN s.n (nx s.n i)):=by rw[bZ,yy hi];exact du (g5 hi)
 have t:=D' σ.r σ.h2 hi gq (a.wo.trans ht) (bs:=(s.p i).hand) (I.hd i hi).len (a.on ht).1 ((I.al _ (g5 hi)).ro.trans e) hf
 exact t.elim λH1 t=>⟨H1,l,(uH X.W (du hi) ln (X.r i hi) g (A9 X.W (du hi) h b ln (X.r i hi) σ.r.pc t.1)).up 1,σ.Lh t.2 ⟨rfl,rfl,rfl,rfl⟩⟩
theorem St.refused(u:(s.p i).hand≠[])(m:(s.p (nx s.n i)).there=false):∃H' l',Fn 10 876 [sV (il s.n),.int i] H (.bool true) H'∧St H' l' (s.ended i {s.p i with prog:=0}) bx rl:=by
 have a:=I.al i hi
 have X:=σ.rws
 have v:0<((List.range s.n).map (bN s.n)).length:=bZ (f:=bN s.n)▸Nat.lt_of_le_of_lt (Nat.zero_le _) hi
 have ln:((List.range s.n).map (bN s.n)).length≤1000:=bZ (f:=bN s.n)▸σ.n5
 have g:((List.range s.n).map (bN s.n))[(i+1)%((List.range s.n).map (bN s.n)).length]? =some (bN s.n (nx s.n i)):=by rw[bZ,yy hi];exact du (g5 hi)
 have t:=Ea σ.r σ.h2 hi gq (a.wo.trans ht) (bs:=(s.p i).hand) (I.hd i hi).len ((I.al _ (g5 hi)).ro.trans m)
 exact t.elim λH1 t=>by
  have b:=σ.Lh t.2 ⟨rfl,rfl,rfl,rfl⟩
  have e:=b.ends hi (by rw[cg];exact gq) (by rw[cg];exact a.ro.trans ht) (by rw[cg];exact a.wo.trans ht) (by rw[cg];exact⟨Nat.zero_le _,(I.hd i hi).len,λ_ h=>List.length_pos_iff.mpr h⟩)
  rw[show(s.go i {s.p i with prog:=0} [.pipe i false] i (s.c i)).ended i ((s.go i {s.p i with prog:=0} [.pipe i false] i (s.c i)).p i)=s.ended i {s.p i with prog:=0}from by
   unfold RS.ended
   rw[cg,show(s.go i {s.p i with prog:=0} [.pipe i false] i (s.c i)).c i=s.c i from aE,sN]
   exact go_congr λc=>⟨λz=>(List.mem_append.mp z).elim id λh=>(List.mem_singleton.mp h).symm▸ .tail _ (.tail _ (.head _)),λz=>List.mem_append_left _ z⟩]at e
  exact e.elim λH2 e=>e.elim λo e=>⟨H2,o,uH X.W (du hi) ln (X.r i hi) u (A' X.W (du hi) v g ln (X.r i hi) σ.r.pc t.1 ((congrFun t.2.S _).trans (σ.S _ (g5 hi))) m e.1),e.2⟩
theorem St.turn:∃H' l' s',gG s i s'∧Fn 10 876 [sV (il s.n),.int i] H (.bool true) H'∧St H' l' s' bx rl∧Inv s':=by
 have go:∀{s'},gG s i s'→(∃H' l',Fn 10 876 [sV (il s.n),.int i] H (.bool true) H'∧St H' l' s' bx rl)→∃H' l' s',gG s i s'∧Fn 10 876 [sV (il s.n),.int i] H (.bool true) H'∧St H' l' s' bx rl∧Inv s':=λK h=>h.elim λH' h=>h.elim λl' h=>⟨H',l',_,K,h.1,h.2,I.turn hi ht gq K⟩
 by_cases a:(s.p i).hand=[]
 ·by_cases e:s.c (bN s.n i)=[]
  ·cases hw:(s.p (bN s.n i)).there with
   |true=>exact go (.jh a e hw) (σ.jh I hi ht gq a e hw)
   |false=>exact go (.eof a e hw) (σ.eof I hi ht gq a e hw)
  ·exact go (.read a e) (σ.read I hi ht gq a e)
 ·cases b:(s.p (nx s.n i)).there with
  |true=>exact(Nat.lt_or_ge (s.room i) (s.p i).co.ig.length).elim (λhf=>go (.part a b hf) (σ.part I hi ht gq a b hf)) λhf=>go (.full a b hf) (σ.full I hi ht gq a b hf)
  |false=>exact go (.refused a b) (σ.refused I hi ht gq a b)
end
noncomputable def RS.isReady(s:RS)(i:Nat):Bool:=(s.p i).there&&decide ((s.p i).st=.ready)
noncomputable def RS.cU(s:RS):List Nat:=(List.range s.n).filter s.isReady
noncomputable def sumTo(n:Nat)(f:Nat→Nat):Nat:=((List.range n).map f).sum
noncomputable def RS.held(s:RS):Nat:=sumTo s.n (λi=>(s.c i).length)+sumTo s.n (λi=>(s.p i).co.ig.length)
noncomputable abbrev fI(l:List Nat):MV:=.lst (l.map λk:Nat=>.int k)
theorem w0{l:List Nat}{f:Nat→Nat}:(l.map λi=>(f i:Int)).sum=((l.map f).sum:Nat):=by
 induction l with
 |nil=>rfl
 |cons a l ih=>rw[List.map_cons,List.sum_cons,List.map_cons,List.sum_cons,ih,Int.natCast_add]
section
variable{H H':Hp}{l l':Lay}{s s':RS}{bx rl i j k m:Nat}
theorem pX{x:Int}(a:0<m):∃v:Nat,v<m∧x%(m:Int)=v:=
 ⟨(x%m).toNat,by rw[←Int.ofNat_lt,Int.toNat_of_nonneg (Int.emod_nonneg _ (Int.ne_of_gt (Int.ofNat_lt.mpr a)))];exact Int.emod_lt_of_pos _ (Int.ofNat_lt.mpr a),(Int.toNat_of_nonneg (Int.emod_nonneg _ (Int.ne_of_gt (Int.ofNat_lt.mpr a)))).symm⟩
theorem Ej{w:Wd}{a b:Int}(r:Rep H w)(h:w.X bx=some [.int a,.int b])(f:0<m)(d:m≤1000):∃v H',v<m∧Fn 1 810 [.ref .L bx,.int m] H (.int (v:Nat)) H'∧∃a b:Int,Rep H' {w with X:=upd w.X bx (some [.int a,.int b])}:=by
 have o:=(r.X _ _ h).1
 have n:(0:Int)<m:=Int.ofNat_lt.mpr f
 by_cases g:0<a
 ·obtain⟨v,c,e⟩:=pX (x:=a) f
  exact⟨v,_,c,e▸zG o n (Int.ofNat_lt.mpr (Nat.lt_of_le_of_lt d (by decide))) g,_,_,r.GH h⟩
 ·obtain⟨v,c,e⟩:=pX (x:=(b*48271+11)%2147483647/128) f
  exact⟨v,_,c,e▸zH o n g,_,_,r.GH h⟩
theorem St.take(c:St H l s bx rl)(f:0<m)(d:m≤1000):∃v H' l',v<m∧Fn 1 810 [.ref .L bx,.int m] H (.int (v:Nat)) H'∧St H' l' s bx rl:=
 c.hb.elim λa h=>h.elim λb h=>(Ej c.r h f d).elim λv t=>t.elim λH' t=>t.2.2.elim λa' e=>e.elim λb' r=>
  ⟨v,H',{l with X:=upd l.X bx (some [.int a',.int b'])},t.1,t.2.1,r,c.h2,⟨a',b',aE⟩,(aQ c.ne.symm).trans c.hl,c.S,c.w,c.ne⟩
theorem St.ready(a:St H l s bx rl):Fn 1 881 [sV (il s.n)] H (fI s.cU) H:=by
 have t:=DN (Pp:=λi=>(d3 l s (pk s.n i)).pr) a.rws a.n5 λi hi=>a.r.P _ (iM hi)
 rw[show(List.range s.n).filter (λi=>(o7 s i).there&&((d3 l s (pk s.n i)).pr).state.c.beq aT.c)=s.cU from List.filter_congr λi hi=>by
  rw[show((d3 l s (pk s.n i)).pr).state=(s.p i).st.nm from congrArg Sg.nm ((congrArg Pw.st (ej a.h2 (List.mem_range.mp hi))).trans hM),DZ];rfl]at t
 exact t
theorem St.held(a:St H l s bx rl)(hd:∀i,i<s.n→Hd (s.p i).co)(b:∀i,i<s.n→(s.p i).st≠ .unused):Fn 2 886 [sV (il s.n)] H (.int (s.held:Nat)) H:=by
 have t:=GF (Pp:=λi=>(d3 l s (pk s.n i)).pr) (f:=λi=>((s.c i).length:Nat)) a.rws a.n5 (λi hi=>a.r.P _ (iM hi)) (λi hi=>Nat.le_trans (hd i hi).len (by decide)) rfl λi hi=>(a.r.Q i hi).1.elim λrc z=>z.elim λring z=>⟨_,z.1,by
  show((rc+(s.c i).length:Nat):Int)-(rc:Nat)=_
  rw[Int.natCast_add,Int.add_comm,Int.add_sub_cancel]⟩
 rw[show(List.range s.n).map (λi=>((o7 s i).hand.length:Int)-((d3 l s (pk s.n i)).pr).prog)=(List.range s.n).map (λi=>((s.p i).co.ig.length:Int))from List.map_congr_left λi hi=>by
  rw[show((d3 l s (pk s.n i)).pr).prog=((s.p i).prog:Int)from congrArg (λp:Pw=>(p.prog:Int)) ((ej a.h2 (List.mem_range.mp hi)).trans (if_neg (b i (List.mem_range.mp hi)))),kA]
  exact(Int.ofNat_sub (hd i (List.mem_range.mp hi)).le).symm,w0,w0,←Int.natCast_add]at t
 exact t
end
theorem c5{n:Nat}{f:Nat→Nat}:sumTo (n+1) f=sumTo n f+f n:=by
 unfold sumTo
 rw[List.range_succ,List.map_append,List.sum_append]
 rfl
theorem d1{n i x:Nat}{f:Nat→Nat}:i<n→sumTo n (upd f i x)+f i=sumTo n f+x:=by
 have out:∀m,m≤i→sumTo m (upd f i x)=sumTo m f:=λm a=>congrArg List.sum (List.map_congr_left λj b=>aQ (Nat.ne_of_lt (Nat.lt_of_lt_of_le (List.mem_range.mp b) a)))
 induction n with
 |zero=>exactλh=>absurd h (Nat.not_lt_zero i)
 |succ n ih=>
  intro h
  rw[c5,c5]
  by_cases e:i=n
  ·subst e
   rw[aE,out i (Nat.le_refl i),Nat.add_right_comm]
  ·rw[aQ (λz=>e z.symm),Nat.add_right_comm,ih (Nat.lt_of_le_of_ne (Nat.le_of_lt_succ h) e),Nat.add_right_comm]
theorem eF{n:Nat}{f g:Nat→Nat}(h:∀j,j<n→f j≤g j):sumTo n f≤sumTo n g:=by
 induction n with
 |zero=>exact Nat.le_refl _
 |succ n ih=>rw[c5,c5];exact Nat.add_le_add (ih λj a=>h j (Nat.lt_succ_of_lt a)) (h n (Nat.lt_succ_self n))
theorem fj{n a:Nat}:sumTo n (λ_=>a)=n*a:=by
 induction n with
 |zero=>exact(Nat.zero_mul a).symm
 |succ n ih=>rw[c5,ih,Nat.succ_mul]
section
variable{s s':RS}{i j k pc:Nat}{q:Rp}{cs:List Ch}{l:List UInt8}
theorem pY(hi:i<s.n)(hp:pc<s.n)(h:l.length+q.co.ig.length=(s.c pc).length+(s.p i).co.ig.length):(s.go i q cs pc l).held=s.held:=by
 have g:(λj=>((s.go i q cs pc l).c j).length)=upd (λj=>(s.c j).length) pc l.length:=funext λj=>by
  show(upd s.c pc l j).length=_
  by_cases e:j=pc
  ·rw[e,aE,aE]
  ·rw[aQ e,aQ e]
 have d:(λj=>((s.go i q cs pc l).p j).co.ig.length)=upd (λj=>(s.p j).co.ig.length) i q.co.ig.length:=funext λj=>by
  rw[zQ]
  by_cases e:j=i
  ·rw[e,aE,aE]
  ·rw[aQ e,aQ e]
 have a:=d1 (f:=λj=>(s.c j).length) (x:=l.length) hp
 have b:=d1 (f:=λj=>(s.p j).co.ig.length) (x:=q.co.ig.length) hi
 unfold RS.held
 rw[g,d]
 refine Nat.add_right_cancel (m:=(s.c pc).length+(s.p i).co.ig.length) ?_
 rw[Nat.add_add_add_comm,show(s.go i q cs pc l).n=s.n from rfl,a,b,Nat.add_add_add_comm,h]
def RS.nu(s:RS):Prop:=∀j,j<s.n→(s.p j).there=true
def RS.mode(s:RS):Prop:=(∀j,j<s.n→(s.p j).hand=[]∧s.c j=[])∨∀j,j<s.n→(s.p j).hand≠[]∧(s.c j).length=s.R
theorem pZ(h:s.nu)(a:q.there=true):(s.go i q cs pc l).nu:=λj c=>(congrFun ki j).trans (bp (λb:Bool=>b=true) (λ_=>a) λ_=>h j c)
theorem zR(hi:i<s.n)(r:s.mode)(o:s.isReady i=true)(f:q.hand=(s.p i).hand∧q.st=.ax)(w:∀j,j<s.n→(s.p j).st=.ax→(s.p j).ch∉cs)(t:l=s.c pc):(s.go i q cs pc l).mode∧(s.go i q cs pc l).cU.length+1=s.cU.length:=by
 have h:(s.go i q cs pc l).c=s.c:=(congrArg (upd s.c pc) t).trans cW
 have b:∀j,j<s.n→j≠i→(s.go i q cs pc l).p j=s.p j:=λj a e=>(ed e).trans (if_neg λz=>w j a z.1 z.2)
 have g:∀j,j<s.n→((s.go i q cs pc l).p j).hand=(s.p j).hand:=λj a=>(Decidable.em (j=i)).elim (λe=>by rw[e,cg];exact f.1) λe=>by rw[b j a e]
 refine⟨r.imp (λm j a=>⟨(g j a).trans (m j a).1,(congrFun h j).trans (m j a).2⟩) λm j a=>⟨λz=>(m j a).1 ((g j a).symm.trans z),(congrArg List.length (congrFun h j)).trans (m j a).2⟩,?_⟩
 have u:(s.go i q cs pc l).cU=s.cU.erase i:=by
  unfold RS.cU
  rw[List.Nodup.erase_eq_filter (List.nodup_range.filter _),List.filter_filter]
  refine List.filter_congr λj a=>?_
  by_cases e:j=i
  ·rw[e,bne_self_eq_false,Bool.false_and]
   unfold RS.isReady
   rw[cg,f.2]
   exact Bool.and_false _
  ·rw[bne_iff_ne.mpr e,Bool.true_and]
   unfold RS.isReady
   rw[b j (List.mem_range.mp a) e]
 have d:i∈s.cU:=List.mem_filter.mpr ⟨List.mem_range.mpr hi,o⟩
 rw[u,List.length_erase_of_mem d]
 exact Nat.sub_add_cancel (List.length_pos_of_mem d)
theorem q_(h:s.isReady i=true):(s.p i).there=true∧(s.p i).st=.ready:=⟨aV h,of_decide_eq_true (aF h)⟩
theorem Ek(I:Inv s)(b:s.nu)(hi:i<s.n)(f:s.isReady i=true)(K:gG s i s'):s'.held=s.held∧s'.nu∧(s.mode→s'.mode∧s'.cU.length+1=s.cU.length):=by
 have hd:=I.hd i hi
 have ht:=b i hi
 have o:(s.p i).hand=[]→(s.p i).prog=0:=λh=>Nat.eq_zero_of_le_zero (Nat.le_trans hd.le (Nat.le_of_eq (congrArg List.length h)))
 cases K with
 |jh a h2 d=>exact⟨pY hi hi rfl,pZ b ht,λm=>zR hi m f ⟨rfl,rfl⟩ (λ_ _ _=>nofun) rfl⟩
 |read a h2=>
  refine⟨pY hi (dw hi) ?_,pZ b ht,λm=>?_⟩
  ·show((s.c (bN s.n i)).drop (s.size i)).length+((s.got i).drop (s.p i).prog).length=_
   rw[pV (x:=(s.p i).co) a,o a,List.drop_zero,RS.got,Nat.add_comm,←List.length_append,List.take_append_drop];rfl
  ·exact m.elim (λm=>absurd (m _ (dw hi)).2 h2) λm=>absurd a (m i hi).1
 |full a h2 d=>
  refine⟨pY hi hi ?_,pZ b ht,λm=>?_⟩
  ·rw[List.length_append];rfl
  ·refine m.elim (λm=>absurd (m i hi).1 a) λm=>?_
   rw[RS.room,(m i hi).2,Nat.sub_self,kA]at d
   exact absurd (Nat.le_of_sub_eq_zero (Nat.eq_zero_of_le_zero d)) (Nat.not_le_of_lt (hd.lt ht a))
 |part a h2 d=>
  refine⟨pY hi hi ?_,pZ b ht,λm=>?_⟩
  ·show _+((s.p i).hand.drop ((s.p i).prog+s.room i)).length=_
   rw[List.length_append,Nat.add_assoc,←List.drop_drop,show(s.p i).hand.drop (s.p i).prog=(s.p i).co.ig from rfl,←List.length_append,List.take_append_drop]
  ·refine m.elim (λm=>absurd (m i hi).1 a) λe=>zR hi m f ⟨rfl,rfl⟩ (λj g r t=>?_) ?_
   ·refine(I.sl j g r).elim (λz=>(e j g).1 z.2.1) λz=>?_
    exact nomatch z.1.symm.trans (List.mem_singleton.mp t)
   ·rw[RS.room,(e i hi).2,Nat.sub_self];exact List.append_nil _
 |eof a h2 d=>exact nomatch d.symm.trans (b _ (dw hi))
 |refused a h2=>exact nomatch h2.symm.trans (b _ (g5 hi))
theorem o8{n:Nat}{P:Nat→Prop}(h:∀j,j<n→P j→P (bN n j))(hi:i<n)(f:P i):∀j,j<n→P j:=by
 have down:∀m,m<n→P m→∀j,j≤m→P j:=λm=>by
  induction m with
  |zero=>exactλ_ p j b=>Nat.eq_zero_of_le_zero b▸p
  |succ m ih=>exactλd p j b=>(Nat.lt_or_eq_of_le b).elim (λa=>ih (Nat.lt_of_succ_lt d) (h _ d p) j (Nat.le_of_lt_succ a)) λe=>e▸p
 have c:0<n:=Nat.lt_of_le_of_lt (Nat.zero_le i) hi
 exactλj b=>down (n-1) (Nat.sub_lt c (by decide)) (h 0 c (down i hi f 0 (Nat.zero_le i))) j (Nat.le_sub_one_of_lt b)
theorem Bc{n:Nat}{P:Nat→Prop}(h:∀j,j<n→P j→P (nx n j))(hi:i<n)(c:P i):∀j,j<n→P j:=by
 refineλj b=>Classical.byContradiction λa=>?_
 have z:=o8 (P:=λj=>¬P j) (i:=j) (n:=n) (λk hk np p=>np (fe hk▸h _ (dw hk) p)) b a
 exact z i hi c
theorem IA(I:Inv s)(hi:i<s.n)(ht:(s.p i).there=true)(b:∀j,j<s.n→(s.p j).there=true→(s.p j).st=.ax):s.nu∧s.mode:=by
 rcases I.sl i hi (b i hi ht)with h|h
 ·have z:=o8 (P:=λj=>(s.p j).there=true∧(s.p j).hand=[]∧s.c (bN s.n j)=[]) (n:=s.n) (λj a p=>?_) hi ⟨ht,h.2.1,h.2.2.1⟩
  ·exact⟨λj a=>(z j a).1,.inl λj a=>⟨(z j a).2.1,l3 a▸(z _ (g5 a)).2.2⟩⟩
  ·have t:(s.p (bN s.n j)).there=true:=(I.sl j a (b j a p.1)).elim (λy=>y.2.2.2) λy=>absurd p.2.1 y.2.1
   exact⟨t,(I.sl _ (dw a) (b _ (dw a) t)).elim (λy=>⟨y.2.1,y.2.2.1⟩) λy=>absurd ((congrArg List.length p.2.2).symm.trans y.2.2.1) (Nat.ne_of_lt I.R0)⟩
 ·have z:=Bc (P:=λj=>(s.p j).there=true∧(s.p j).hand≠[]∧(s.c j).length=s.R) (n:=s.n) (λj a p=>?_) hi ⟨ht,h.2.1,h.2.2.1⟩
  ·exact⟨λj a=>(z j a).1,.inr λj a=>(z j a).2⟩
  ·have t:(s.p (nx s.n j)).there=true:=(I.sl j a (b j a p.1)).elim (λy=>absurd y.2.1 p.2.1) λy=>y.2.2.2
   refine⟨t,(I.sl _ (g5 a) (b _ (g5 a) t)).elim (λy=>?_) λy=>⟨y.2.1,y.2.2.1⟩⟩
   have e:=y.2.2.1
   rw[l3 a]at e
   exact absurd ((congrArg List.length e).symm.trans p.2.2) (Nat.ne_of_lt I.R0)
theorem asleep(I:Inv s)(h:s.cU=[]):∀j,j<s.n→(s.p j).there=true→(s.p j).st=.ax:=λj a t=>((I.al j a).on t).2.resolve_left λz=>List.filter_eq_nil_iff.mp h j (List.mem_range.mpr a) (by unfold RS.isReady;rw[t,z];rfl)
theorem El(I:Inv s)(o:s.nu)(t:s.held≠0)(r:s.held<s.n*s.R+s.n):s.cU≠[]:=λe=>by
 have h:0<s.n:=Nat.lt_of_lt_of_le (by decide) I.n2
 rcases(IA I h (o 0 h) (asleep I e)).2 with m|m
 ·refine t (Nat.eq_zero_of_le_zero (Nat.le_trans (Nat.add_le_add (eF (g:=λ_=>0) λj d=>Nat.le_of_eq (congrArg List.length (m j d).2)) (eF (g:=λ_=>0) λj d=>Nat.le_of_eq (congrArg List.length (pV (x:=(s.p j).co) (m j d).1)))) ?_))
  rw[fj,Nat.mul_zero];exact Nat.le_refl 0
 ·have a:=eF (n:=s.n) (f:=λ_=>s.R) (g:=λj=>(s.c j).length) λj d=>Nat.le_of_eq (m j d).2.symm
  have b:=eF (n:=s.n) (f:=λ_=>1) (g:=λj=>(s.p j).co.ig.length) λj d=>kA (x:=(s.p j).co)▸Nat.sub_pos_of_lt ((I.hd j d).lt (o j d) (m j d).1)
  rw[fj]at a b
  exact Nat.not_le_of_lt r (Nat.le_trans (Nat.le_of_eq (congrArg (s.n*s.R+ ·) (Nat.mul_one s.n).symm)) (Nat.add_le_add a b))
end
section
variable{H H':Hp}{l l':Lay}{s s':RS}{bx rl i j k m t W:Nat}{st:Bool}{d:Nat}{ρ:Loc}{n:Nm}{R0:List Nat}
theorem kC{x:Int}:eR H .NotEq (.int x) (.int x) false:=by
 have c:=eR.ne (H:=H) (.ii x x)
 rw[decide_eq_true rfl]at c
 exact c
theorem zS:pN H (fI R0) (.lst []) R0.isEmpty:=by
 cases R0 with
 |nil=>exact pN.ll [] [] (λ_=>true) (.inl rfl) (.inl rfl) rfl λ_ _ _ q=>nomatch q
 |cons a r=>exact .ln (.int a::r.map λk:Nat=>.int k) [] (.inl rfl) (.inl rfl) nofun
theorem yz{b:Bool}(l:look n ρ=some (fI R0))(e:R0.isEmpty=b):ik d (aH .Eq (aa n) (cI [])) ρ H b H:=aD (ae l) (e4 aj (ble rfl)) (e▸ .eq zS)
theorem zT{b:Bool}(l:look n ρ=some (fI R0))(e:R0.isEmpty= !b):ik d (aH .NotEq (aa n) (cI [])) ρ H b H:=aD (ae l) (e4 aj (ble rfl)) ((congrArg (!·) e).trans (Bool.not_not b)▸ .ne zS)
theorem zU{e:XE}(h:Ev d e ρ H (fI R0) H)(hl:R0.length≤1000):Ev d (ak cn [e]) ρ H (.int (R0.length:Nat)) H:=c6 (by rw[List.length_map]) (dr eB (ag h aj) (.qE (.inl rfl) (by rw[List.length_map];exact Nat.le_trans hl (by decide))))
theorem St.draw(b:St H l s bx rl)(e:R0≠[])(hl:R0.length≤1000)(c:look bW ρ=some (.ref .L bx))(a:look n ρ=some (fI R0)):∃i H' l',i∈R0∧Ev (d+1) (aI (aa n) (ak a6 [(aa bW),(ak cn [(aa n)])])) ρ H (.int (i:Nat)) H'∧St H' l' s bx rl:=
 (b.take (List.length_pos_iff.mpr e) hl).elim λv t=>t.elim λH' t=>t.elim λl' t=>
  ⟨R0[v]'t.1,H',l',List.getElem_mem t.1,aW (ae a) (dt dJ (ag (ae c) (ag (zU (ae a) hl) aj)) (Nat.add_comm 1 d▸t.2.1.up d)) (.l (.inl rfl) (cx (by rw[List.getElem?_map,List.getElem?_eq_getElem t.1];rfl) (Nat.lt_of_lt_of_le t.1 (Nat.le_trans hl (by decide))))),t.2.2⟩
theorem sO:s.cU.length≤s.n:=Nat.le_trans (List.length_filter_le ..) (Nat.le_of_eq List.length_range)
theorem uO(K:gG s i s'):s'.n=s.n∧s'.R=s.R:=by cases K<;>exact⟨rfl,rfl⟩
theorem G3{n t:Nat}:max (0:Int) ((n:Int)-t)=((n-t:Nat):Int):=(Nat.le_total t n).elim (λh=>by rw[←Int.ofNat_sub h];exact Int.max_eq_right (Int.natCast_nonneg _)) λh=>by rw[Nat.sub_eq_zero_of_le h];exact Int.max_eq_left (Int.sub_nonpos_of_le (Int.ofNat_le.mpr h))
noncomputable abbrev Og:List XS:=[ay (bE aT) (ak ez [(aa aB)]),
  bo (nA (dZ (aH .Eq (aa aT) (cI [])) [(fT (aa hq))]) [(dZ (aa hq) [(aH .NotEq (ak cn [(aa aT)]) (ak Fb [(av 0),(aL .Sub (aa bJ) (aa eK))]))])]) (xB [bt (cw false)]) (xB []),
  bo (dZ (aH .NotEq (aa aT) (cI [])) [(fT (ak dm [(aa aB),(aI (aa aT) (ak a6 [(aa bW),(ak cn [(aa aT)])]))]))]) (xB [bt (cw false)]) (xB []),
  bo (aH .NotEq (ak i0 [(aa aB)]) (aa e3)) (xB [bt (cw false)]) (xB [])]
noncomputable abbrev Em(bx n m R W:Nat)(st:Bool):Loc:=[(bW,.ref .L bx),(aB,sV (il n)),(nM,.int m),(b7,.int R),(e3,.int W),(bJ,.int n),(hq,.bool st)]
structure Ga(s:RS)(W t:Nat)(st:Bool):Prop where
 I:Inv s
 a:s.nu
 hw:s.held=W
 on:st=true→s.mode∧s.cU.length=s.n-t
 off:st=false→W≠0∧W<s.n*s.R+s.n
theorem Ga.turn(G:Ga s W t st)(hi:i∈s.cU)(I:Inv s')(K:gG s i s'):Ga s' W (t+1) st:=by
 have m:=List.mem_filter.mp hi
 have z:=Ek G.I G.a (List.mem_range.mp m.1) m.2 K
 have e:=uO K
 refine⟨I,z.2.1,z.1.trans G.hw,λh=>⟨(z.2.2 (G.on h).1).1,?_⟩,λh=>by rw[e.1,e.2];exact G.off h⟩
 rw[e.1,Nat.sub_succ,←(G.on h).2,←(z.2.2 (G.on h).1).2]
 exact(Nat.pred_succ _).symm
theorem Ga.used(G:Ga s W t st){i:Nat}(hi:i<s.n):(s.p i).st≠ .unused:=((G.I.al i hi).on (G.a i hi)).2.elim (λe=>e▸nofun) λe=>e▸nofun
theorem G4(p:St H l s bx rl)(G:Ga s W t st){R:Nat}:∃H' l' s',gj 10 Og (Em bx s.n m R W st++[(eK,.int t)]) H .next (Em bx s.n m R W st++[(eK,.int t),(aT,fI s.cU)]) H'∧St H' l' s' bx rl∧Ga s' W (t+1) st∧s'.n=s.n∧s'.R=s.R:=by
 have q:s.cU.length≤1000:=Nat.le_trans sO p.n5
 have y:=aG (d:=10) (e:=ak ez [(aa aB)]) (t:=bE aT) (ρ:=Em bx s.n m R W st++[(eK,.int t)]) rfl (dt m' (ag (ae (n:=aB) rfl) aj) (p.ready.up 9)) aA
 have h2:ik 10 (nA (dZ (aH .Eq (aa aT) (cI [])) [(fT (aa hq))]) [(dZ (aa hq) [(aH .NotEq (ak cn [(aa aT)]) (ak Fb [(av 0),(aL .Sub (aa bJ) (aa eK))]))])]) (Em bx s.n m R W st++[(eK,.int t),(aT,fI s.cU)]) H false H:=by
  refine gX (da (H1:=H) ?_ (da ?_ fB))
  ·cases e:s.cU.isEmpty with
   |false=>exact cy (b3 (yz rfl e))
   |true=>
    have on:st=true:=(Bool.not_eq_false st).mp λh=>El G.I G.a (λz=>(G.off h).1 (G.hw.symm.trans z)) (G.hw▸(G.off h).2) (List.isEmpty_iff.mp e)
    exact cy (b_ (yz rfl e) (ec (on▸gv (b:=true) (cL (ae rfl) rfl))))
  ·cases st with
   |false=>exact cy (b3 (cL (ae rfl) rfl))
   |true=>exact cy (b_ (cL (ae rfl) rfl) (ec (aD (zU (ae rfl) q) (c6 (congrArg MV.int G3) (dr JN (ag ar (ag (a8 (ae rfl) (ae rfl) (.sub _ _)) aj)) (.max _ _))) (by
     rw[(G.on rfl).2]
     exact kC))))
 have x:∀{H' l' s'},St H' l' s' bx rl→Ga s' W (t+1) st→s'.n=s.n→eu 10 (bo (aH .NotEq (ak i0 [(aa aB)]) (aa e3)) (xB [bt (cw false)]) (xB [])) (Em bx s.n m R W st++[(eK,.int t),(aT,fI s.cU)]) H' .next (Em bx s.n m R W st++[(eK,.int t),(aT,fI s.cU)]) H':=λ{H' l' s'} u c e=>by
  have w:=u.held c.I.hd λi hi=>c.used hi
  rw[c.hw,e]at w
  exact aU (aD (dt wB (ag (ae rfl) aj) (w.up 8)) (ae rfl) kC) aw
 by_cases e:s.cU=[]
 ·have c:Ga s W (t+1) st:=⟨G.I,G.a,G.hw,λh=>⟨(G.on h).1,by
   have z:=(G.on h).2
   rw[Nat.sub_succ,←z,e];rfl⟩,G.off⟩
  exact⟨H,l,s,af y (af (aU h2 aw) (af (aU (cy (b3 (zT rfl (List.isEmpty_iff.mpr e)))) aw) (af (x p c rfl) aw))),p,c,rfl,rfl⟩
 ·obtain⟨i,H1,C,hi,f,r⟩:=p.draw (d:=9) (n:=aT) (ρ:=Em bx s.n m R W st++[(eK,.int t),(aT,fI s.cU)]) e q rfl rfl
  have v:=List.mem_filter.mp hi
  obtain⟨H2,A,s',K,g,o,B⟩:=r.turn G.I (List.mem_range.mp v.1) (q_ v.2).1 (q_ v.2).2
  have c:=G.turn hi B K
  have en:=uO K
  exact⟨H2,A,s',af y (af (aU h2 aw) (af (aU (cy (b_ (zT rfl (Bool.eq_false_iff.mpr λz=>e (List.isEmpty_iff.mp z))) (ec (gv (b:=true) (cL (dt hJ (ag (ae rfl) (ag f aj)) g) rfl))))) aw) (af (x o c en.1) aw))),o,c,en⟩
theorem G5{R:Nat}:∀{k t:Nat}{H l s},t+k=m→St H l s bx rl→Ga s W t st→∃H' l' s',e9 10 (bE eK) Og k (.ny t m) (Em bx s.n m R W st) H .next (Em bx s.n m R W st) H'∧St H' l' s' bx rl∧Inv s'∧s'.nu∧s'.n=s.n∧s'.R=s.R∧s'.held=W:=by
 intro k
 induction k with
 |zero=>exactλ{t H l s} e g G=>⟨H,l,s,.stop (.r _ _ (Int.ofNat_le.mpr (Nat.le_of_eq e.symm))),g,G.I,G.a,rfl,rfl,G.hw⟩
 |succ k ih=>
  intro t H l s e g G
  obtain⟨H1,B,A,f,c,z,h,w⟩:=G4 (m:=m) (R:=R) g G
  obtain⟨H2,p,o,D,b,y,x,v,u,q⟩:=ih (t:=t+1) ((Nat.succ_add_eq_add_succ t k).trans e) c z
  rw[h]at D
  exact⟨H2,p,o,.step (.r _ _ (Int.ofNat_lt.mpr (e▸Nat.lt_add_of_pos_right (Nat.succ_pos k)))) aA (cV (ρ':=Em bx s.n m R W st) (r:=[(eK,.int t),(aT,fI s.cU)]) f) D,b,y,x,v.trans h,u.trans w,q⟩
end
section
variable{H H':Hp}{l l':Lay}{s s':RS}{bx rl i j k m t W:Nat}{st:Bool}{d:Nat}{ρ:Loc}{n:Nm}{R0:List Nat}
theorem En{x y:XE}{a b:Bool}(h:Ev d x ρ H (.bool a) H)(h':Ev d y ρ H (.bool b) H):Ev d (nA x [y]) ρ H (.bool (a||b)) H:=by
 cases a with
 |true=>exact H6 (Fv h)
 |false=>exact H6 (LI h (tN h'))
theorem St.Nw(a:St H l s bx rl)(I:Inv s)(p:s.nu)(b:(s.row 0).length=s.held)(o:s.held=0∨s.held=s.n*s.R+s.n→s.mode)(hle:s.held≤s.n*s.R+s.n)(g:s.cU.length=s.n)(f:m≤1000):
  ∃H' l' s',Fn 11 893 [.ref .L bx,sV (il s.n),.int m,.int s.R] H (.bool true) H'∧St H' l' s' bx rl∧Inv s'∧s'.nu∧s'.n=s.n∧s'.R=s.R∧s'.held=s.held:=by
 have X:=a.rws
 have n0:0<s.n:=Nat.lt_of_lt_of_le (by decide) I.n2
 have G:Ga s s.held 0 (decide (s.held=0)||decide (s.held=s.n*s.R+s.n)):=⟨I,p,rfl,λh=>⟨o ((Bool.or_eq_true_iff.mp h).imp of_decide_eq_true of_decide_eq_true),g⟩,λh=>⟨of_decide_eq_false (Bool.or_eq_false_iff.mp h).1,Nat.lt_of_le_of_ne hle (of_decide_eq_false (Bool.or_eq_false_iff.mp h).2)⟩⟩
 obtain⟨H',l',s',D,c,q,a',e⟩:=G5 (m:=m) (R:=s.R) (k:=m) (t:=0) (Nat.zero_add m) a G
 refine⟨H',l',s',aJ lW rfl (af (tP (ag (X.len a.n5 (X.W.rows rfl)) (ag (c6 (congrArg (λn:Nat=>MV.int n) b) (ic (aW (X.at (i:=0) a.n5 n0 (X.W.rows rfl) ar) a7 (.s (X.r 0 n0) rfl)) (Nat.le_trans (I.sz 0 n0).2.2 (by decide)))) aj)) (ble rfl) rfl)
  (af (ρ1:=Em bx s.n m s.R s.held (decide (s.held=0)||decide (s.held=s.n*s.R+s.n))) (aG rfl (En (c6 (congrArg MV.bool (decide_eq_decide.mpr ⟨λz=>Int.ofNat.inj z,λz=>congrArg Int.ofNat z⟩)) (fS (ae rfl) ar (.eq (.ii (s.held:Int) (0:Nat)))))
    (c6 (congrArg MV.bool (decide_eq_decide.mpr ⟨λz=>Int.ofNat.inj z,λz=>congrArg Int.ofNat z⟩)) (fS (ae rfl) (a8 (a8 (ae rfl) (ae rfl) (.mul (s.n:Int) (s.R:Int) (by rw[Int.natAbs_natCast];exact Nat.lt_of_le_of_lt a.r.R4 (by decide)))) (ae rfl) (.add _ _)) (.eq (.ii (s.held:Int) ((s.n*s.R+s.n:Nat):Int)))))) aA)
  (af (dQ (eI eC (ag (ae rfl) aj) (by rw[Int.natAbs_natCast];exact Nat.lt_of_le_of_lt f (by decide))) rfl D) (az (aY dV) rfl)))) rfl,c,q,a',e⟩
theorem ne_str{x y:Nm}{b:Bool}(h:x.c.beq y.c= !b):eR H .NotEq (.str x) (.str y) b:=(congrArg (!·) h).trans (Bool.not_not b)▸ .ne (.ss _ _)
theorem St.one(u:St H l s bx rl)(I:Inv s)(K:s.nu):∃i q H' l',i<s.n∧Fn 9 900 [.ref .L bx,sV (il s.n)] H (.bool true) H'∧St H' l' (s.ended i q) bx rl∧Inv (s.ended i q):=by
 have n0:0<s.n:=Nat.lt_of_lt_of_le (by decide) I.n2
 obtain⟨i,H1,T,hi,R,h⟩:=u.take n0 u.n5
 have X:=u.rws
 have D:=h.rws
 have a:=I.al i hi
 have ht:=K i hi
 have G:∀{H l s},St H l s bx rl→i<s.n→H.o .Process (pk s.n i)=.inst ((d3 l s (pk s.n i)).pr.fs (pk s.n i)):=λu hi=>u.r.P _ (iM hi)
 have S:∀{l s},2≤s.n→i<s.n→((d3 l s (pk s.n i)).pr).state=(s.p i).st.nm:=λh2 hi=>congrArg Sg.nm ((congrArg Pw.st (ej h2 hi)).trans hM)
 have st:∀{ρ H l s}{b:Bool},St H l s bx rl→i<s.n→look ah ρ=some (br (pk s.n i))→(s.p i).st.nm.c.beq aT.c= !b→ik 8 (aH .NotEq (aq (aa ah) bR) (a5 aT)) ρ H b H:=λu hi lk e=>aD (au (ae lk) (G u hi) rfl rfl) a7 (ne_str (S u.h2 hi▸e))
 have N:eu 8 (ay (bE cP) (ak a6 [(aa bW),(ak cn [(aI (aa aB) (a5 a_))])])) [(bW,.ref .L bx),(aB,sV (il s.n))] H .next [(bW,.ref .L bx),(aB,sV (il s.n)),(cP,.int i)] H1:=aG rfl (dt dJ (ag (ae rfl) (ag (X.len u.n5 (X.W.rows rfl)) aj)) (R.up 7)) aA
 have h2:eu 8 (ay (bE ah) (aI (aI (aI (aa aB) (a5 a_)) (aa cP)) (a5 ah))) [(bW,.ref .L bx),(aB,sV (il s.n)),(cP,.int i)] H1 .next [(bW,.ref .L bx),(aB,sV (il s.n)),(cP,.int i),(ah,br (pk s.n i))] H1:=aG rfl (aW (D.at h.n5 hi (D.W.rows rfl) (ae rfl)) a7 (.s (D.r i hi) rfl)) aA
 have fin:∀{H2 E z:Hp}{l4:Lay}{q:Rp}{b:Bool},eu 8 (bo (nA (aH .NotEq (aq (aa ah) bR) (a5 aT)) [(aH .Eq (ak a6 [(aa bW),(av 2)]) (av 0))]) (xB [bo (nA (aH .NotEq (ao (aI (aa aB) (a5 aS)) r1 [(aI (aa aB) (a5 aC)),(aq (aa ah) dS)]) (av 0)) [(aH .NotEq (aq (aa ah) bR) (a5 aT))]) (xB [bt (cw false)]) (xB [])]) (xB [])) [(bW,.ref .L bx),(aB,sV (il s.n)),(cP,.int i),(ah,br (pk s.n i))] H1 .next [(bW,.ref .L bx),(aB,sV (il s.n)),(cP,.int i),(ah,br (pk s.n i))] E→
   Fn 8 857 [sV (il s.n),.int i] E (.bool true) z→Fn 9 900 [.ref .L bx,sV (il s.n)] H (.bool true) z:=λM e=>aJ pA rfl (af N (af h2 (af M (az (aY (dt ka (ag (ae rfl) (ag (ae rfl) aj)) e)) rfl)))) rfl
 have g:∀{H2 B},St H2 B s bx rl→ik 8 (nA (aH .NotEq (aq (aa ah) bR) (a5 aT)) [(aH .Eq (ak a6 [(aa bW),(av 2)]) (av 0))]) [(bW,.ref .L bx),(aB,sV (il s.n)),(cP,.int i),(ah,br (pk s.n i))] H1 true H2→∃i q H' l',i<s.n∧Fn 9 900 [.ref .L bx,sV (il s.n)] H (.bool true) H'∧St H' l' (s.ended i q) bx rl∧Inv (s.ended i q):=λ{H2 B} f c=>by
  have pid:((d3 B s (pk s.n i)).pr).pid=((pk s.n i+1:Nat):Int):=(congrArg Pw.pid (ej f.h2 hi)).trans (q9 ((a.on ht).2.elim (λe=>e▸nofun) λe=>e▸nofun)).2
  obtain⟨E,O,J⟩:=Kv (x:=br 0) f.r f.h2 hi (a.on ht).2
  have A:=f.Lh J ⟨rfl,rfl,rfl,rfl⟩
  have e:=A.ends hi (by rw[cg];rfl) (by rw[cg];exact a.ro.trans ht) (by rw[cg];exact a.wo.trans ht) (by rw[cg];exact I.hd i hi)
  rw[show(s.go i (s.p i).c0 [] i (s.c i)).ended i ((s.go i (s.p i).c0 [] i (s.c i)).p i)=s.ended i (s.p i).c0 from by
   unfold RS.ended
   rw[cg,show(s.go i (s.p i).c0 [] i (s.c i)).c i=s.c i from aE,sN,List.append_nil];rfl]at e
  obtain⟨z,l4,C,y⟩:=e
  refine⟨i,_,z,l4,hi,fin (H2:=H2) (l4:=l4) (q:=s.p i) (b:=true) (cF c (af (aU (gX (da (aD (bU kP rfl (f.rws.W.calls rfl) f.r.pc rfl (ag (aW (ae rfl) a7 (.s f.rws.W.w rfl)) (ag (c6 (congrArg MV.int pid) (au (ae rfl) (G f hi) rfl rfl)) aj)) (O.up 4)) ar kC) (da (st (b:=false) A hi rfl (by rw[cg];exact DZ.trans (decide_eq_true rfl))) fB))) aw) aw)) C,y,I.ended hi ht rfl rfl λ_=>rfl⟩
 rcases(a.on ht).2 with r|r
 ·obtain⟨v,H2,B,U,Q,f⟩:=h.take (m:=2) (by decide) (by decide)
  have c:=aD (op:=.Eq) (d:=8) (ρ:=[(bW,.ref .L bx),(aB,sV (il s.n)),(cP,.int i),(ah,br (pk s.n i))]) (dt dJ (ag (ae (n:=bW) rfl) (ag (ar (i:=2)) aj)) (Q.up 7)) (ar (i:=0)) (.eq (.ii (v:Int) 0))
  have s0:=st (ρ:=[(bW,.ref .L bx),(aB,sV (il s.n)),(cP,.int i),(ah,br (pk s.n i))]) (b:=false) h hi rfl (by rw[r];rfl)
  cases F:decide ((v:Int)=0)with
  |true=>exact g f (gX (da s0 (my (F▸c))))
  |false=>
   obtain⟨z,l4,C,y⟩:=f.ends hi r (a.ro.trans ht) (a.wo.trans ht) (I.hd i hi)
   exact⟨i,_,z,l4,hi,fin (H2:=H2) (l4:=l4) (q:=s.p i) (b:=true) (aU (gX (da s0 (da (F▸c) fB))) aw) C,y,I.ended hi ht rfl rfl λ_=>rfl⟩
 ·exact g h (gX (my (st h hi rfl (by rw[r];rfl))))
end
noncomputable def kX(n d i:Nat):Nat:=if i<d then d-(i+1)else n+d-(i+1)
theorem sub_one{a b:Nat}(h:b<a):a-b=a-(b+1)+1:=(Nat.succ_pred_eq_of_pos (Nat.sub_pos_of_lt h)).symm
theorem G6{n d i:Nat}(hi:i<n)(hd:d<n)(h:i≠d):kX n d (bN n i)=kX n d i+1:=by
 cases i with
 |zero=>
  have b:0<d:=Nat.pos_of_ne_zero h.symm
  show kX n d (n-1)=_
  unfold kX
  rw[if_pos b,if_neg (Nat.not_lt_of_le (Nat.le_sub_one_of_lt hd)),Nat.sub_add_cancel hi,Nat.add_sub_cancel_left]
  exact(Nat.sub_add_cancel b).symm
 |succ i=>
  show kX n d i=_
  unfold kX
  rcases Nat.lt_or_gt_of_ne h with a|a
  ·rw[if_pos a,if_pos (Nat.lt_of_succ_lt a)];exact sub_one a
  ·rw[if_neg (Nat.not_lt_of_gt a),if_neg (Nat.not_lt_of_le (Nat.le_of_lt_succ a))];exact sub_one (Nat.lt_of_lt_of_le hi (Nat.le_add_right n d))
theorem Kw{n d i:Nat}(hd:d<n):kX n d i≤n-1:=by
 unfold kX
 by_cases h:i<d
 ·rw[if_pos h];exact Nat.le_trans (Nat.sub_le_sub_left (Nat.le_add_left 1 i) d) (Nat.sub_le_sub_right (Nat.le_of_lt hd) 1)
 ·rw[if_neg h]
  refine Nat.le_trans (Nat.sub_le_sub_left (Nat.succ_le_succ (Nat.le_of_not_lt h)) _) (Nat.le_of_eq ?_)
  rw[Nat.sub_succ,Nat.add_sub_cancel];rfl
noncomputable def Rp.T(q:Rp):Nat:=bif q.there then 6 else if q.st=.unused then 0 else 2
noncomputable def Rp.U(q:Rp):Nat:=if q.st=.ready then 1 else 0
noncomputable def val(w:Nat)(c:List UInt8)(q:Rp):Nat:=2*(c.length*(2*w)+q.co.tl.length*(2*w+1))+q.T
noncomputable def RS.U(s:RS):Nat:=if s.fst=.ready then 1 else 0
noncomputable def yA(s:RS)(d:Nat):Nat:=sumTo s.n (λj=>val (kX s.n d j) (s.c j) (s.p j))+sumTo s.n (λj=>(s.p j).U)+s.U
section
variable{s s':RS}{i j k pc d j0 j1:Nat}{q:Rp}{cs:List Ch}{l c:List UInt8}
theorem G7:(q.bD cs).T=q.T:=by
 unfold Rp.T
 rw[Rp.eV.2.2.2.2.1,iN.elim (λw=>show(if(q.bD cs).st=.unused then 0 else 2)=if q.st=.unused then 0 else 2 by rw[w.1]) λw=>show(if(q.bD cs).st=.unused then 0 else 2)=if q.st=.unused then 0 else 2 by rw[w.1,w.2];rfl]
theorem uP:(q.bD cs).U=q.U∨((q.bD cs).U≤1∧q.st=.ax∧q.ch∈cs):=by
 unfold Rp.bD
 by_cases h:q.st=.ax∧q.ch∈cs
 ·rw[if_pos h];exact .inr ⟨Nat.le_refl 1,h⟩
 ·rw[if_neg h];exact .inl rfl
theorem Eo{w:Nat}:val w (upd s.c pc l j) ((s.go i q cs pc l).p j)=val w (upd s.c pc l j) (upd s.p i q j):=by
 by_cases e:j=i
 ·rw[e,cg,aE]
 ·rw[ed e,aQ e]
  unfold val
  rw[nr,G7]
theorem gQ(hi:i<s.n):sumTo s.n (λj=>val (kX s.n d j) ((s.go i q cs i l).c j) ((s.go i q cs i l).p j))+val (kX s.n d i) (s.c i) (s.p i)=sumTo s.n (λj=>val (kX s.n d j) (s.c j) (s.p j))+val (kX s.n d i) l q:=by
 rw[←d1 (f:=λj=>val (kX s.n d j) (s.c j) (s.p j)) hi]
 refine congrArg (λf=>sumTo s.n f+_) (funext λj=>Eo.trans ?_)
 by_cases e:j=i
 ·rw[e,aE,aE,aE]
 ·rw[aQ e,aQ e,aQ e]
theorem Be(hi:i<s.n)(hp:pc<s.n)(ne:pc≠i):sumTo s.n (λj=>val (kX s.n d j) ((s.go i q cs pc l).c j) ((s.go i q cs pc l).p j))+(val (kX s.n d i) (s.c i) (s.p i)+val (kX s.n d pc) (s.c pc) (s.p pc))=sumTo s.n (λj=>val (kX s.n d j) (s.c j) (s.p j))+(val (kX s.n d i) (s.c i) q+val (kX s.n d pc) l (s.p pc)):=by
 have a:=d1 (f:=λj=>val (kX s.n d j) (s.c j) (s.p j)) (x:=val (kX s.n d i) (s.c i) q) hi
 have b:=d1 (f:=upd (λj=>val (kX s.n d j) (s.c j) (s.p j)) i (val (kX s.n d i) (s.c i) q)) (x:=val (kX s.n d pc) l (s.p pc)) hp
 rw[aQ ne]at b
 have e:(λj=>val (kX s.n d j) ((s.go i q cs pc l).c j) ((s.go i q cs pc l).p j))=upd (upd (λj=>val (kX s.n d j) (s.c j) (s.p j)) i (val (kX s.n d i) (s.c i) q)) pc (val (kX s.n d pc) l (s.p pc)):=funext λj=>Eo.trans (by
  by_cases e:j=pc
  ·rw[e,aE,aE,aQ ne]
  ·rw[aQ e,aQ e]
   by_cases g:j=i
   ·rw[g,aE,aE]
   ·rw[aQ g,aQ g])
 rw[e,Nat.add_comm (val _ (s.c i) (s.p i)),←Nat.add_assoc,b,Nat.add_right_comm,a,Nat.add_assoc]
theorem yB(hi:i<s.n)(w:∀j,j<s.n→j≠i→(s.p j).st=.ax→(s.p j).ch∉cs):sumTo s.n (λj=>((s.go i q cs pc l).p j).U)+(s.p i).U≤sumTo s.n (λj=>(s.p j).U)+q.U:=by
 rw[←d1 (f:=λj=>(s.p j).U) hi]
 refine Nat.add_le_add_right (eF λj a=>bp (λx=>((s.go i q cs pc l).p j).U≤x) (λe=>by rw[e,cg];exact Nat.le_refl _) λe=>?_) _
 rw[ed e]
 exact(uP (q:=s.p j) (cs:=cs)).elim Nat.le_of_eq λz=>absurd z.2.2 (w j a e z.2.1)
theorem yC(hi:i<s.n)(r:j0<s.n)(n0:j0≠i)(w:∀j,j<s.n→j≠i→(s.p j).st=.ax→(s.p j).ch∈cs→j=j0):sumTo s.n (λj=>((s.go i q cs pc l).p j).U)+(s.p i).U≤sumTo s.n (λj=>(s.p j).U)+q.U+1:=by
 have a:=d1 (f:=upd (λj=>(s.p j).U) j0 1) (x:=q.U) hi
 have b:=d1 (f:=λj=>(s.p j).U) (x:=1) r
 rw[aQ n0.symm]at a
 refine Nat.le_trans (Nat.add_le_add_right (eF (g:=upd (upd (λj=>(s.p j).U) j0 1) i q.U) λj o=>bp (λx=>((s.go i q cs pc l).p j).U≤x) (λe=>by rw[e,cg];exact Nat.le_refl _) λe=>?_) _) (a▸Nat.add_right_comm _ q.U 1▸Nat.add_le_add_right (Nat.le_trans (Nat.le_add_right _ _) (Nat.le_of_eq b)) _)
 have m:(s.p j).U≤1:=by unfold Rp.U;split<;>decide
 rw[ed e]
 refine(uP (q:=s.p j) (cs:=cs)).elim (λz=>?_) λz=>?_
 ·rw[z]
  exact bp (λx=>(s.p j).U≤x) (λ_=>m) λ_=>Nat.le_refl _
 ·exact bp (λx=>((s.p j).bD cs).U≤x) (λ_=>z.1) λh=>absurd (w j o e z.2.1 z.2.2) h
theorem Kx(hi:i<s.n)(u:j0<s.n)(n0:j0≠i)(t:j1<s.n)(n1:j1≠i)(w:∀j,j<s.n→j≠i→(s.p j).st=.ax→(s.p j).ch∈cs→j=j0∨j=j1):sumTo s.n (λj=>((s.go i q cs pc l).p j).U)+(s.p i).U≤sumTo s.n (λj=>(s.p j).U)+q.U+2:=by
 have a:=d1 (f:=upd (upd (λj=>(s.p j).U) j0 1) j1 1) (x:=q.U) hi
 have b:=d1 (f:=upd (λj=>(s.p j).U) j0 1) (x:=1) t
 have c:=d1 (f:=λj=>(s.p j).U) (x:=1) u
 rw[aQ n1.symm,aQ n0.symm]at a
 refine Nat.le_trans (Nat.add_le_add_right (eF (g:=upd (upd (upd (λj=>(s.p j).U) j0 1) j1 1) i q.U) λj r=>bp (λx=>((s.go i q cs pc l).p j).U≤x) (λe=>by rw[e,cg];exact Nat.le_refl _) λe=>?_) _) (a▸Nat.add_right_comm _ q.U 2▸Nat.add_le_add_right (Nat.le_trans (Nat.le_trans (Nat.le_add_right _ _) (Nat.le_of_eq b)) (Nat.add_le_add_right (Nat.le_trans (Nat.le_add_right _ _) (Nat.le_of_eq c)) 1)) _)
 have h:(s.p j).U≤1:=by unfold Rp.U;split<;>decide
 rw[ed e]
 refine(uP (q:=s.p j) (cs:=cs)).elim (λz=>?_) λz=>?_
 ·rw[z]
  exact bp (λx=>(s.p j).U≤x) (λ_=>h) λ_=>bp (λx=>(s.p j).U≤x) (λ_=>h) λ_=>Nat.le_refl _
 ·exact bp (λx=>((s.p j).bD cs).U≤x) (λ_=>z.1) λm=>bp (λx=>((s.p j).bD cs).U≤x) (λ_=>z.1) λo=>(w j r e z.2.1 z.2.2).elim (λy=>absurd y o) λy=>absurd y m
end
theorem dec{A n B m F e V v U u w g:Nat}(a:n+V=A+v)(b:m+U≤B+u+w)(f:e≤F+g)(h:v+u+w+g<V+U):n+m+e<A+B+F:=by omega
theorem Ep{a x:Nat}(h:0<x):a+1+1+0<a+2*x+1:=Nat.succ_lt_succ (Nat.lt_of_lt_of_le (Nat.lt_succ_self (a+1)) (Nat.add_le_add_left (Nat.mul_le_mul_left 2 h) a))
theorem G8{a x y P T:Nat}:2*(a*P+(x+y)*(P+1))+T=2*((a+x)*P+y*(P+1))+T+2*x:=by
 rw[Nat.add_mul,Nat.add_mul,Nat.mul_add x P 1,Nat.mul_one]
 omega
theorem G9{a b x y w T f:Nat}:(2*(a*(2*w)+0*(2*w+1))+T)+(2*((x+y)*(2*(w+1))+b*(2*(w+1)+1))+f)=(2*(a*(2*w)+x*(2*w+1))+T)+(2*(y*(2*(w+1))+b*(2*(w+1)+1))+f)+2*x:=by
 have e:x*(2*(w+1))=x*(2*w+1)+x:=by rw[Nat.mul_add 2 w 1,show 2*w+2*1=2*w+1+1 from rfl,Nat.mul_add x (2*w+1) 1,Nat.mul_one]
 rw[Nat.add_mul,e]
 omega
section
variable{s s':RS}{i j k pc d:Nat}{q:Rp}{cs:List Ch}{l c us vs:List UInt8}
theorem w3{w:Nat}(h:q.co.tl=us++vs){q':Rp}(h':q'.co.tl=vs)(t:q'.T=q.T):val w c q=val w (c++us) q'+2*us.length:=by
 unfold val
 rw[h,h',t,List.length_append,List.length_append]
 exact G8
theorem Ny:(s.go i q cs pc l).U≤s.U+1:=by
 unfold RS.U
 exact Nat.le_trans (by split<;>decide) (Nat.le_add_left 1 _)
theorem G_(I:Inv s)(h:Ch.child 1∉cs):(s.go i q cs pc l).U=s.U:=by
 have e:(s.go i q cs pc l).fst=s.fst:=if_neg λz=>I.fs.elim (λy=>nomatch (show Sg.ready=.ax from y.symm.trans z.1)) λy=>h (y.2.1▸z.2)
 unfold RS.U
 rw[e]
theorem w4(I:Inv s)(a:j<s.n)(h:(s.p j).st=.ax)(e:(s.p j).ch=.pipe k false):j=nx s.n k∧s.c k=[]:=(I.sl j a h).elim (λz=>by
 have y:=(Ch.pipe.inj (e.symm.trans z.1)).1
 exact⟨y▸(fe a).symm,y▸z.2.2.1⟩) λz=>nomatch (Ch.pipe.inj (e.symm.trans z.1)).2
theorem Er(I:Inv s)(a:j<s.n)(h:(s.p j).st=.ax)(e:(s.p j).ch=.pipe k true):j=k:=(I.sl j a h).elim (λz=>nomatch (Ch.pipe.inj (e.symm.trans z.1)).2) λz=>(Ch.pipe.inj (e.symm.trans z.1)).1.symm
variable(I:Inv s)(hi:i<s.n)(ht:(s.p i).there=true)(gq:(s.p i).st=.ready)
include I hi ht gq
theorem T6:(s.p i).T=6:=by unfold Rp.T;rw[ht];rfl
theorem sP(h:q.hand=(s.p i).hand):yA (s.ended i q) d<yA s d:=by
 have u:(s.p i).U=1:=if_pos gq
 have b:=Kx (q:=Eg q) (cs:=GW s.n i) (pc:=i) (l:=s.c i) hi (dw hi) (l5 I.n2 hi) (g5 hi) (zM I.n2 hi) (λj g e f a=>by
  unfold GW at a
  rcases List.mem_cons.mp a with z|a
  ·exact absurd ((w4 I g f z).1.trans (fe hi)) e
  rcases List.mem_cons.mp a with z|a
  ·exact .inl (Er I g f z)
  rcases List.mem_cons.mp a with z|a
  ·exact .inr (w4 I g f z).1
  rcases List.mem_cons.mp a with z|a
  ·exact absurd (Er I g f z) e
  ·exact(I.sl j g f).elim (λy=>nomatch y.1.symm.trans (List.mem_singleton.mp a)) λy=>nomatch y.1.symm.trans (List.mem_singleton.mp a))
 rw[u]at b
 refine dec (gQ (d:=d) hi) b Ny ?_
 unfold val
 rw[T6 I hi ht gq]
 show 2*((s.c i).length*_+0*_)+2+0+2+1<2*((s.c i).length*_+_)+6+1
 rw[Nat.zero_mul]
 exact Nat.succ_le_succ (Nat.add_le_add_right (Nat.mul_le_mul_left 2 (Nat.le_add_right _ _)) 6|>Nat.le_trans (Nat.le_of_lt (Nat.lt_succ_self _))|>λz=>Nat.le_trans (Nat.le_of_eq rfl) z)
theorem Es(hd:d<s.n)(r:(s.p d).there=false)(K:gG s i s'):yA s' d<yA s d:=by
 have u:(s.p i).U=1:=if_pos gq
 have t0:=la (x:=(s.p i).co) ht
 have ne:i≠d:=λe=>nomatch (e▸ht).symm.trans r
 cases K with
 |jh a h2 o=>
  have b:=yB (q:={s.p i with st:=.ax,ch:=.pipe (bN s.n i) false}) (cs:=[]) (pc:=i) (l:=s.c i) hi λ_ _ _ _=>nofun
  rw[u]at b
  exact dec (u:=0) (U:=1) (w:=0) (g:=0) (gQ (d:=d) hi) b (Nat.le_of_eq (G_ I nofun)) (by
   have e:val (kX s.n d i) (s.c i) {s.p i with st:=.ax,ch:=.pipe (bN s.n i) false}=val (kX s.n d i) (s.c i) (s.p i):=by
    unfold val
    rw[show Rp.T {s.p i with st:=.ax,ch:=.pipe (bN s.n i) false}=(s.p i).T by unfold Rp.T;rw[ht];rfl]
    rfl
   rw[e];exact Nat.lt_succ_self _)
 |read a h2=>
  have B:(s.p i).prog=0:=Nat.eq_zero_of_le_zero (Nat.le_trans (I.hd i hi).le (Nat.le_of_eq (congrArg List.length a)))
  have b:=yC (q:={s.p i with hand:=s.got i,aP:=(s.p i).aP+(s.got i).length}) (cs:=[.pipe (bN s.n i) true]) (pc:=bN s.n i) (l:=(s.c (bN s.n i)).drop (s.size i)) hi (dw hi) (l5 I.n2 hi) λj h e f m=>Er I h f (List.mem_singleton.mp m)
  rw[u]at b
  refine dec (g:=0) (Be (d:=d) hi (dw hi) (l5 I.n2 hi)) b (Nat.le_of_eq (G_ I (by intro z;exact nomatch List.mem_singleton.mp z))) ?_
  have t:0<(s.got i).length:=List.length_pos_iff.mpr λe=>(List.take_eq_nil_iff.mp e).elim (Nat.ne_of_gt (I.sz i hi).1) h2
  have E:Rp.T {s.p i with hand:=s.got i,aP:=(s.p i).aP+(s.got i).length}=(s.p i).T:=by unfold Rp.T;rw[ht]
  have v:Rp.U {s.p i with hand:=s.got i,aP:=(s.p i).aP+(s.got i).length}=1:=if_pos gq
  have C:(Rp.co {s.p i with hand:=s.got i,aP:=(s.p i).aP+(s.got i).length}).tl=s.got i:=(la (x:=Rp.co {s.p i with hand:=s.got i,aP:=(s.p i).aP+(s.got i).length}) ht).1.trans (by show(s.got i).drop (s.p i).prog=_;rw[B,List.drop_zero])
  have D:(s.c (bN s.n i)).length=(s.got i).length+((s.c (bN s.n i)).drop (s.size i)).length:=(congrArg List.length (List.take_append_drop (s.size i) _).symm).trans List.length_append
  unfold val
  rw[E,C,t0.1,pV (x:=(s.p i).co) a,G6 hi hd ne,D,v,List.length_nil,G9]
  exact Ep t
 |full a h2 o=>
  have b:=yC (q:={s.p i with prog:=0,hand:=[]}) (cs:=[.pipe i false]) (pc:=i) (l:=s.c i++(s.p i).co.ig) hi (g5 hi) (zM I.n2 hi) λj h e f m=>(w4 I h f (List.mem_singleton.mp m)).1
  rw[u]at b
  refine dec (g:=0) (gQ (d:=d) hi) b (Nat.le_of_eq (G_ I (by intro z;exact nomatch List.mem_singleton.mp z))) ?_
  have t:0<(s.p i).co.ig.length:=kA (x:=(s.p i).co)▸Nat.sub_pos_of_lt ((I.hd i hi).lt ht a)
  have v:Rp.U {s.p i with prog:=0,hand:=[]}=1:=if_pos gq
  rw[w3 (w:=kX s.n d i) (c:=s.c i) (q:=s.p i) (us:=(s.p i).co.ig) (vs:=[]) (t0.1.trans (List.append_nil _).symm) (q':={s.p i with prog:=0,hand:=[]}) (la (x:=Rp.co {s.p i with prog:=0,hand:=[]}) ht).1 (by unfold Rp.T;rw[ht]),v]
  exact Ep t
 |part a h2 o=>
  have lt:((s.p i).co.ig.take (s.room i)).length=s.room i:=List.length_take_of_le (Nat.le_of_lt o)
  have e:=w3 (w:=kX s.n d i) (c:=s.c i) (q:=s.p i) (us:=(s.p i).co.ig.take (s.room i)) (vs:=(s.p i).co.ig.drop (s.room i)) (t0.1.trans (List.take_append_drop _ _).symm) (q':={s.p i with prog:=(s.p i).prog+s.room i,st:=.ax,ch:=.pipe i true}) ((la (x:=Rp.co {s.p i with prog:=(s.p i).prog+s.room i,st:=.ax,ch:=.pipe i true}) ht).1.trans List.drop_drop.symm) (by unfold Rp.T;rw[ht];rfl)
  have A:(s.go i {s.p i with prog:=(s.p i).prog+s.room i,st:=.ax,ch:=.pipe i true} [.pipe i false] i (s.c i++(s.p i).co.ig.take (s.room i))).U=s.U:=G_ I (by intro z;exact nomatch List.mem_singleton.mp z)
  rw[lt]at e
  by_cases z:s.room i=0
  ·have b:=yB (q:={s.p i with prog:=(s.p i).prog+s.room i,st:=.ax,ch:=.pipe i true}) (cs:=[.pipe i false]) (pc:=i) (l:=s.c i++(s.p i).co.ig.take (s.room i)) hi λj h _ f m=>by
    have y:=(w4 I h f (List.mem_singleton.mp m)).2
    rw[RS.room,y]at z
    exact Nat.ne_of_gt I.R0 z
   rw[u]at b
   exact dec (u:=0) (U:=1) (w:=0) (g:=0) (gQ (d:=d) hi) b (Nat.le_of_eq A) (by rw[e];exact Nat.lt_succ_of_le (Nat.le_add_right _ _))
  ·have b:=yC (q:={s.p i with prog:=(s.p i).prog+s.room i,st:=.ax,ch:=.pipe i true}) (cs:=[.pipe i false]) (pc:=i) (l:=s.c i++(s.p i).co.ig.take (s.room i)) hi (g5 hi) (zM I.n2 hi) λj h e f m=>(w4 I h f (List.mem_singleton.mp m)).1
   rw[u]at b
   refine dec (g:=0) (gQ (d:=d) hi) b (Nat.le_of_eq A) ?_
   rw[e]
   show _+0+1+0<_+2*s.room i+1
   exact Nat.succ_lt_succ (Nat.lt_add_of_pos_right (Nat.mul_pos (by decide) (Nat.pos_of_ne_zero z)))
 |eof a h2 o=>exact sP I hi ht gq rfl
 |refused a h2=>exact sP I hi ht gq rfl
end
theorem oF{f g:Nat→Nat}{n:Nat}:sumTo n (λj=>f j+g j)=sumTo n f+sumTo n g:=by
 induction n with
 |zero=>rfl
 |succ n ih=>rw[c5,c5,c5,ih,Nat.add_add_add_comm]
theorem Bf{f:Nat→Nat}{n K:Nat}:sumTo n (λj=>K*f j)=K*sumTo n f:=by
 induction n with
 |zero=>rfl
 |succ n ih=>rw[c5,c5,ih,Nat.mul_add]
theorem Ky{w n x y T:Nat}(h:w≤n-1)(e:T≤6):2*(x*(2*w)+y*(2*w+1))+T≤(4*(n-1)+2)*(x+y)+6:=by
 refine Nat.add_le_add ?_ e
 have a:2*w+1≤2*(n-1)+1:=Nat.succ_le_succ (Nat.mul_le_mul_left 2 h)
 have b:=Nat.add_le_add (Nat.mul_le_mul_left x (Nat.le_trans (Nat.le_succ _) a)) (Nat.mul_le_mul_left y a)
 rw[←Nat.add_mul]at b
 refine Nat.le_trans (Nat.mul_le_mul_left 2 b) (Nat.le_of_eq ?_)
 rw[Nat.mul_comm (x+y),←Nat.mul_assoc]
 exact congrArg (· *(x+y)) ((Nat.mul_add 2 _ 1).trans (by rw[←Nat.mul_assoc]))
section
variable{s s':RS}{i j k pc d:Nat}{q:Rp}{cs:List Ch}{l c us vs:List UInt8}{tl:List Nat}
theorem G'(m:s.nu)(hi:i<s.n)(h:s.held≤s.n*s.R+s.n)(o:(4*(s.n-1)+2)*(s.n*s.R+s.n)+7*s.n+1≤399):yA (s.ended i q) i≤399:=by
 refine Nat.le_trans (Nat.add_le_add (Nat.add_le_add (?_:_≤(4*(s.n-1)+2)*s.held+6*s.n) (?_:_≤s.n)) (?_:_≤1)) (Nat.le_trans ?_ o)
 ·have e:sumTo s.n (λj=>(4*(s.n-1)+2)*((s.c j).length+(s.p j).co.ig.length)+6)=(4*(s.n-1)+2)*s.held+6*s.n:=by
   rw[oF,Bf,oF,fj,Nat.mul_comm s.n 6];rfl
  rw[←e]
  refine eF λj b=>?_
  have t:((s.ended i q).p j).co.tl.length≤(s.p j).co.ig.length:=by
   by_cases e:j=i
   ·rw[RS.ended,e,cg];exact Nat.zero_le _
   ·rw[RS.ended,ed e,nr,(la (x:=(s.p j).co) (m j b)).1];exact Nat.le_refl _
  have T:((s.ended i q).p j).T≤6:=by unfold Rp.T;cases((s.ended i q).p j).there<;>simp only[cond_true,cond_false]<;>first|exact Nat.le_refl 6|(split<;>decide)
  have r:(s.ended i q).c j=s.c j:=congrFun (cW (f:=s.c) (k:=i)) j
  unfold val
  rw[r]
  exact Nat.le_trans (Ky (Kw hi) T) (Nat.add_le_add_right (Nat.mul_le_mul_left _ (Nat.add_le_add_left t _)) 6)
 ·have e:=fj (n:=s.n) (a:=1)
  rw[Nat.mul_one]at e
  exact Nat.le_trans (eF (f:=λj=>((s.ended i q).p j).U) (g:=λ_=>1) λj _=>by unfold Rp.U;split<;>decide) (Nat.le_of_eq e)
 ·unfold RS.U;split<;>decide
 ·refine Nat.le_trans ?_ (Nat.add_le_add_right (Nat.add_le_add_right (Nat.mul_le_mul_left (4*(s.n-1)+2) h) (7*s.n)) 1)
  rw[Nat.add_assoc ((4*(s.n-1)+2)*s.held),show 6*s.n+s.n=7*s.n from(Nat.succ_mul 6 s.n).symm]
  exact Nat.le_refl _
theorem Et(I:Inv s)(hi:i<s.n)(a:(s.p i).st=.cz):(s.p i).there=false:=(Bool.not_eq_true _).mp λt=>((I.al i hi).on t).2.elim (λe=>nomatch a.symm.trans e) λe=>nomatch a.symm.trans e
theorem Inv.Kz(I:Inv s)(hi:i<s.n)(b:(s.p i).st=.cz):Inv (s.go i (s.p i).ek [] i (s.c i)):=by
 have o:=Et I hi b
 have a:=I.al i hi
 refine I.go hi (.inl rfl) (I.E3 i hi) ⟨a.ro,a.wo,λh=>(nomatch o.symm.trans h),λ_=>.inr rfl⟩ ⟨Nat.zero_le _,(I.hd i hi).len,λh=>nomatch o.symm.trans h⟩ (λh=>nomatch h) (λ_ h=>nomatch o.symm.trans h) (.inl rfl) (λh=>nomatch h) ?_ ?_
 ·rw[cW]
  have k:=I.lk i hi
  have e:((s.p i).ek).co.tl=(s.p i).co.tl:=by
   unfold Co.tl
   rw[show((s.p i).ek).co.there=false from o,show(s.p i).co.there=false from o];rfl
  exactλt=>by rw[e];exact k t
 ·exact .off o
theorem Inv.first(I:Inv s)(h:∀i,i<s.n→(s.p i).st≠ .cz):Inv {s with fst:=.ax,l0:=.child 1}:={I with fs:=.inr ⟨rfl,rfl,h⟩}
theorem Eu(hi:i<s.n)(f:(s.p i).st=.cz)(a:(s.p i).there=false):yA (s.go i (s.p i).ek [] i (s.c i)) d<yA s d:=by
 have b:=yB (q:=(s.p i).ek) (cs:=[]) (pc:=i) (l:=s.c i) hi λ_ _ _ _=>nofun
 refine dec (U:=(s.p i).U) (u:=(s.p i).ek.U) (w:=0) (g:=0) (gQ (d:=d) hi) b (Nat.le_of_eq ?_) ?_
 ·unfold RS.U
  rw[show(s.go i (s.p i).ek [] i (s.c i)).fst=s.fst from if_neg λz=>nomatch z.2];rfl
 ·have u:(s.p i).U=0:=if_neg (f▸nofun)
  have v:((s.p i).ek).U=0:=rfl
  have t:(s.p i).T=2:=by unfold Rp.T;rw[a];exact if_neg (f▸nofun)
  have h:((s.p i).ek).T=0:=by unfold Rp.T;rw[show(s.p i).ek.there=false from a];rfl
  have e:((s.p i).ek).co.tl=(s.p i).co.tl:=by
   unfold Co.tl
   rw[show((s.p i).ek).co.there=false from a,show(s.p i).co.there=false from a];rfl
  rw[u,v]
  unfold val
  rw[t,h,e]
  exact Nat.lt_add_of_pos_right (by decide)
theorem Bg(h:s.fst=.ready):yA {s with fst:=.ax,l0:=.child 1} d<yA s d:=by
 have e:s.U=1:=if_pos h
 show _+0<_+s.U
 rw[e];exact Nat.lt_succ_self _
structure Told(s:RS)(tl:List Nat):Prop where
 nd:tl.Nodup
 mem:∀i,i∈tl↔i<s.n∧(s.p i).st=.unused
theorem Told.perm(T:Told s tl):tl.Perm ((List.range s.n).filter λi=>decide ((s.p i).st=.unused)):=
 (List.perm_ext_iff_of_nodup T.nd (List.nodup_range.filter _)).mpr λi=>(T.mem i).trans ⟨λh=>List.mem_filter.mpr ⟨List.mem_range.mpr h.1,decide_eq_true h.2⟩,λh=>⟨List.mem_range.mp (List.mem_filter.mp h).1,of_decide_eq_true (List.mem_filter.mp h).2⟩⟩
theorem Told.le(T:Told s tl):tl.length≤s.n:=T.perm.length_eq.symm▸Nat.le_trans (List.length_filter_le ..) (Nat.le_of_eq List.length_range)
theorem Told.all(T:Told s tl):tl.length=s.n↔∀i,i<s.n→(s.p i).st=.unused:=by
 have e:=List.length_filter_eq_length_iff (l:=List.range s.n) (p:=λi=>decide ((s.p i).st=.unused))
 rw[List.length_range,←T.perm.length_eq]at e
 exact e.trans ⟨λh i hi=>of_decide_eq_true (h i (List.mem_range.mpr hi)),λh i hi=>decide_eq_true (h i (List.mem_range.mp hi))⟩
theorem alive(I:Inv s)(hd:d<s.n)(a:(s.p d).there=false)(T:Told s tl)(hl:tl.length≠s.n):s.cU≠[]∨s.fst=.ready:=by
 refine I.fs.elim .inr λh=>.inl λe=>hl (T.all.mpr λi hi=>?_)
 cases ht:(s.p i).there with
 |true=>exact nomatch ((IA I hi ht (asleep I e)).1 d hd).symm.trans a
 |false=>exact((I.al i hi).off ht).resolve_left (h.2.2 i hi)
theorem Ml(h:q.st≠ .unused)(a:(s.p i).st≠ .unused):((s.go i q cs pc l).p j).st=.unused↔(s.p j).st=.unused:=by
 by_cases e:j=i
 ·rw[e,cg];exact⟨λz=>absurd z h,λz=>absurd z a⟩
 ·rw[ed e]
  exact iN.elim (λw=>by rw[w.1]) λw=>by rw[w.1,w.2];exact⟨nofun,nofun⟩
theorem uQ(a:(s.p i).st=.ready)(K:gG s i s'):(((s'.p j).st=.unused↔(s.p j).st=.unused)∧(j≠i→(s'.p j).aP=(s.p j).aP))∧((s.p j).there=false→(s'.p j).there=false):=by
 have key:∀{q:Rp}{cs pc l},q.st≠ .unused→(q.there=(s.p i).there∨q.there=false)→((((s.go i q cs pc l).p j).st=.unused↔(s.p j).st=.unused)∧(j≠i→((s.go i q cs pc l).p j).aP=(s.p j).aP))∧((s.p j).there=false→((s.go i q cs pc l).p j).there=false):=λ{q cs pc l} h t=>⟨⟨Ml h (a▸nofun),λe=>(congrArg Rp.aP (ed e)).trans Rp.eV.2.2.1⟩,λo=>(congrFun ki j).trans (bp (λb:Bool=>b=false) (λe=>t.elim (λt=>t.trans (e▸o)) id) λ_=>o)⟩
 cases K with
 |jh f h2 g=>exact key nofun (.inl rfl)
 |read f h2=>exact key (a▸nofun) (.inl rfl)
 |full f h2 g=>exact key (a▸nofun) (.inl rfl)
 |part f h2 g=>exact key nofun (.inl rfl)
 |eof f h2 g=>exact key nofun (.inr rfl)
 |refused f h2=>exact key nofun (.inr rfl)
noncomputable def RS.key(s:RS)(i:Nat):Int×Int:=(((pk s.n i+1:Nat):Int),((s.p i).aP:Int))
noncomputable abbrev gH(s:RS)(tl:List Nat):MV:=.lst (tl.map λi=>eT (s.key i))
theorem Told.turn(T:Told s tl)(a:(s.p i).st=.ready)(K:gG s i s'):Told s' tl∧gH s' tl=gH s tl:=by
 have n:=uO K
 refine⟨⟨T.nd,λj=>(T.mem j).trans (by rw[n.1,(uQ (j:=j) a K).1.1])⟩,congrArg MV.lst (List.map_congr_left λj b=>?_)⟩
 unfold RS.key
 rw[n.1,(uQ (j:=j) a K).1.2 λe=>nomatch (e▸((T.mem j).mp b).2).symm.trans a]
theorem Told.Kz(T:Told s tl)(hi:i<s.n)(g:(s.p i).st=.cz):Told (s.go i (s.p i).ek [] i (s.c i)) (tl++[i])∧gH (s.go i (s.p i).ek [] i (s.c i)) (tl++[i])=.lst ((tl.map λi=>eT (s.key i))++[eT (s.key i)]):=by
 have f:∀{j},j≠i→(s.go i (s.p i).ek [] i (s.c i)).p j=s.p j:=λe=>(ed e).trans (if_neg λz=>nomatch z.2)
 have nm:i∉tl:=λh=>nomatch ((T.mem i).mp h).2.symm.trans g
 refine⟨⟨List.nodup_append.mpr ⟨T.nd,List.pairwise_singleton _ i,λa m b hb e=>nm (List.mem_singleton.mp hb▸e▸m)⟩,λj=>?_⟩,?_⟩
 ·rw[List.mem_append,List.mem_singleton,T.mem]
  by_cases e:j=i
  ·rw[e,cg];exact⟨λ_=>⟨hi,rfl⟩,λ_=>.inr rfl⟩
  ·rw[f e];exact⟨λh=>h.resolve_right e,.inl⟩
 ·have k:∀j,(s.go i (s.p i).ek [] i (s.c i)).key j=s.key j:=λj=>by
   unfold RS.key
   by_cases e:j=i
   ·rw[e,cg];rfl
   ·rw[f e];rfl
  show MV.lst _=_
  rw[List.map_append]
  simp only[k]
  rfl
end
noncomputable abbrev Nz:List XS:=[bo (aH .Eq (ak cn [(aa bY)]) (ak cn [(aa a_)])) (xB [Fz]) (xB []),
  ay (bE aT) (aL .Add (ak ez [(aa aB)]) (aL .Mult (cI [(ak cn [(aa a_)])]) (ak vf [(aH .Eq (aq (aa aC) bR) (a5 aT))]))),
  bo (aH .Eq (aa aT) (cI [])) (xB [bt (cw false)]) (xB []),
  ay (bE cP) (aI (aa aT) (ak a6 [(aa bW),(ak cn [(aa aT)])])),
  bo (aH .Eq (aa cP) (ak cn [(aa a_)])) (xB [ay (bE lx) (mH [aC,aB] (ao (aI (aa aB) (a5 aS)) jL [(aa aC)])),
  bo (aH .Eq (aI (aa lx) (av 0)) (a5 dY)) (xB [bt (cw false)]) (xB []),
  ay (bE bY) (aL .Add (aa bY) (nB (aH .Is (aI (aa lx) (av 1)) bj) (cI []) (cI [(aI (aa lx) (av 1))])))]) (xB [bo (fT (ak dm [(aa aB),(aa cP)])) (xB [bt (cw false)]) (xB [])])]
noncomputable abbrev IB(b n a:Nat)(v:MV):Loc:=[(bW,.ref .L b),(aB,sV (il n)),(a_,.ref .L a),(aC,br 0),(bY,v)]
section
variable{H H':Hp}{l l':Lay}{s s':RS}{bx rl i j k m t d:Nat}{ρ:Loc}{tl:List Nat}
noncomputable def RS.ij(s:RS):List Nat:=s.cU++if s.fst=.ready then[s.n]else[]
theorem rf(h:s.n≤5):s.ij.length≤1000:=by
 unfold RS.ij
 rw[List.length_append]
 exact Nat.le_trans (Nat.add_le_add (Nat.le_trans sO h) (show _≤1 by split<;>first|exact Nat.le_refl 1|decide)) (by decide)
theorem St.rows(a:St H l s bx rl){e:XE}(h:Ev j e ρ H (.ref .L rl) H):Ev j (ak cn [e]) ρ H (.int s.n) H:=a.rws.len a.n5 h
theorem Ew(a:St H l s bx rl)(g:look aB ρ=some (sV (il s.n)))(f:look a_ ρ=some (.ref .L rl))(c:look aC ρ=some (br 0)):Ev 10 (aL .Add (ak ez [(aa aB)]) (aL .Mult (cI [(ak cn [(aa a_)])]) (ak vf [(aH .Eq (aq (aa aC) bR) (a5 aT))]))) ρ H (fI s.ij) H:=by
 have st:Ev 10 (aH .Eq (aq (aa aC) bR) (a5 aT)) ρ H (.bool (decide (s.fst=.ready))) H:=fS (au (ae c) (a.r.P 0 (Nat.zero_le _)) rfl rfl) a7 (DZ (s:=s.fst)▸ .eq (.ss _ _))
 have b:Ev 10 (aL .Mult (cI [(ak cn [(aa a_)])]) (ak vf [(aH .Eq (aq (aa aC) bR) (a5 aT))])) ρ H (.lst ((if s.fst=.ready then[s.n]else[]).map λk:Nat=>.int k)) H:=by
  have t:=xG (e4 (ag (a.rows (ae f)) aj) (ble rfl)) (dr Dl (ag st aj) (.int _)) (.inl rfl) (by split<;>decide) (by split<;>decide)
  by_cases e:s.fst=.ready
  ·rw[if_pos e];rw[decide_eq_true e]at t;exact t
  ·rw[if_neg e];rw[decide_eq_false e]at t;exact t
 refine c6 (congrArg MV.lst List.map_append.symm) (B2 (dt m' (ag (ae g) aj) (a.ready.up 9)) b (.inl rfl) (.inl rfl) ?_)
 rw[←List.length_append,←List.map_append,List.length_map]
 exact rf a.r.n5
structure Rt(s:RS)(d:Nat)(tl:List Nat):Prop where
 I:Inv s
 hd:d<s.n
 off:(s.p d).there=false
 T:Told s tl
theorem w5(R:Rt s d tl)(l:look bY ρ=some (gH s tl)):Ev k (ak cn [aa bY]) ρ H (.int (tl.length:Nat)) H:=c6 (by rw[List.length_map]) (dr eB (ag (ae l) aj) (.qE (.inl rfl) (by rw[List.length_map];exact Nat.le_trans R.T.le (Nat.le_trans R.I.n5 (by decide)))))
theorem p0{a b:Nat}{c:Bool}(h:decide (a=b)=c):eR H .Eq (.int a) (.int b) c:=(decide_eq_decide.mpr ⟨λz=>Int.ofNat.inj z,λz=>congrArg Int.ofNat z⟩:decide ((a:Int)=b)=decide (a=b)).trans h▸ .eq (.ii (a:Int) b)
noncomputable abbrev Li(bx n rl t at_:Nat)(v1 v:MV):Loc:=IB bx n rl v++[(eK,.int t),(aT,v1),(cP,.int at_)]
noncomputable abbrev NA:List XS:=[ay (bE lx) (mH [aC,aB] (ao (aI (aa aB) (a5 aS)) jL [(aa aC)])),
  bo (aH .Eq (aI (aa lx) (av 0)) (a5 dY)) (xB [bt (cw false)]) (xB []),
  ay (bE bY) (aL .Add (aa bY) (nB (aH .Is (aI (aa lx) (av 1)) bj) (cI []) (cI [(aI (aa lx) (av 1))])))]
theorem Ex{at_:Nat}{v1 v:MV}{vs us:List MV}(a:St H l s bx rl)(w:Fn 4 295 [c_,br 0] H v H')(c:(isNone v=true∧us=[])∨(isNone v=false∧us=[v]))(hl:vs.length+us.length≤1000):gj 10 NA (Li bx s.n rl t at_ v1 (.lst vs)) H .next (Li bx s.n rl t at_ v1 (.lst (vs++us))++[(lx,.tup [.str bY,v])]) H':=by
 refine af (aG rfl (nZ (ns:=[aC,aB]) (bU eO rfl (a.rws.W.calls rfl) a.r.pc rfl (ag (ae rfl) aj) (w.up 4))) aA)
  (af (aU (aD (aW (ae rfl) ar (.t (cx (j:=0) rfl (by decide)))) a7 (b:=false) (.eq (.ss _ _))) aw) (af (aG rfl (B2 (ae rfl) (y:=.lst us) (H2:=H') ?_ (.inl rfl) (.inl rfl) hl) aA) aw))
 have v1:∀{ρ},look lx ρ=some (.tup [.str bY,v])→Ev 10 (aI (aa lx) (av 1)) ρ H' v H':=λh=>aW (ae h) ar (.t (cx (j:=1) rfl (by decide)))
 rcases c with e|e
 ·rw[e.2];exact hV (aD (v1 rfl) a3 (e.1▸ .Ak v)) (e4 aj (ble rfl))
 ·rw[e.2];exact hW (aD (v1 rfl) a3 (e.1▸ .Ak v)) (e4 (ag (v1 rfl) aj) (ble rfl))
theorem Ha{at_:Nat}{v1:MV}(a:St H l s bx rl)(R:Rt s d tl)(hl:tl.length≠s.n)(hf:s.fst=.ready):
  ∃H' l' s' c r,gj 10 NA (Li bx s.n rl t at_ v1 (gH s tl)) H .next (Li bx s.n rl t at_ v1 (gH s' c)++r) H'∧St H' l' s' bx rl∧Rt s' d c∧yA s' d<yA s d∧s'.n=s.n:=by
 have le:tl.length≤999:=Nat.le_trans R.T.le (Nat.le_trans R.I.n5 (by decide))
 by_cases h:∃i,i<s.n∧(s.p i).st=.cz
 ·obtain⟨i,H1,hi,f,w,r⟩:=GZ a.r a.h2 h
  have T:=R.T.Kz hi f
  have g:=Ex (t:=t) (at_:=at_) (v1:=v1) (vs:=tl.map λi=>eT (s.key i)) (us:=[eT (s.key i)]) a w (.inr ⟨rfl,rfl⟩) (by rw[List.length_map];exact Nat.succ_le_succ le)
  rw[←T.2]at g
  refine⟨H1,l,_,_,_,g,a.Lh r ⟨rfl,rfl,rfl,rfl⟩,⟨R.I.Kz hi f,R.hd,?_,T.1⟩,Eu hi f (Et R.I hi f),rfl⟩
  exact(congrFun ki d).trans (bp (λb:Bool=>b=false) (λe=>Et R.I hi f) λ_=>R.off)
 ·have o:∀i,i<s.n→(s.p i).st≠ .cz:=λi hi e=>h ⟨i,hi,e⟩
  have q:∃i,i<s.n∧(s.p i).st≠ .unused:=Classical.byContradiction λz=>hl (R.T.all.mpr λi hi=>Classical.byContradiction λy=>z ⟨i,hi,y⟩)
  obtain⟨H1,w,r⟩:=zP a.r a.h2 q o
  have g:=Ex (t:=t) (at_:=at_) (v1:=v1) (vs:=tl.map λi=>eT (s.key i)) (us:=[]) a w (.inl ⟨rfl,rfl⟩) (by rw[List.length_map];exact Nat.le_trans le (by decide))
  rw[List.append_nil]at g
  exact⟨H1,l,{s with fst:=.ax,l0:=.child 1},tl,_,g,a.keep r rfl rfl a.S rfl,⟨R.I.first o,R.hd,R.off,⟨R.T.nd,R.T.mem⟩⟩,Bg hf,rfl⟩
theorem Hb(p:St H l s bx rl)(R:Rt s d tl)(hl:tl.length≠s.n):∃H' l' s' a r,gj 10 Nz (IB bx s.n rl (gH s tl)++[(eK,.int t)]) H .next (IB bx s.n rl (gH s' a)++r) H'∧St H' l' s' bx rl∧Rt s' d a∧yA s' d<yA s d∧s'.n=s.n:=by
 have ne:s.ij≠[]:=λe=>(alive R.I R.hd R.off R.T hl).elim (λh=>h (List.append_eq_nil_iff.mp e).1) λh=>by
  have z:=(List.append_eq_nil_iff.mp e).2
  rw[if_pos h]at z
  exact nomatch z
 obtain⟨i,H1,w,hi,f,o⟩:=p.draw (d:=9) (n:=aT) (ρ:=IB bx s.n rl (gH s tl)++[(eK,.int t),(aT,fI s.ij)]) ne (rf p.r.n5) rfl rfl
 have pre:∀{H'}{ρ':Loc},eu 10 (bo (aH .Eq (aa cP) (ak cn [(aa a_)])) (xB NA) (xB [bo (fT (ak dm [(aa aB),(aa cP)])) (xB [bt (cw false)]) (xB [])])) (Li bx s.n rl t i (fI s.ij) (gH s tl)) H1 .next ρ' H'→gj 10 Nz (IB bx s.n rl (gH s tl)++[(eK,.int t)]) H .next ρ' H':=λz=>
  af (aU (aD (w5 R rfl) (p.rows (ae rfl)) (p0 (decide_eq_false hl))) aw) (af (aG rfl (Ew p rfl rfl rfl) aA) (af (aU (yz rfl (Bool.eq_false_iff.mpr λz=>ne (List.isEmpty_iff.mp z))) aw) (af (aG rfl f aA) (af z aw))))
 have at_:∀{b},decide (i=s.n)=b→ik 10 (aH .Eq (aa cP) (ak cn [(aa a_)])) (Li bx s.n rl t i (fI s.ij) (gH s tl)) H1 b H1:=λe=>aD (ae rfl) (o.rows (ae rfl)) (p0 e)
 rcases List.mem_append.mp hi with m|m
 ·have u:=List.mem_filter.mp m
  have hi:=List.mem_range.mp u.1
  have rd:=q_ u.2
  obtain⟨H2,q,s',K,g,c,v⟩:=o.turn R.I hi rd.1 rd.2
  have T:=R.T.turn rd.2 K
  have en:=uO K
  refine⟨H2,q,s',tl,[(eK,.int t),(aT,fI s.ij),(cP,.int i)],?_,c,⟨v,en.1.symm▸R.hd,(uQ rd.2 K).2 R.off,T.1⟩,Es R.I hi rd.1 rd.2 R.hd R.off K,en.1⟩
  rw[T.2]
  exact pre (aU (at_ (decide_eq_false (Nat.ne_of_lt hi))) (af (aU (gv (b:=true) (cL (dt hJ (ag (ae rfl) (ag (ae rfl) aj)) g) rfl)) aw) aw))
 ·have hf:s.fst=.ready:=Classical.byContradiction λz=>by rw[if_neg z]at m;exact nomatch m
  have e:i=s.n:=by rw[if_pos hf]at m;exact List.mem_singleton.mp m
  obtain⟨H2,q,s',a,r,g,c,R2,ms,en⟩:=Ha (t:=t) (at_:=i) (v1:=fI s.ij) o R hl hf
  exact⟨H2,q,s',a,[(eK,.int t),(aT,fI s.ij),(cP,.int i)]++r,pre (cF (at_ (decide_eq_true e)) g),c,R2,ms,en⟩
theorem Hc:∀{k t:Nat}{H l s tl},((t+k:Nat):Int)=400→St H l s bx rl→Rt s d tl→yA s d<k→∃H' l' s' a r,e9 10 (bE eK) Nz k (.ny t 400) (IB bx s.n rl (gH s tl)) H .next (IB bx s.n rl (gH s' a)++r) H'∧St H' l' s' bx rl∧Rt s' d a∧a.length=s'.n∧s'.n=s.n:=by
 intro k
 induction k with
 |zero=>exactλ{t H l s tl} _ _ _ h=>absurd h (Nat.not_lt_zero _)
 |succ k ih=>
  intro t H l s tl e g R ms
  have lt:(t:Int)<400:=e▸Int.ofNat_lt.mpr (Nat.lt_add_of_pos_right (Nat.succ_pos k))
  by_cases hl:tl.length=s.n
  ·exact⟨H,l,s,tl,[(eK,.int t)],.brk (.r _ _ lt) aA (az (cF (aD (w5 R rfl) (g.rows (ae rfl)) (p0 (decide_eq_true hl))) (az Jg rfl)) rfl),g,R,hl,rfl⟩
  ·obtain⟨H1,A,z,u,r,f,c,R1,x,en⟩:=Hb (t:=t) g R hl
   obtain⟨H2,y,v,o,w,D,b,R2,p,q⟩:=ih (t:=t+1) ((congrArg Int.ofNat (Nat.succ_add_eq_add_succ t k)).trans e) c R1 (Nat.lt_of_lt_of_le x (Nat.le_of_lt_succ ms))
   rw[en]at D
   exact⟨H2,y,v,o,w,.step (.r _ _ lt) aA (cV f) D,b,R2,p,q.trans en⟩
end
noncomputable def uR(n:Nat):Nat→List (List Nat)
 |0=>[[]]
 |k+1=>(uR n k).flatMap λl=>(List.range n).map λa=>a::l
theorem w6{n:Nat}{l:List Nat}(h:∀a∈l,a<n):l∈uR n l.length:=by
 induction l with
 |nil=>exact .head _
 |cons a l ih=>exact List.mem_flatMap.mpr ⟨l,ih λb hb=>h b (.tail _ hb),List.mem_map.mpr ⟨a,List.mem_range.mpr (h a (.head _)),rfl⟩⟩
noncomputable def He(n:Nat)(l:List Nat):List (Int×Int):=l.map λi=>(((pk n i+1:Nat):Int),0)
noncomputable def Bh(n:Nat)(l:List Nat):List Nat:=(qB (FI (He n l)) (kas_sort n)).toList.map λi=>l.getD i 0
noncomputable def w7(n:Nat):Bool:=(uR n n).all λl=> !decide l.Nodup||decide (Bh n l=Bh n (List.range n))
theorem NB:w7 2=true:=by decide+kernel
theorem NC:w7 3=true:=by decide+kernel
theorem ND:w7 4=true:=by decide+kernel
theorem NF:w7 5=true:=by decide+kernel
theorem OT{n:Nat}{p:Nat→Prop}(h2:2≤n)(e:n≤5)(a:p 2)(b:p 3)(c:p 4)(d:p 5):p n:=match n,h2,e with
 |0,h,_=>absurd h (by decide)
 |1,h,_=>absurd h (by decide)
 |2,_,_=>a
 |3,_,_=>b
 |4,_,_=>c
 |5,_,_=>d
 |_+6,_,h=>absurd h (Nat.not_le_of_lt (Nat.le_add_left 6 _))
theorem Hf{n:Nat}(e:n≤5)(h2:2≤n){l:List Nat}(hl:l.length=n)(c:l.Nodup)(hb:∀a∈l,a<n):Bh n l=Bh n (List.range n):=by
 have b:=w6 hb
 rw[hl]at b
 have t:=List.all_eq_true.mp (OT (p:=λn=>w7 n=true) h2 e NB NC ND NF) l b
 rw[decide_eq_true c]at t
 exact of_decide_eq_true t
theorem sQ{n:Nat}(c:n≤5)(h2:2≤n)(f:Nat→Int){l:List Nat}(hl:l.length=n):k1 (l.map λi=>(((pk n i+1:Nat):Int),f i))=(Bh n l).map λi=>(((pk n i+1:Nat):Int),f i):=by
 have a:FI (l.map λi=>(((pk n i+1:Nat):Int),f i))=FI (He n l):=by
  funext i j
  have:∀i,((l.map λi=>(((pk n i+1:Nat):Int),f i)).getD i (0,0)).1=((He n l).getD i (0,0)).1:=λi=>by
   unfold He
   rw[List.getD_eq_getElem?_getD,List.getD_eq_getElem?_getD,List.getElem?_map,List.getElem?_map]
   cases l[i]? <;>rfl
  unfold FI
  rw[this,this]
 unfold k1 sortBy Bh
 rw[a,List.length_map,hl,List.map_map]
 refine List.map_congr_left λi hi=>?_
 have b:i<l.length:=hl▸vx c h2 i hi
 rw[List.getD_eq_getElem?_getD,List.getElem?_map]
 show _=(λi=>(((pk n i+1:Nat):Int),f i)) (l.getD i 0)
 rw[List.getD_eq_getElem?_getD,List.getElem?_eq_getElem b]
 rfl
theorem yD{n:Nat}(b:n≤5)(h2:2≤n)(f:Nat→Int){l:List Nat}(hl:l.length=n)(c:l.Nodup)(hb:∀a∈l,a<n):
  k1 (l.map λi=>(((pk n i+1:Nat):Int),f i))=k1 ((List.range n).map λi=>(((pk n i+1:Nat):Int),f i)):=by
 rw[sQ b h2 f hl,sQ b h2 f List.length_range,Hf b h2 hl c hb]
theorem Ey{H:Hp}{ps:List (Int×Int)}:pN H (.lst (ps.map eT)) (.lst (ps.map eT)) true:=by
 have c:=pN.ll (H:=H) (ps.map eT) (ps.map eT) (λ_=>true) (.inl rfl) (.inl rfl) rfl (λj a b p q=>by
  cases Option.some.inj (p.symm.trans q)
  rw[List.getElem?_map]at p
  cases h:ps[j]? with
  |none=>rw[h]at p;cases p
  |some u=>
   rw[h]at p
   cases p
   have e:=r7.pp u.1 u.2 u.1 u.2
   rw[decide_eq_true rfl,decide_eq_true rfl]at e
   exact e)
 exact(List.all_eq_true.mpr λ_ _=>rfl:(List.range (ps.map eT).length).all (λ_=>true)=true)▸c
theorem Hg{d:Nat}{x:XS}{ρ ρ' r:Loc}{f:Fl}{H H':Hp}(h:eu d x ρ H f (ρ'++r) H'):eu d x ρ H f ρ' H':=λC p O g z N s Q E I F k=>
 h C p O g z N s Q E I F λfl e o a b c q=>k fl e o a b c (q.sub λn v=>wC)
section
variable{H H':Hp}{l l':Lay}{s s':RS}{bx rl i j k m t d:Nat}{ρ:Loc}{tl:List Nat}
theorem keys_nodup(h2:2≤s.n)(c:tl.Nodup)(hb:∀i∈tl,i<s.n):((tl.map s.key).map (·.1)).Nodup:=by
 rw[List.map_map]
 induction tl with
 |nil=>exact List.nodup_nil
 |cons a tl ih=>
  have n:=List.nodup_cons.mp c
  refine List.nodup_cons.mpr ⟨λh=>(List.mem_map.mp h).elim λb z=>n.1 ?_,ih n.2 λi hi=>hb i (.tail _ hi)⟩
  have e:pk s.n b=pk s.n a:=Nat.succ.inj (Int.ofNat.inj z.2)
  rw[←zL (hb a (.head _)),←e,zL (hb b (.tail _ z.1))]
  exact z.1
theorem St.rest(c:St H l s bx rl)(I:Inv s)(hd:d<s.n)(off:(s.p d).there=false)(u:∀i,i<s.n→(s.p i).st≠ .unused)(v:yA s d≤399):∃H' l' s',Fn 11 905 [.ref .L bx,sV (il s.n)] H (.bool true) H'∧St H' l' s' bx rl∧(∀i,i<s'.n→(s'.p i).st=.unused)∧s'.n=s.n∧Inv s':=by
 have X:=c.rws
 obtain⟨H',l',s',tl,r,D,a,R,hl,en⟩:=Hc (k:=400) (t:=0) (tl:=[]) rfl c ⟨I,hd,off,List.nodup_nil,λi=>⟨nofun,λh=>absurd h.2 (u i h.1)⟩⟩ (Nat.lt_succ_of_le v)
 have hb:∀i∈tl,i<s'.n:=λi hi=>((R.T.mem i).mp hi).1
 have X':=a.rws
 have n5:=a.r.n5
 have cp:∀{ρ},rA 10 (bE b6) [b6] [] (cS [(aI (aa b6) (a5 dS)),(aI (aa b6) (a5 dW))]) ρ (List.range s'.n).length (.lst rl 0) H' ((List.range s'.n).map λi=>eT (s'.key i)) H':=λ{ρ}=>
  iL (f:=λi=>sV (bN s'.n i)) (λi hi=>⟨_,gw,ct (ag (aW (ae (g9 ..)) a7 (.s (X'.r i (List.mem_range.mp hi)) rfl)) (ag (aW (ae (g9 ..)) a7 (.s (X'.r i (List.mem_range.mp hi)) rfl)) aj)) (ble rfl)⟩) (ke (j:=0) X'.W.l (by rw[List.map_map];rfl))
 have b:∀{ρ:Loc}{e:XE}{t:List Nat},Ev 10 e ρ H' (gH s' t) H'→t.length=s'.n→t.Nodup→(∀i∈t,i<s'.n)→Ev 10 (ak pJ [e]) ρ H' (.lst ((k1 ((List.range s'.n).map s'.key)).map eT)) H':=λ{ρ e t} h hl o hb=>by
  have q:=dr AN (ag h aj) (.sorted (ps:=t.map s'.key) (.inl (congrArg MV.lst (List.map_map (f:=s'.key) (g:=eT)).symm)) (by rw[List.length_map,hl];exact a.h2) (by rw[List.length_map,hl];exact n5) (keys_nodup a.h2 o hb))
  rw[show k1 (t.map s'.key)=k1 ((List.range s'.n).map s'.key)from yD n5 a.h2 (λi=>((s'.p i).aP:Int)) hl o hb]at q
  exact q
 refine⟨H',l',s',aJ ou rfl (af (ρ1:=IB bx s.n rl (gH s [])) (aG rfl (ct (ag (X.W.rows rfl) (ag (aW (ae rfl) a7 (.s X.W.w rfl)) (ag (e4 aj (ble rfl)) aj))) (ble rfl)) (eL (bw aA (bw aA (bw aA dA))) rfl))
  (af (Hg (dQ (eI eC (ag ar aj) (by decide)) rfl D)) (az (aY (fS (b (ae rfl) hl R.T.nd hb) (b (fD (fW rfl rfl) (eM (ae rfl) (.l X'.W.l)) rfl cp (by rw[bZ];exact a.n5)) List.length_range List.nodup_range λi hi=>List.mem_range.mp hi) (.eq Ey))) rfl))) rfl,a,R.T.all.mp hl,en,R.I⟩
end
theorem uS{a b:Nat}:min (a:Int) (b:Int)=((min a b:Nat):Int):=(Nat.le_total a b).elim (λh=>by rw[Nat.min_eq_left h,Int.min_eq_left (Int.ofNat_le.mpr h)]) λh=>by rw[Nat.min_eq_right h,Int.min_eq_right (Int.ofNat_le.mpr h)]
theorem Hp.yE{H:Hp}{c:Cl}{k:Nat}{o u:MO}(h:k≠H.n c):(H.new c o).set c k u=(H.set c k u).new c o:=congrArg (Hp.mk · (H.new c o).n) (funext λx=>funext λy=>by
 show(if x=c∧y=k then u else if x=c∧y=H.n c then o else H.o x y)=if x=c∧y=H.n c then o else if x=c∧y=k then u else H.o x y
 by_cases e:x=c∧y=k
 ·rw[if_pos e,if_neg λz=>h (e.2.symm.trans z.2),if_pos e]
 ·rw[if_neg e,if_neg e])
noncomputable abbrev NG:List XS:=[ay (bE mm) (aL .Mod (aL .Add (aL .Add (aL .Mult (aa mm) (av 69069)) (aL .Mult (aa fy) (av 40503))) (av 5)) (av 2147483629)),
  bo (dZ (aH .Eq (aa hO) (av 0)) [(aH .GtE (ak ve [(aa fy)]) (aL .Pow (av 10) (av 18)))]) (xB [ay (bE hO) (ak ve [(aa fy)])]) (xB [])]
noncomputable abbrev Hh(v:MV)(g sd:Int):Loc:=[(dh,v),(hO,.int g),(mm,.int sd)]
section
variable{H H':Hp}{d:Nat}{ρ:Loc}{v:MV}
theorem Ez{ns:List Int}:∀{g sd:Int},∃b a,e9 0 (bE fy) NG ns.length (.nC (ns.map .int)) (Hh v g sd) H .next (Hh v b a) H:=by
 induction ns with
 |nil=>exactλ{g sd}=>⟨g,sd,.stop .s⟩
 |cons x ns ih=>
  intro g sd
  have j:eu 0 (ay (bE mm) (aL .Mod (aL .Add (aL .Add (aL .Mult (aa mm) (av 69069)) (aL .Mult (aa fy) (av 40503))) (av 5)) (av 2147483629))) (Hh v g sd++[(fy,.int x)]) H .next (Hh v g ((sd*69069+x*40503+5)%2147483629)++[(fy,.int x)]) H:=
   aG rfl (a8 (a8 (a8 (a8 (ae rfl) ar (.mul _ _ (by decide))) (a8 (ae rfl) ar (.mul _ _ (by decide))) (.add _ _)) ar (.add _ _)) ar (.mod _ _ (by decide))) aA
  have ab:∀{sd:Int},Ev 0 (ak ve [(aa fy)]) (Hh v g sd++[(fy,.int x)]) H (.int x.natAbs) H:=λ{sd}=>dr JO (ag (ae rfl) aj) (.abs x)
  have h2:∀{sd:Int},∃b,eu 0 (bo (dZ (aH .Eq (aa hO) (av 0)) [(aH .GtE (ak ve [(aa fy)]) (aL .Pow (av 10) (av 18)))]) (xB [ay (bE hO) (ak ve [(aa fy)])]) (xB [])) (Hh v g sd++[(fy,.int x)]) H .next (Hh v b sd++[(fy,.int x)]) H:=λ{sd}=>by
   have e:ik 0 (aH .Eq (aa hO) (av 0)) (Hh v g sd++[(fy,.int x)]) H (decide (g=0)) H:=aD (ae rfl) ar (.eq (.ii _ _))
   have i:=aD (op:=.GtE) (ab (sd:=sd)) (a8 ar ar .big) (.ge (x.natAbs:Int) (10^18))
   cases c:decide (g=0)with
   |false=>exact⟨g,aU (cy (b3 (c▸e))) aw⟩
   |true=>
    cases h:decide (((10:Int)^18)≤x.natAbs)with
    |false=>exact⟨g,aU (cy (b_ (c▸e) (b3 (h▸i)))) aw⟩
    |true=>exact⟨_,cF (cy (b_ (c▸e) (b_ (h▸i) eS))) (af (aG rfl ab aA) aw)⟩
  obtain⟨f,h2⟩:=h2
  obtain⟨b,a,D⟩:=ih (g:=f) (sd:=(sd*69069+x*40503+5)%2147483629)
  exact⟨b,a,.step (.s _ _) aA (cV (ρ':=Hh v f _) (r:=[(fy,.int x)]) (af j (af h2 aw))) D⟩
theorem Mm{ns:List Int}(hl:ns.length≤63):∃g sd:Int,Fn 1 803 [.lst (ns.map .int)] H (.ref .L (H.n .L)) (H.new .L (.list [.int g,.int sd])):=by
 have e:(ns.map MV.int).take 63=ns.map .int:=List.take_of_length_le (by rw[List.length_map];exact hl)
 obtain⟨g,sd,D⟩:=Ez (H:=H) (v:=.lst (ns.map .int)) (ns:=ns) (g:=0) (sd:=83)
 exact⟨g,sd,aJ yg rfl (af (aG rfl (ct (ag ar (ag ar aj)) (ble rfl)) (eL (bw aA (bw aA dA)) rfl))
  (af (dQ (eM (c6 (congrArg MV.lst e) (Jc (j:=63) (ae rfl) ar (.inl rfl) (by rw[List.length_map];exact Nat.le_trans hl (by decide)))) (.s _)) rfl D) (az (aY (kr (ag (ae rfl) (ag (ae rfl) aj)) (ble rfl))) rfl))) rfl⟩
noncomputable def HB(a b:Int):Hp:=BC.new .L (.list [.int a,.int b])
noncomputable def HL(a b:Int)(vs:List MV):Hp:=(HB a b).new .L (.list vs)
variable{a b a' b':Int}{vs us:List MV}{m k:Nat}
theorem yF:(HB a b).set .L 0 (.list [.int a',.int b'])=HB a' b':=Hp.jf (H:=BC)
theorem KA:(HL a b vs).set .L 0 (.list [.int a',.int b'])=HL a' b' vs:=(Hp.yE (H:=HB a b) Nat.zero_ne_one).trans (congrArg (λH:Hp=>H.new .L (.list vs)) yF)
theorem EA:(HL a b vs).set .L 1 (.list us)=HL a b us:=Hp.jf (H:=HB a b)
theorem zV:(HL a b vs).o .L 1=.list vs:=Hp.dN (H:=HB a b)
theorem Mn:(HL a b vs).o .L 0=.list [.int a,.int b]:=(Hp.eh (H:=HB a b) λz=>Nat.zero_ne_one z.2).trans (Hp.dN (H:=BC))
theorem draw(h:H.o .L k=.list [.int a,.int b])(i:0<m)(f:m≤1000):∃(v:Nat)(a' b':Int),v<m∧Fn 1 810 [.ref .L k,.int m] H (.int v) (H.set .L k (.list [.int a',.int b'])):=by
 have j:(0:Int)<m:=Int.ofNat_lt.mpr i
 by_cases g:0<a
 ·obtain⟨v,c,e⟩:=pX (x:=a) i
  exact⟨v,_,_,c,e▸zG h j (Int.ofNat_lt.mpr (Nat.lt_of_le_of_lt f (by decide))) g⟩
 ·obtain⟨v,c,e⟩:=pX (x:=(b*48271+11)%2147483647/128) i
  exact⟨v,_,_,c,e▸zH h j g⟩
theorem uT(d:Nat){e:XE}(f:0<m)(c:m≤1000)(l:look bW ρ=some (.ref .L 0)):∃(v:Nat)(a' b':Int),v<m∧(Ev (d+1) e ρ (HL a b vs) (.int m) (HL a b vs)→Ev (d+1) (ak a6 [(aa bW),e]) ρ (HL a b vs) (.int v) (HL a' b' vs)):=
 (draw (H:=HL a b vs) Mn f c).elim λv h=>h.elim λa' h=>h.elim λb' h=>⟨v,a',b',h.1,λg=>dt dJ (ag (ae l) (ag g aj)) ((KA (a:=a) (b:=b) (a':=a') (b':=b') (vs:=vs))▸Nat.add_comm 1 d▸h.2.up d)⟩
end
noncomputable def o9(p:Nat×Nat):MV:=.tup [.int p.1,.int p.2]
noncomputable abbrev ck(ps:List (Nat×Nat)):List MV:=ps.map o9
noncomputable def zW(ps:List (Nat×Nat)):Nat:=(ps.map λp=>p.1+p.2).sum
structure Hi(n R:Nat)(ps:List (Nat×Nat)):Prop where
 len:ps.length=n
 le:∀p∈ps,p.1≤R
 sum:zW ps≤n*R+n
 full:zW ps=n*R+n→∀p∈ps,p.1=R∧0<p.2
noncomputable abbrev Hj:List XS:=[bo (aH .Lt (aa cR) (av 3)) (xB [bA (ao (aa cN) dx [(cS [(aL .Mult (aa b7) (ak qb [(av 1),(aa cR)])),(ak vf [(nA (aH .Eq (aa cR) (av 2)) [(dZ (aH .Eq (aa cR) (av 1)) [(aH .Lt (aa Nm.kk) (aL .Sub (aa bJ) (av 1)))])])])])]),
  Ci]) (xB []),
  ay (bE cA) (ak qb [(aa gf),(ak a6 [(aa bW),(aL .Add (aa b7) (av 1))])]),
  ay (bE de) (ak qb [(aL .Sub (aa gf) (aa cA)),(nB (dZ (aH .Eq (aa cR) (av 3)) [(aH .Eq (aa Nm.kk) (av 0))]) (aL .Add (aL .Add (aa b7) (av 1)) (ak a6 [(aa bW),(av 2)])) (ak a6 [(aa bW),(aL .Add (aa b7) (av 2))]))]),
  ay (bE gf) (aL .Sub (aL .Sub (aa gf) (aa cA)) (aa de)),
  bA (ao (aa cN) dx [(cS [(aa cA),(aa de)])])]
noncomputable abbrev fJ(n R left kind:Nat):Loc:=[(bW,.ref .L 0),(bJ,.int n),(b7,.int R),(cN,.ref .L 1),(gf,.int left),(cR,.int kind)]
noncomputable def l7(n R kind k:Nat):Nat×Nat:=(R*min 1 kind,if(decide (kind=2)||(decide (kind=1)&&decide (k+1<n)))=true then 1 else 0)
section
variable{n R left kind k m:Nat}{a b:Int}{ps:List (Nat×Nat)}{ρ:Loc}{d:Nat}
theorem w8{p:Nat×Nat}:ck ps++[o9 p]=ck (ps++[p]):=by
 show ps.map o9++_=(ps++[p]).map o9
 rw[List.map_append];rfl
theorem zX{x y:Nat}:decide ((x:Int)=(y:Nat))=decide (x=y):=decide_eq_decide.mpr ⟨λz=>Int.ofNat.inj z,λz=>congrArg Int.ofNat z⟩
theorem Hk{k n:Nat}:decide ((k:Int)<(n:Int)-1)=decide (k+1<n):=decide_eq_decide.mpr (Int.lt_sub_right_iff_add_lt.trans Int.ofNat_lt)
theorem zY{v:MV}{vs:List MV}(h:Ev d e ρ (HL a b vs) v (HL a b vs))(l:look cN ρ=some (.ref .L 1))(hl:vs.length≤1000):eu d (bA (ao (aa cN) dx [e])) ρ (HL a b vs) .next ρ (HL a b (vs++[v])):=
 dK (bS (iB (ae l) zV (ag h aj) zV hl) rfl rfl) EA
theorem Bj(hk:kind<3)(c:R≤1000):∀{m k:Nat}{ps:List (Nat×Nat)},k+m=n→ps.length+m≤1000→e9 1 (bE Nm.kk) Hj m (.ny k n) (fJ n R left kind) (HL a b (ck ps)) .next (fJ n R left kind) (HL a b (ck (ps++(List.range' k m).map (l7 n R kind)))):=by
 intro m
 induction m with
 |zero=>exactλ{k ps} e _=>kv (by rw[List.range'_zero,List.map_nil,List.append_nil]) (.stop (.r _ _ (Int.ofNat_le.mpr (Nat.le_of_eq e.symm))))
 |succ m ih=>
  intro k ps e hl
  have go:=ih (k:=k+1) (ps:=ps++[l7 n R kind k]) ((Nat.succ_add_eq_add_succ k m).trans e) (by rw[List.length_append];exact(Nat.succ_add_eq_add_succ ps.length m).symm▸hl)
  rw[List.append_assoc]at go
  have v:Ev 1 (cS [(aL .Mult (aa b7) (ak qb [(av 1),(aa cR)])),(ak vf [(nA (aH .Eq (aa cR) (av 2)) [(dZ (aH .Eq (aa cR) (av 1)) [(aH .Lt (aa Nm.kk) (aL .Sub (aa bJ) (av 1)))])])])]) (fJ n R left kind++[(Nm.kk,.int k)]) (HL a b (ck ps)) (o9 (l7 n R kind k)) (HL a b (ck ps)):=
   ct (ag (a8 (ae rfl) (c6 (congrArg MV.int uS) (dr t8 (ag (ar (i:=(1:Nat))) (ag (ae rfl) aj)) (.min _ _))) (.mul (R:Int) ((min 1 kind:Nat):Int) (by rw[Int.natAbs_natCast];exact Nat.lt_of_le_of_lt (Nat.min_le_left ..) (by decide))))
    (ag (c6 (by
      show MV.int (if(decide ((kind:Int)=(2:Nat))||(decide ((kind:Int)=(1:Nat))&&decide ((k:Int)<(n:Int)-1)))=true then(1:Int)else 0)=MV.int ((l7 n R kind k).2:Nat)
      rw[zX,zX,Hk]
      unfold l7
      split<;>rfl) (dr Dl (ag (En (fS (ae rfl) ar (.eq (.ii (kind:Int) 2))) (wG (fS (ae rfl) ar (.eq (.ii (kind:Int) 1))) (fS (ae rfl) (a8 (ae rfl) ar (.sub _ _)) (.lt (k:Int) ((n:Int)-1))))) aj) (.int _))) aj)) (ble rfl)
  have st:=zY (e:=_) v rfl (by rw[List.length_map];exact Nat.le_trans (Nat.le_add_right ..) hl)
  rw[w8]at st
  exact .cont (.r _ _ (Int.ofNat_lt.mpr (e▸Nat.lt_add_of_pos_right (Nat.succ_pos m)))) aA (cV (ρ':=fJ n R left kind) (r:=[(Nm.kk,.int k)]) (az (cF (aD (ae rfl) ar (decide_eq_true (Int.ofNat_lt.mpr hk)▸eR.lt (kind:Int) (3:Nat))) (af st (az FA rfl))) rfl)) go
theorem p1{x y:Nat}(h:y≤x):(x:Int)-(y:Int)=((x-y:Nat):Int):=(Int.ofNat_sub h).symm
theorem Hl(hk:3≤kind)(A:R≤900):∀{m k left:Nat}{a b:Int}{ps:List (Nat×Nat)},k+m=n→ps.length+m≤1000→∃(a' b':Int)(c:Nat)(us:List (Nat×Nat)),e9 1 (bE Nm.kk) Hj m (.ny k n) (fJ n R left kind) (HL a b (ck ps)) .next (fJ n R c kind) (HL a' b' (ck (ps++us)))∧us.length=m∧(∀p∈us,p.1≤R)∧zW us+c=left:=by
 intro m
 induction m with
 |zero=>exactλ{k left a b ps} e _=>⟨a,b,left,[],kv (by rw[List.append_nil]) (.stop (.r _ _ (Int.ofNat_le.mpr (Nat.le_of_eq e.symm)))),rfl,nofun,Nat.zero_add _⟩
 |succ m ih=>
  intro k left a b ps e hl
  obtain⟨v,g,b1,I,o⟩:=uT (a:=a) (b:=b) (vs:=ck ps) (m:=R+1) (ρ:=fJ n R left kind++[(Nm.kk,.int k)]) 0 (e:=aL .Add (aa b7) (av 1)) (Nat.succ_pos R) (Nat.le_trans (Nat.succ_le_succ A) (by decide)) rfl
  have o:=o (a8 (ae rfl) ar (.add _ _))
  have h:min left v≤left:=Nat.min_le_left ..
  have H:eu 1 (ay (bE cA) (ak qb [(aa gf),(ak a6 [(aa bW),(aL .Add (aa b7) (av 1))])])) (fJ n R left kind++[(Nm.kk,.int k)]) (HL a b (ck ps)) .next (fJ n R left kind++[(Nm.kk,.int k),(cA,.int (min left v:Nat))]) (HL g b1 (ck ps)):=
   aG rfl (c6 (congrArg MV.int uS) (dr t8 (ag (ae rfl) (ag o aj)) (.min _ _))) aA
  have l:∃(x:Nat)(f b2:Int),Ev 1 (nB (dZ (aH .Eq (aa cR) (av 3)) [(aH .Eq (aa Nm.kk) (av 0))]) (aL .Add (aL .Add (aa b7) (av 1)) (ak a6 [(aa bW),(av 2)])) (ak a6 [(aa bW),(aL .Add (aa b7) (av 2))])) (fJ n R left kind++[(Nm.kk,.int k),(cA,.int (min left v:Nat))]) (HL g b1 (ck ps)) (.int x) (HL f b2 (ck ps)):=by
   have q:ik 1 (aH .Eq (aa cR) (av 3)) (fJ n R left kind++[(Nm.kk,.int k),(cA,.int (min left v:Nat))]) (HL g b1 (ck ps)) (decide ((kind:Int)=3)) (HL g b1 (ck ps)):=aD (ae rfl) ar (.eq (.ii _ _))
   have B:ik 1 (aH .Eq (aa Nm.kk) (av 0)) (fJ n R left kind++[(Nm.kk,.int k),(cA,.int (min left v:Nat))]) (HL g b1 (ck ps)) (decide ((k:Int)=0)) (HL g b1 (ck ps)):=aD (ae rfl) ar (.eq (.ii _ _))
   obtain⟨u,f,b2,N,M⟩:=uT (a:=g) (b:=b1) (vs:=ck ps) (m:=2) (ρ:=fJ n R left kind++[(Nm.kk,.int k),(cA,.int (min left v:Nat))]) 0 (e:=av 2) (by decide) (by decide) rfl
   obtain⟨s,E,C,J,i⟩:=uT (a:=g) (b:=b1) (vs:=ck ps) (m:=R+2) (ρ:=fJ n R left kind++[(Nm.kk,.int k),(cA,.int (min left v:Nat))]) 0 (e:=aL .Add (aa b7) (av 2)) (Nat.succ_pos _) (Nat.le_trans (Nat.add_le_add_right A 2) (by decide)) rfl
   have i:=i (a8 (ae rfl) ar (.add _ _))
   cases j:decide ((kind:Int)=3)with
   |false=>exact⟨s,E,C,hW (cy (b3 (j▸q))) i⟩
   |true=>
    cases w:decide ((k:Int)=0)with
    |false=>exact⟨s,E,C,hW (cy (b_ (j▸q) (b3 (w▸B)))) i⟩
    |true=>exact⟨R+1+u,f,b2,hV (cy (b_ (j▸q) (b_ (w▸B) eS))) (a8 (a8 (ae rfl) ar (.add (R:Int) 1)) (M ar) (.add ((R:Int)+1) u))⟩
  obtain⟨x,f,b2,l⟩:=l
  have y:min (left-min left v) x≤left-min left v:=Nat.min_le_left ..
  have G:eu 1 (ay (bE de) (ak qb [(aL .Sub (aa gf) (aa cA)),(nB (dZ (aH .Eq (aa cR) (av 3)) [(aH .Eq (aa Nm.kk) (av 0))]) (aL .Add (aL .Add (aa b7) (av 1)) (ak a6 [(aa bW),(av 2)])) (ak a6 [(aa bW),(aL .Add (aa b7) (av 2))]))])) (fJ n R left kind++[(Nm.kk,.int k),(cA,.int (min left v:Nat))]) (HL g b1 (ck ps)) .next (fJ n R left kind++[(Nm.kk,.int k),(cA,.int (min left v:Nat)),(de,.int (min (left-min left v) x:Nat))]) (HL f b2 (ck ps)):=
   aG rfl (c6 (congrArg MV.int uS) (dr t8 (ag (c6 (congrArg MV.int (p1 h)) (a8 (ae rfl) (ae rfl) (.sub _ _))) (ag l aj)) (.min _ _))) aA
  have F:eu 1 (ay (bE gf) (aL .Sub (aL .Sub (aa gf) (aa cA)) (aa de))) (fJ n R left kind++[(Nm.kk,.int k),(cA,.int (min left v:Nat)),(de,.int (min (left-min left v) x:Nat))]) (HL f b2 (ck ps)) .next (fJ n R (left-min left v-min (left-min left v) x) kind++[(Nm.kk,.int k),(cA,.int (min left v:Nat)),(de,.int (min (left-min left v) x:Nat))]) (HL f b2 (ck ps)):=
   aG rfl (c6 (congrArg MV.int (p1 y)) (a8 (c6 (congrArg MV.int (p1 h)) (a8 (ae rfl) (ae rfl) (.sub _ _))) (ae rfl) (.sub _ _))) aA
  have t:=zY (d:=1) (a:=f) (b:=b2) (ρ:=fJ n R (left-min left v-min (left-min left v) x) kind++[(Nm.kk,.int k),(cA,.int (min left v:Nat)),(de,.int (min (left-min left v) x:Nat))]) (vs:=ck ps) (e:=cS [(aa cA),(aa de)]) (ct (ag (ae rfl) (ag (ae rfl) aj)) (ble rfl)) rfl (by rw[List.length_map];exact Nat.le_trans (Nat.le_add_right ..) hl)
  rw[show ck ps++[.tup [.int (min left v:Nat),.int (min (left-min left v) x:Nat)]]=ck (ps++[(min left v,min (left-min left v) x)])from w8 (p:=(min left v,min (left-min left v) x))]at t
  obtain⟨a',b',c,us,D,L,h2,K⟩:=ih (k:=k+1) (left:=left-min left v-min (left-min left v) x) (a:=f) (b:=b2) (ps:=ps++[(min left v,min (left-min left v) x)]) ((Nat.succ_add_eq_add_succ k m).trans e) (by rw[List.length_append];exact(Nat.succ_add_eq_add_succ ps.length m).symm▸hl)
  rw[List.append_assoc]at D
  refine⟨a',b',c,_,.step (.r _ _ (Int.ofNat_lt.mpr (e▸Nat.lt_add_of_pos_right (Nat.succ_pos m)))) aA (cV (ρ':=fJ n R (left-min left v-min (left-min left v) x) kind) (r:=[(Nm.kk,.int k),(cA,.int (min left v:Nat)),(de,.int (min (left-min left v) x:Nat))]) (af (aU (aD (ae rfl) ar (decide_eq_false (λz=>Nat.not_le_of_lt (Int.ofNat_lt.mp z) hk)▸eR.lt (kind:Int) (3:Nat))) aw) (af H (af G (af F (af t aw)))))) D,congrArg Nat.succ L,λp hp=>(List.mem_cons.mp hp).elim (λz=>z▸Nat.le_trans (Nat.min_le_right ..) (Nat.le_of_lt_succ I)) (h2 p),?_⟩
  show min left v+min (left-min left v) x+zW us+c=left
  rw[Nat.add_assoc,K,Nat.add_assoc,Nat.add_sub_cancel' y,Nat.add_sub_cancel' h]
end
theorem yG{n c:Nat}{f:Nat→Nat}(h:∀j,j<n→f j≤c)(e:sumTo n f=n*c):∀j,j<n→f j=c:=by
 induction n with
 |zero=>exactλj g=>absurd g (Nat.not_lt_zero j)
 |succ n ih=>
  rw[c5,Nat.succ_mul]at e
  have a:sumTo n f≤n*c:=fj (n:=n) (a:=c)▸eF λj g=>h j (Nat.lt_succ_of_lt g)
  have b:=h n (Nat.lt_succ_self n)
  have i:sumTo n f=n*c:=Nat.le_antisymm a (Nat.le_of_add_le_add_right (Nat.le_trans (Nat.le_of_eq e.symm) (Nat.add_le_add_left b _)))
  have l:f n=c:=Nat.add_left_cancel (i▸e)
  exactλj g=>(Nat.lt_or_eq_of_le (Nat.le_of_lt_succ g)).elim (ih (λj g=>h j (Nat.lt_succ_of_lt g)) i j) λz=>z▸l
section
variable{n R left kind k m:Nat}{a b:Int}{ps:List (Nat×Nat)}{ρ:Loc}{d:Nat}
theorem p2:(l7 n R kind k).1≤R∧(l7 n R kind k).2≤1:=⟨Nat.le_trans (Nat.mul_le_mul_left R (Nat.min_le_left ..)) (Nat.le_of_eq (Nat.mul_one R)),by unfold l7;split<;>first|exact Nat.le_refl 1|exact Nat.zero_le 1⟩
theorem yH:Hi n R ((List.range n).map (l7 n R kind)):=by
 have t:zW ((List.range n).map (l7 n R kind))=sumTo n λk=>(l7 n R kind k).1+(l7 n R kind k).2:=congrArg List.sum (List.map_map ..)
 have le:∀j,j<n→(l7 n R kind j).1+(l7 n R kind j).2≤R+1:=λj _=>Nat.add_le_add p2.1 p2.2
 refine⟨bZ,λp hp=>(List.mem_map.mp hp).elim λk z=>z.2▸p2.1,?_,λe p hp=>?_⟩
 ·rw[t,←Nat.mul_succ]
  exact Nat.le_trans (eF le) (Nat.le_of_eq fj)
 ·rw[t,←Nat.mul_succ]at e
  obtain⟨k,hk,rfl⟩:=List.mem_map.mp hp
  have z:=yG le e k (List.mem_range.mp hk)
  have a:=p2 (n:=n) (R:=R) (kind:=kind) (k:=k)
  have c:(l7 n R kind k).1=R:=Nat.le_antisymm a.1 (Nat.le_of_add_le_add_right (Nat.le_trans (Nat.le_of_eq z.symm) (Nat.add_le_add_left a.2 _)))
  exact⟨c,Nat.lt_of_succ_le (Nat.le_of_eq (Nat.add_left_cancel (c▸z)).symm)⟩
theorem KC(h2:2≤n)(t:n≤5)(s:R≤10):∃(a' b':Int)(ps:List (Nat×Nat)),Fn 2 817 [.ref .L 0,.int n,.int R] (HB a b) (.ref .L 1) (HL a' b' (ck ps))∧Hi n R ps:=by
 have o:1≤n*R+n:=Nat.le_trans (Nat.le_trans (by decide) h2) (Nat.le_add_left n _)
 have B:∀{ρ:Loc}{H:Hp},look bJ ρ=some (.int n)→look b7 ρ=some (.int R)→Ev 1 (aL .Sub (aL .Add (aL .Mult (aa bJ) (aa b7)) (aa bJ)) (av 1)) ρ H (.int (n*R+n-1:Nat)) H:=λw E=>
  c6 (congrArg MV.int (p1 o)) (a8 (a8 (a8 (ae w) (ae E) (.mul (n:Int) (R:Int) (by rw[Int.natAbs_natCast];exact Nat.lt_of_le_of_lt s (by decide)))) (ae w) (.add _ _)) ar (.sub _ _))
 obtain⟨kind,g,b1,hk,f⟩:=draw (H:=HB a b) (k:=0) (m:=6) (Hp.dN (H:=BC)) (by decide) (by decide)
 rw[yF]at f
 have s0:eu 1 (se [cR,gf,cN] [(ak a6 [(aa bW),(av 6)]),(aL .Sub (aL .Add (aL .Mult (aa bJ) (aa b7)) (aa bJ)) (av 1)),(cI [])]) [(bW,.ref .L 0),(bJ,.int n),(b7,.int R)] (HB a b) .next (fJ n R (n*R+n-1) kind) (HL g b1 (ck [])):=
  tP (ag (dt dJ (ag (ae rfl) (ag ar aj)) f) (ag (B rfl rfl) (ag (kr aj (ble rfl)) aj))) (ble rfl) rfl
 have v:∀{a b:Int}{left:Nat}{ps},ik 1 (aH .Gt (aa cR) (av 2)) (fJ n R left kind) (HL a b (ck ps)) (decide ((2:Int)<kind)) (HL a b (ck ps)):=aD (ae rfl) ar (.gt _ _)
 have rg:∀{left:Nat}{a b:Int}{us:List MV},e9 1 (bE Nm.kk) Hj n (.ny 0 n) (fJ n R (n*R+n-1) kind) (HL g b1 (ck [])) .next (fJ n R left kind) (HL a b us)→eu 1 (g6 (bE Nm.kk) (ak eZ [(aa bJ)]) (xB Hj)) (fJ n R (n*R+n-1) kind) (HL g b1 (ck [])) .next (fJ n R left kind) (HL a b us):=λ{left a b us} D=>dQ (eI eC (ag (ae rfl) aj) (by rw[Int.natAbs_natCast];exact Nat.lt_of_le_of_lt t (by decide))) rfl D
 rcases Nat.lt_or_ge kind 3 with z|z
 ·have D:=Bj (n:=n) (R:=R) (left:=n*R+n-1) (a:=g) (b:=b1) z (Nat.le_trans s (by decide)) (m:=n) (k:=0) (ps:=[]) (Nat.zero_add n) (by rw[List.length_nil,Nat.zero_add];exact Nat.le_trans t (by decide))
  rw[←List.range_eq_range']at D
  exact⟨g,b1,_,aJ j' rfl (af s0 (af (rg D) (af (aU (cy (b3 (decide_eq_false (λy=>Nat.not_le_of_lt z (Int.ofNat_lt.mp y))▸v))) aw) (az (aY (ae rfl)) rfl)))) rfl,yH⟩
 ·obtain⟨c,b2,left,us,D,i,hle,A⟩:=Hl (n:=n) (R:=R) (left:=n*R+n-1) (a:=g) (b:=b1) z (Nat.le_trans s (by decide)) (m:=n) (k:=0) (ps:=[]) (Nat.zero_add n) (by rw[List.length_nil,Nat.zero_add];exact Nat.le_trans t (by decide))
  rw[List.nil_append]at D
  have x:decide ((2:Int)<kind)=true:=decide_eq_true (Int.ofNat_lt.mpr z)
  have C:ik 1 (aH .Eq (aa gf) (aL .Sub (aL .Add (aL .Mult (aa bJ) (aa b7)) (aa bJ)) (av 1))) (fJ n R left kind) (HL c b2 (ck us)) (decide (left=n*R+n-1)) (HL c b2 (ck us)):=aD (ae rfl) (B rfl rfl) (p0 rfl)
  have lt:zW us<n*R+n:=Nat.lt_of_le_of_lt (Nat.le_trans (Nat.le_add_right _ left) (Nat.le_of_eq A)) (Nat.sub_lt o (by decide))
  cases q:decide (left=n*R+n-1)with
  |false=>exact⟨c,b2,us,aJ j' rfl (af s0 (af (rg D) (af (aU (cy (b_ (x▸v) (b3 (q▸C)))) aw) (az (aY (ae rfl)) rfl)))) rfl,i,hle,Nat.le_of_lt lt,λe=>absurd e (Nat.ne_of_lt lt)⟩
  |true=>
   have st:eu 1 (ay (pg (aa cN) (av 0)) (cS [(av 0),(av 1)])) (fJ n R left kind) (HL c b2 (ck us)) .next (fJ n R left kind) (HL c b2 (ck (us.set 0 (0,1)))):=
    dK (aG rfl (ct (ag ar (ag ar aj)) (ble rfl)) (gY (ae rfl) ar (.l (j:=0) (o9 (0,1)) zV (by rw[List.length_map,i];exact Nat.lt_of_lt_of_le (by decide) h2) (by decide)))) (EA.trans (congrArg (HL c b2) List.map_set.symm))
   refine⟨c,b2,us.set 0 (0,1),aJ j' rfl (af s0 (af (rg D) (af (cF (cy (b_ (x▸v) (b_ (q▸C) eS))) (af st aw)) (az (aY (ae rfl)) rfl)))) rfl,?_⟩
   have t0:zW us=0:=Nat.add_right_cancel (A.trans ((of_decide_eq_true q).symm.trans (Nat.zero_add left).symm))
   cases us with
   |nil=>exact absurd i (Nat.ne_of_lt (Nat.lt_of_lt_of_le (by decide) h2))
   |cons p r=>
    have tr:zW r=0:=Nat.eq_zero_of_le_zero (Nat.le_trans (Nat.le_add_left _ _) (Nat.le_of_eq t0))
    have h:zW ((0,1)::r)=1:=(congrArg (0+1+ ·) tr)
    exact⟨i,λu F=>(List.mem_cons.mp F).elim (λz=>z▸Nat.zero_le _) λz=>hle u (.tail _ z),h.symm▸o,λe=>absurd (h.symm.trans e) (Nat.ne_of_lt (Nat.lt_of_lt_of_le h2 (Nat.le_add_left n _)))⟩
end
noncomputable def dR(q:List UInt8×List UInt8):MV:=.tup [.bytes q.1,.bytes q.2]
noncomputable def HM(a b:Int)(vs us:List MV):Hp:=(HL a b vs).new .L (.list us)
abbrev Laid:=List (List UInt8×List UInt8)
noncomputable def pF(ld:Laid):List (Nat×Nat):=ld.map λq=>(q.1.length,q.2.length)
noncomputable abbrev NH:List XS:=[ay (bE bl) (ak iT [(eb (bE Nm.kk) [Nm.kk] (ak eZ [(aL .Add (aa cA) (aa de))]) [] (aL .Add (aa cO) (aa Nm.kk)))]),
  bA (ao (aa cN) dx [(cS [(Jb (aa bl) (aa cA)),(qr (aa bl) (aa cA))])]),
  ay (bE cO) (aL .Add (aL .Add (aa cO) (aa cA)) (aa de))]
noncomputable abbrev rO(fresh:Nat):Loc:=[(BO,.ref .L 1),(cN,.ref .L 2),(cO,.int fresh)]
section
variable{a b a' b':Int}{vs us ws:List MV}{n R k m x fresh:Nat}{ps:List (Nat×Nat)}{ld:Laid}
theorem EB:(HM a b vs us).o .L 1=.list vs:=(Hp.eh (H:=HL a b vs) λz=>absurd z.2 (show¬(1:Nat)=2 by decide)).trans zV
theorem IC:(HM a b vs us).o .L 2=.list us:=Hp.dN (H:=HL a b vs)
theorem KD:(HM a b vs us).set .L 2 (.list ws)=HM a b vs ws:=Hp.jf (H:=HL a b vs)
noncomputable def ji(fresh m:Nat):List UInt8:=(List.range m).map λk=>UInt8.ofNat (fresh+k)
theorem KG(h:fresh+m≤256):(ji fresh m).map lB=(List.range m).map λk:Nat=>.int ((fresh:Int)+(k:Int)):=by
 unfold ji
 rw[List.map_map]
 refine List.map_congr_left λk hk=>congrArg MV.int ?_
 exact congrArg Int.ofNat (UInt8.toNat_ofNat_of_lt (Nat.lt_of_lt_of_le (Nat.add_lt_add_left (List.mem_range.mp hk) fresh) h))
theorem EC{all:List (Nat×Nat)}:∀{ps pre:List (Nat×Nat)}{ld:Laid}{fresh:Nat},all=pre++ps→fresh+zW ps≤256→ld.length+ps.length≤1000→∃(us:Laid)(h:Nat),e9 0 (et ([cA,de].map bE)) NH ps.length (.lst 1 pre.length) (rO fresh) (HM a b (ck all) (ld.map dR)) .next (rO h) (HM a b (ck all) ((ld++us).map dR))∧pF us=ps:=by
 intro ps
 induction ps with
 |nil=>exactλ{pre ld fresh} e _ _=>⟨[],fresh,kv (by rw[List.append_nil]) (.stop (.l EB (by rw[e,List.append_nil];exact List.getElem?_eq_none (Nat.le_of_eq (List.length_map _))))),rfl⟩
 |cons p ps ih=>
  intro pre ld fresh e hf hl
  have hf:fresh+(p.1+p.2)+zW ps≤256:=(Nat.add_assoc ..).symm▸hf
  have i:fresh+(p.1+p.2)≤256:=Nat.le_trans (Nat.le_add_right _ _) hf
  have c:p.1+p.2≤1000:=Nat.le_trans (Nat.le_add_left _ fresh) (Nat.le_trans i (by decide))
  have ol:(ji fresh (p.1+p.2)).length=p.1+p.2:=bZ
  have at_:(ck all)[pre.length]? =some (o9 p):=by
   show(all.map o9)[pre.length]? =_
   rw[e,List.getElem?_map,List.getElem?_append_right (Nat.le_refl _),Nat.sub_self];rfl
  have cp:=iL (d:=0) (t:=bE Nm.kk) (ns:=[Nm.kk]) (e:=aL .Add (aa cO) (aa Nm.kk)) (ρ:=rO fresh++[(cA,.int p.1),(de,.int p.2)]) (H:=HM a b (ck all) (ld.map dR)) (f:=λk:Nat=>.int k) (g:=λk:Nat=>.int ((fresh:Int)+(k:Int))) (ks:=List.range (p.1+p.2)) (λk hk=>⟨_,gw,a8 (ae rfl) (ae rfl) (.add _ _)⟩) oC
  have q:eu 0 (ay (bE bl) (ak iT [(eb (bE Nm.kk) [Nm.kk] (ak eZ [(aL .Add (aa cA) (aa de))]) [] (aL .Add (aa cO) (aa Nm.kk)))])) (rO fresh++[(cA,.int p.1),(de,.int p.2)]) (HM a b (ck all) (ld.map dR)) .next (rO fresh++[(cA,.int p.1),(de,.int p.2),(bl,.bytes (ji fresh (p.1+p.2)))]) (HM a b (ck all) (ld.map dR)):=
   aG rfl (dr mI (ag (fD (fW rfl rfl) (eI eC (ag (a8 (ae rfl) (ae rfl) (.add (p.1:Int) (p.2:Int))) aj) (by show(((p.1+p.2:Nat):Int)).natAbs<_;rw[Int.natAbs_natCast];exact Nat.lt_of_le_of_lt c (by decide))) rfl cp (by rw[bZ];exact c)) aj) (.CG (.inl (congrArg MV.lst (KG i).symm)) (Nat.le_trans (Nat.le_of_eq ol) c))) aA
  have o:eu 0 (bA (ao (aa cN) dx [(cS [(Jb (aa bl) (aa cA)),(qr (aa bl) (aa cA))])])) (rO fresh++[(cA,.int p.1),(de,.int p.2),(bl,.bytes (ji fresh (p.1+p.2)))]) (HM a b (ck all) (ld.map dR)) .next (rO fresh++[(cA,.int p.1),(de,.int p.2),(bl,.bytes (ji fresh (p.1+p.2)))]) (HM a b (ck all) ((ld++[((ji fresh (p.1+p.2)).take p.1,(ji fresh (p.1+p.2)).drop p.1)]).map dR)):=
   dK (bS (iB (ae rfl) IC (ag (ct (ag (B1 (ae rfl) (ae rfl) (Nat.le_trans (Nat.le_of_eq ol) (Nat.le_trans c (by decide)))) (ag (qs (ae rfl) (ae rfl) (Nat.le_trans (Nat.le_of_eq ol) (Nat.le_trans c (by decide)))) aj)) (ble rfl)) aj) IC (by rw[List.length_map];exact Nat.le_trans (Nat.le_add_right ..) hl)) rfl rfl) (KD.trans (congrArg (HM a b (ck all)) (by rw[List.map_append];rfl)))
  have j:eu 0 (ay (bE cO) (aL .Add (aL .Add (aa cO) (aa cA)) (aa de))) (rO fresh++[(cA,.int p.1),(de,.int p.2),(bl,.bytes (ji fresh (p.1+p.2)))]) (HM a b (ck all) ((ld++[((ji fresh (p.1+p.2)).take p.1,(ji fresh (p.1+p.2)).drop p.1)]).map dR)) .next (rO (fresh+(p.1+p.2))++[(cA,.int p.1),(de,.int p.2),(bl,.bytes (ji fresh (p.1+p.2)))]) (HM a b (ck all) ((ld++[((ji fresh (p.1+p.2)).take p.1,(ji fresh (p.1+p.2)).drop p.1)]).map dR)):=
   aG rfl (c6 (congrArg MV.int (Int.add_assoc ..)) (a8 (a8 (ae rfl) (ae rfl) (.add (fresh:Int) (p.1:Int))) (ae rfl) (.add _ (p.2:Int)))) aA
  obtain⟨us,h,D,s⟩:=ih (pre:=pre++[p]) (ld:=ld++[((ji fresh (p.1+p.2)).take p.1,(ji fresh (p.1+p.2)).drop p.1)]) (fresh:=fresh+(p.1+p.2)) (by rw[List.append_assoc];exact e) hf (by rw[List.length_append];exact(Nat.succ_add_eq_add_succ ld.length ps.length).symm▸hl)
  rw[List.append_assoc,List.length_append]at D
  refine⟨_,h,.step (.l EB at_) (eL (bw aA (bw aA dA)) rfl) (cV (ρ':=rO (fresh+(p.1+p.2))) (r:=[(cA,.int p.1),(de,.int p.2),(bl,.bytes (ji fresh (p.1+p.2)))]) (af q (af o (af j aw)))) D,?_⟩
  show(((ji fresh (p.1+p.2)).take p.1).length,((ji fresh (p.1+p.2)).drop p.1).length)::pF us=p::ps
  rw[s,List.length_take,List.length_drop,ol,Nat.min_eq_left (Nat.le_add_right ..),Nat.add_sub_cancel_left]
theorem Hm(hf:zW ps≤255)(hl:ps.length≤1000):∃ld:Laid,Fn 1 822 [.ref .L 1] (HL a b (ck ps)) (.ref .L 2) (HM a b (ck ps) (ld.map dR))∧pF ld=ps:=
 (EC (a:=a) (b:=b) (all:=ps) (pre:=[]) (ld:=[]) (fresh:=1) rfl (by rw[Nat.add_comm];exact Nat.succ_le_succ hf) (by rw[List.length_nil,Nat.zero_add];exact hl)).elim λus h=>h.elim λc h=>
  ⟨us,aJ uy rfl (af (aG rfl (ct (ag (kr aj (ble rfl)) (ag ar aj)) (ble rfl)) (eL (bw aA (bw aA dA)) rfl)) (af (dQ (eM (ae rfl) (.l EB)) rfl h.1) (az (aY (ae rfl)) rfl))) rfl,h.2⟩
end
noncomputable def bk(n i:Nat):Nat→Nat
 |0=>i
 |m+1=>bN n (bk n i m)
noncomputable def cX(o:Nat→List UInt8)(n i:Nat):Nat→List UInt8
 |0=>[]
 |m+1=>cX o n i m++o (bk n i (m+1))
noncomputable def Laid.at(ld:Laid)(j:Nat):List UInt8×List UInt8:=ld.getD j ([],[])
noncomputable def Laid.o(ld:Laid)(j:Nat):List UInt8:=(Laid.at ld j).1++(Laid.at ld j).2
section
variable{n i m k:Nat}{o:Nat→List UInt8}{H:Hp}{ld:Laid}{v:MV}{ρ:Loc}{d:Nat}
theorem ID(hi:i<n):bk n i m<n:=by
 induction m with
 |zero=>exact hi
 |succ m ih=>exact dw ih
theorem KH(hi:i<n):((i:Int)-(m:Nat))%(n:Int)=(bk n i m:Nat):=by
 induction m with
 |zero=>
  rw[Int.natCast_zero,Int.sub_zero]
  exact Int.emod_eq_of_lt (Int.natCast_nonneg _) (Int.ofNat_lt.mpr hi)
 |succ m ih=>
  rw[Int.natCast_succ,←Int.sub_sub,←Int.emod_sub_emod,ih]
  exact pW (ID hi)
theorem Mo(h:m≤i):bk n i m=i-m:=by
 induction m with
 |zero=>rfl
 |succ m ih=>
  show bN n (bk n i m)=_
  rw[ih (Nat.le_of_succ_le h)]
  have p:0<i-m:=Nat.sub_pos_of_lt h
  unfold bN
  rw[if_neg (Nat.ne_of_gt p)];rfl
theorem IE(hi:i<n)(h:m<n-i):bk n i (i+1+m)=n-1-m:=by
 induction m with
 |zero=>
  show bN n (bk n i i)=_
  rw[Mo (Nat.le_refl i),Nat.sub_self];rfl
 |succ m ih=>
  show bN n (bk n i (i+1+m))=_
  rw[ih (Nat.lt_of_succ_lt h)]
  have p:0<n-1-m:=Nat.sub_pos_of_lt (Nat.lt_sub_of_add_lt (Nat.lt_of_lt_of_le h (Nat.sub_le n i)))
  unfold bN
  rw[if_neg (Nat.ne_of_gt p)];rfl
theorem NI(hi:i<n):bk n i n=i:=by
 have e:n=i+1+(n-1-i):=by rw[Nat.add_assoc,←Nat.add_sub_assoc (Nat.le_sub_one_of_lt hi),Nat.add_comm 1,Nat.sub_add_cancel (Nat.lt_of_le_of_lt (Nat.zero_le i) hi),Nat.add_sub_cancel' (Nat.le_of_lt hi)]
 have lt:n-1-i<n-i:=Nat.sub_lt_sub_right (Nat.le_sub_one_of_lt hi) (Nat.sub_lt (Nat.lt_of_le_of_lt (Nat.zero_le i) hi) (by decide))
 have b:=IE hi lt
 rw[←e,Nat.sub_sub_self (Nat.le_sub_one_of_lt hi)]at b
 exact b
theorem IF(hi:i<n):bk n (nx n i) (m+1)=bk n i m:=by
 induction m with
 |zero=>exact l3 hi
 |succ m ih=>exact congrArg (bN n) ih
theorem Hn(hi:i<n):cX o n (nx n i) (m+1)=o i++cX o n i m:=by
 induction m with
 |zero=>
  show[]++o (bk n (nx n i) 1)=o i++[]
  rw[IF hi,List.append_nil];rfl
 |succ m ih=>
  show cX o n (nx n i) (m+1)++o (bk n (nx n i) (m+2))=o i++(cX o n i m++o (bk n i (m+1)))
  rw[ih,IF hi,List.append_assoc]
theorem w9(hi:i<n):∃T,cX o n (nx n i) n=o i++T∧cX o n i n=T++o i:=by
 cases n with
 |zero=>exact absurd hi (Nat.not_lt_zero i)
 |succ n=>exact⟨cX o (n+1) i n,Hn hi,congrArg (λj=>cX o (n+1) i n++o j) (NI hi)⟩
theorem Ho{x y:List UInt8}:(x++y)[(x.length+k)%(x++y).length]? =(y++x)[k%(y++x).length]? :=by
 rw[List.length_append,List.length_append,Nat.add_comm y.length]
 rcases Nat.eq_zero_or_pos (x.length+y.length)with z|z
 ·have a:x=[]:=List.length_eq_zero_iff.mp (Nat.eq_zero_of_add_eq_zero_right z)
  have b:y=[]:=List.length_eq_zero_iff.mp (Nat.eq_zero_of_add_eq_zero_left z)
  rw[a,b];rfl
 ·have hk:k%(x.length+y.length)<x.length+y.length:=Nat.mod_lt _ z
  rw[←Nat.add_mod_mod]
  generalize k%(x.length+y.length)=r at hk
  rcases Nat.lt_or_ge r y.length with a|a
  ·rw[Nat.mod_eq_of_lt (Nat.add_lt_add_left a _),List.getElem?_append_right (Nat.le_add_right ..),Nat.add_sub_cancel_left,List.getElem?_append_left a]
  ·obtain⟨t,rfl⟩:=Nat.le.dest a
   have ht:t<x.length:=Nat.lt_of_add_lt_add_left (Nat.add_comm x.length y.length▸hk)
   rw[←Nat.add_assoc,Nat.add_mod_left,Nat.mod_eq_of_lt (Nat.lt_of_lt_of_le ht (Nat.le_add_right ..)),List.getElem?_append_left ht,List.getElem?_append_right (Nat.le_add_right ..),Nat.add_sub_cancel_left]
theorem ED(h:m≤n)(a:0<n):(cX o n 0 m).length+sumTo (n-m) (λj=>(o j).length)=sumTo n λj=>(o j).length:=by
 induction m with
 |zero=>exact Nat.zero_add _
 |succ m ih=>
  have b:bk n 0 (0+1+m)=n-1-m:=IE a h
  rw[Nat.add_comm]at b
  have e:n-m=n-(m+1)+1:=sub_one h
  have go:=ih (Nat.le_of_succ_le h)
  rw[e,c5]at go
  rw[←go]
  show(cX o n 0 m++o (bk n 0 (m+1))).length+_=_
  rw[show bk n 0 (m+1)=n-(m+1)from b.trans ((Nat.sub_sub n 1 m).trans (by rw[Nat.add_comm 1 m])),List.length_append,Nat.add_assoc,Nat.add_comm (o _).length]
theorem zZ(a:∀j,(o j).length≤100):(cX o n i m).length≤m*100:=by
 induction m with
 |zero=>exact Nat.zero_le _
 |succ m ih=>
  show(cX o n i m++_).length≤_
  rw[List.length_append,Nat.succ_mul]
  exact Nat.add_le_add ih (a _)
noncomputable abbrev NJ:List XS:=[ay (bE d2) (aL .Add (aL .Add (aa d2) (aI (aI (aa cc) (aL .Mod (aL .Sub (aa cP) (aa g')) (ak cn [(aa cc)]))) (av 0))) (aI (aI (aa cc) (aL .Mod (aL .Sub (aa cP) (aa g')) (ak cn [(aa cc)]))) (av 1)))]
theorem Hq(hl:ld.length=n)(hi:i<n):(ld.map dR)[i]? =some (dR (Laid.at ld i)):=by
 have h:i<ld.length:=hl.symm▸hi
 rw[List.getElem?_map,List.getElem?_eq_getElem h]
 show some (dR _)=some (dR (ld.getD i ([],[])))
 rw[List.getD_eq_getElem?_getD,List.getElem?_eq_getElem h];rfl
theorem kD{e e':XE}(b:H.o .L 2=.list (ld.map dR))(hl:ld.length=n)(a:n≤1000)(hi:i<n)(h:Ev d e ρ H (.ref .L 2) H)(h':Ev d e' ρ H (.int i) H):Ev d (aI e e') ρ H (dR (Laid.at ld i)) H:=
 aW h h' (.l (.inr ⟨2,rfl,b⟩) (cx (Hq hl hi) (Nat.lt_of_lt_of_le hi (Nat.le_trans a (by decide)))))
theorem jj{e:XE}(b:H.o .L 2=.list (ld.map dR))(hl:ld.length=n)(a:n≤1000)(h:Ev d e ρ H (.ref .L 2) H):Ev d (ak cn [e]) ρ H (.int n) H:=c6 (by rw[List.length_map,hl]) (dr eB (ag h aj) (.qE (.inr ⟨2,rfl,b⟩) (by rw[List.length_map,hl];exact Nat.le_trans a (by decide))))
theorem EE(f:H.o .L 2=.list (ld.map dR))(hl:ld.length=n)(a:n≤5)(hi:i<n)(c:∀j,(Laid.o ld j).length≤100):∀{m k:Nat},k+m=n→e9 0 (bE g') NJ m (.ny (k+1:Nat) (n+1:Nat)) [(cc,.ref .L 2),(cP,.int i),(d2,.bytes (cX (Laid.o ld) n i k))] H .next [(cc,.ref .L 2),(cP,.int i),(d2,.bytes (cX (Laid.o ld) n i n))] H:=by
 intro m
 induction m with
 |zero=>exactλ{k} e=>(show k=n from e)▸ .stop (.r _ _ (Int.le_refl _))
 |succ m ih=>
  intro k e
  have b:k<n:=e▸Nat.lt_add_of_pos_right (Nat.succ_pos m)
  have h:∀{x},Ev 0 (aL .Mod (aL .Sub (aa cP) (aa g')) (ak cn [(aa cc)])) [(cc,.ref .L 2),(cP,.int i),(d2,x),(g',.int (k+1:Nat))] H (.int (bk n i (k+1):Nat)) H:=λ{x}=>
   c6 (congrArg MV.int (KH hi)) (a8 (a8 (ae rfl) (ae rfl) (.sub _ _)) (jj f hl (Nat.le_trans a (by decide)) (ae rfl)) (.mod _ _ (Int.ofNat_lt.mpr (Nat.lt_of_le_of_lt (Nat.zero_le i) hi))))
  have row:=kD (d:=0) (ρ:=[(cc,.ref .L 2),(cP,.int i),(d2,.bytes (cX (Laid.o ld) n i k)),(g',.int (k+1:Nat))]) f hl (Nat.le_trans a (by decide)) (ID hi) (ae (n:=cc) rfl) h
  have b1:(cX (Laid.o ld) n i k).length+(Laid.o ld (bk n i (k+1))).length≤1000:=Nat.le_trans (Nat.add_le_add (Nat.le_trans (zZ c) (Nat.mul_le_mul_right 100 (Nat.le_trans (Nat.le_of_lt b) a))) (c _)) (by decide)
  have b2:(cX (Laid.o ld) n i k).length+(Laid.at ld (bk n i (k+1))).1.length≤1000:=Nat.le_trans (Nat.add_le_add_left (List.length_append (as:=(Laid.at ld (bk n i (k+1))).1)▸Nat.le_add_right _ _:_≤(Laid.o ld (bk n i (k+1))).length) _) b1
  have g:eu 0 (ay (bE d2) (aL .Add (aL .Add (aa d2) (aI (aI (aa cc) (aL .Mod (aL .Sub (aa cP) (aa g')) (ak cn [(aa cc)]))) (av 0))) (aI (aI (aa cc) (aL .Mod (aL .Sub (aa cP) (aa g')) (ak cn [(aa cc)]))) (av 1)))) [(cc,.ref .L 2),(cP,.int i),(d2,.bytes (cX (Laid.o ld) n i k)),(g',.int (k+1:Nat))] H .next [(cc,.ref .L 2),(cP,.int i),(d2,.bytes (cX (Laid.o ld) n i (k+1))),(g',.int (k+1:Nat))] H:=
   aG rfl (c6 (congrArg MV.bytes (List.append_assoc ..)) (a8 (a8 (ae rfl) (aW row ar (.t (cx (j:=0) rfl (by decide)))) (.cat _ _ b2)) (aW row ar (.t (cx (j:=1) rfl (by decide)))) (.cat _ _ (by
    rw[List.length_append,Nat.add_assoc,←List.length_append];exact b1)))) aA
  exact .step (.r _ _ (Int.ofNat_lt.mpr (Nat.succ_lt_succ b))) aA (cV (ρ':=[(cc,.ref .L 2),(cP,.int i),(d2,.bytes (cX (Laid.o ld) n i (k+1)))]) (r:=[(g',.int (k+1:Nat))]) (af g aw)) (ih (k:=k+1) ((Nat.succ_add_eq_add_succ k m).trans e))
theorem KI(b:H.o .L 2=.list (ld.map dR))(hl:ld.length=n)(a:n≤5)(hi:i<n)(c:∀j,(Laid.o ld j).length≤100):Fn 1 829 [.ref .L 2,.int i] H (.bytes (cX (Laid.o ld) n i n)) H:=
 aJ wj rfl (af (aG rfl (gb (bs:=.empty)) aA) (af (dQ (si eC (ag (ar (i:=(0+1:Nat))) (ag (a8 (jj b hl (Nat.le_trans a (by decide)) (ae rfl)) ar (.add (n:Int) 1)) aj)) (by decide) (by show(((n+1:Nat):Int)).natAbs<_;rw[Int.natAbs_natCast];exact Nat.lt_of_le_of_lt (Nat.succ_le_succ a) (by decide))) rfl (EE b hl a hi c (k:=0) (Nat.zero_add n))) (az (aY (ae rfl)) rfl))) rfl
end
theorem Hr{k:Nat}{l:List Nat}(h:k∉l):dput (k:Int) (gm k) (u1 l)=u1 (l++[k]):=by
 induction l with
 |nil=>rfl
 |cons j l ih=>
  show(bif decide ((j:Int)=k)then _ else((j:Int),gm j)::dput (k:Int) (gm k) (u1 l))=u1 (j::l++[k])
  rw[decide_eq_false (p:=(j:Int)=k) λz=>h (Int.ofNat.inj z▸ .head _),ih λz=>h (.tail _ z)]
  rfl
section
variable{H H':Hp}{w:Wd}{k j f:Nat}
theorem Rep.NK(r:Rep H w)(o:∀c,c≠ .L→H'.o c=H.o c)(n:∀c,c≠ .L→H'.n c=H.n c)(nL:H.n .L≤H'.n .L)(oL:∀a,a<H.n .L→((∃k,k<w.nd∧w.dl k=a)∨w.ol=some a∨∃vs,w.X a=some vs)→H'.o .L a=H.o .L a):Rep H' w:=
 have b:∀{c:Cl}{j:Nat}{v:MO},c≠ .L→H.o c j=v→H'.o c j=v:=λ{c j v} h e=>(congrFun (o c h) j).trans e
 {r with
  pc:=b (by decide) r.pc
  pa:=b (by decide) r.pa
  tb:=b (by decide) r.tb
  ft:=b (by decide) r.ft
  P:=λj d=>b (by decide) (r.P j d)
  F:=λj d=>⟨b (by decide) (r.F j d).1,(r.F j d).2⟩
  nf:=(n .aK (by decide)).trans r.nf
  Q:=λj d=>⟨(r.Q j d).1.of (congrFun (o .b8 (by decide)) _) (congrFun (o .B (by decide)) _),Nat.lt_of_lt_of_le (r.Q j d).2 (Nat.le_of_eq (n .B (by decide)).symm)⟩
  nq:=(n .b8 (by decide)).trans r.nq
  D:=λk hk=>have D:=r.D k hk;⟨b (by decide) D.1,(oL _ D.2.2.2.1 (.inl ⟨k,hk,rfl⟩)).trans D.2.1,D.2.2.1,Nat.lt_of_lt_of_le D.2.2.2.1 nL,D.2.2.2.2⟩
  nd:=(n .Descriptors (by decide)).trans r.nd
  ol:=λj h=>have O:=r.ol j h;⟨(oL j O.2.1 (.inr (.inl h))).trans O.1,Nat.lt_of_lt_of_le O.2.1 nL,O.2.2⟩
  pt:=b (by decide) r.pt
  E2:=b (by decide) r.E2
  X:=λa vs h=>have X:=r.X a vs h;⟨(oL a X.2 (.inr (.inr ⟨vs,h⟩))).trans X.1,Nat.lt_of_lt_of_le X.2 nL⟩
  S:=(o .S (by decide)).trans r.S
  ns:=(n .S (by decide)).trans r.ns}
theorem Rep.Hs{v:MO}(r:Rep H w):Rep (H.new .L v) w:=r.NK (λc h=>funext λj=>Hp.eh λz=>h z.1) (λc h=>if_neg h) (Nat.le_succ _) λa b _=>Hp.eh λz=>Nat.ne_of_lt b z.2
theorem Rep.newX{vs:List MV}(r:Rep H w):Rep (H.new .L (.list vs)) {w with X:=upd w.X (H.n .L) (some vs)}:=
 have b:=r.Hs (v:=.list vs)
 {b with
  D:=λk hk=>have D:=b.D k hk;⟨D.1,D.2.1,D.2.2.1,D.2.2.2.1,(aQ (Nat.ne_of_lt (r.D k hk).2.2.2.1)).trans D.2.2.2.2⟩
  ol:=λj h=>have O:=b.ol j h;⟨O.1,O.2.1,(aQ (Nat.ne_of_lt (r.ol j h).2.1)).trans O.2.2.1,O.2.2.2⟩
  X:=λa us q=>(Decidable.em (a=H.n .L)).elim (λe=>by subst e;exact Option.some.inj (aE.symm.trans q)▸⟨Hp.dN,Nat.lt_succ_self _⟩) λe=>b.X a us ((aQ e).symm.trans q)}
theorem Rep.NL(r:Rep H w)(g:w.nq∉w.pt)(hl:w.pt.length<10):Rep ((((H.new .b8 (.inst (Pi.fs ⟨w.nq,w.R,H.n .B,0,0,true,true⟩))).new .B (.dD (List.replicate w.R 0))).set .D 0 (.dy (dput w.nq (gm (H.n .b8)) (u1 w.pt)))).set .cm 0 (.inst (Ka w.R (w.nq+1) 0))) {w with Q:=upd w.Q w.nq ⟨[],true,true⟩,nq:=w.nq+1,rb:=upd w.rb w.nq (H.n .B),pt:=w.pt++[w.nq]}:=by
 rw[r.nq,Hr g]
 have ne:∀{k},k<w.nq→k≠w.nq:=λh=>Nat.ne_of_lt h
 exact{r with
  F:=λj c=>⟨(r.F j c).1,Nat.lt_succ_of_lt (r.F j c).2⟩
  Q:=λj c=>(Nat.lt_or_eq_of_le (Nat.le_of_lt_succ c)).elim (λh=>by
    show PR _ w.R j (upd w.rb w.nq (H.n .B) j) (upd w.Q w.nq ⟨[],true,true⟩ j)∧upd w.rb w.nq (H.n .B) j<_
    rw[aQ (ne h),aQ (ne h)]
    exact⟨(r.Q j h).1.of (Hp.eh λz=>ne h (z.2.trans r.nq)) (Hp.eh λz=>Nat.ne_of_lt (r.Q j h).2 z.2),Nat.lt_succ_of_lt (r.Q j h).2⟩)
   λe=>by
    subst e
    show PR _ w.R w.nq (upd w.rb w.nq (H.n .B) w.nq) (upd w.Q w.nq ⟨[],true,true⟩ w.nq)∧upd w.rb w.nq (H.n .B) w.nq<_
    rw[aE,aE]
    refine⟨⟨0,List.replicate w.R 0,?_,?_,List.length_replicate,Nat.zero_le _,rfl⟩,Nat.lt_succ_self _⟩
    ·exact(congrArg (λk=>(H.new .b8 (.inst (Pi.fs ⟨w.nq,w.R,H.n .B,0,0,true,true⟩))).o .b8 k) r.nq.symm).trans Hp.dN
    ·exact Hp.dN (H:=H.new .b8 (.inst (Pi.fs ⟨w.nq,w.R,H.n .B,0,0,true,true⟩)))
  Qj:=λj k c hk=>by
   have d:∀{j},j<w.nq→w.rb j≠H.n .B:=λh=>Nat.ne_of_lt (r.Q _ h).2
   show upd w.rb w.nq (H.n .B) j=upd w.rb w.nq (H.n .B) k→j=k
   rcases Nat.lt_or_eq_of_le (Nat.le_of_lt_succ c)with a|a<;>rcases Nat.lt_or_eq_of_le (Nat.le_of_lt_succ hk)with b|b
   ·rw[aQ (ne a),aQ (ne b)];exact r.Qj j k a b
   ·rw[aQ (ne a),b,aE];exactλe=>absurd e (d a)
   ·rw[aQ (ne b),a,aE];exactλe=>absurd e.symm (d b)
   ·exactλ_=>a.trans b.symm
  nq:=congrArg Nat.succ r.nq
  pt:=Hp.bQ
  E2:=(Hp.b4 (by intro z;exact nomatch z.1)).trans Hp.bQ
  Lg:=List.length_append▸hl}
theorem Rep.NM(r:Rep H w)(f:Fi)(hp:f.p<w.nq):Rep (H.new .aK (.inst f.fs)) {w with F:=upd w.F w.nf f,nf:=w.nf+1}:=
 {r with
  F:=λj a=>bp (λg:Fi=>(H.new .aK (.inst f.fs)).o .aK j=.inst g.fs∧g.p<w.nq) (λe=>⟨(congrArg (λk=>(H.new .aK (.inst f.fs)).o .aK k) (e.trans r.nf.symm)).trans Hp.dN,hp⟩)
   λe=>have F:=r.F j (Nat.lt_of_le_of_ne (Nat.le_of_lt_succ a) e);⟨(Hp.eh λz=>e (z.2.trans r.nf)).trans F.1,F.2⟩
  nf:=congrArg Nat.succ r.nf
  Q:=λj a=>⟨(r.Q j a).1.of rfl rfl,(r.Q j a).2⟩
  op:=⟨r.op.1,λf hf=>Nat.lt_succ_of_lt (r.op.2 f hf)⟩}
theorem Rep.enter(r:Rep H w)(b:w.ol=some j)(hf:f<w.nf)(hl:w.op.length<10):Rep (H.set .L j (.list (w.op.map bV++[bV f]))) {w with op:=w.op++[f]}:=
 have O:=r.ol j b
 {r with
  ft:=r.ft.trans (congrArg (λv=>MO.inst (Lf w.n v)) (by
   show(match w.ol with
    |some j=>MV.ref .L j
    |none=>.lst (w.op.map bV))=match w.ol with
    |some j=>MV.ref .L j
    |none=>.lst ((w.op++[f]).map bV)
   rw[b]))
  Q:=λj b=>⟨(r.Q j b).1.of rfl rfl,(r.Q j b).2⟩
  D:=λk hk=>have D:=r.D k hk;⟨D.1,(Hp.b4 λz=>O.2.2.2 k hk z.2).trans D.2.1,D.2.2⟩
  ol:=λi h=>by
   cases Option.some.inj (b.symm.trans h)
   exact⟨Hp.bQ.trans (congrArg MO.list (by rw[List.map_append];rfl)),O.2⟩
  op:=⟨List.length_append▸hl,λg c=>(List.mem_append.mp c).elim (r.op.2 g) λz=>List.mem_singleton.mp z▸hf⟩
  X:=λa vs h=>⟨(Hp.b4 λz=>nomatch (show some vs=none from h.symm.trans ((congrArg w.X z.2).trans O.2.2.1))).trans (r.X a vs h).1,(r.X a vs h).2⟩}
theorem Rep.newD(r:Rep H w):Rep ((H.new .Descriptors (.inst (uZ 4 (H.n .L)))).new .L (.list (List.replicate 4 .none))) {w with D:=upd w.D w.nd (List.replicate 4 .none),dl:=upd w.dl w.nd (H.n .L),nd:=w.nd+1}:=
 have c:=r.Hs (v:=.list (List.replicate 4 .none))
 have ne:∀{k},k<w.nd→k≠w.nd:=λh=>Nat.ne_of_lt h
 have lt:∀{k},k<w.nd→w.dl k≠H.n .L:=λh=>Nat.ne_of_lt (r.D _ h).2.2.2.1
 {c with
  Q:=λj d=>⟨(c.Q j d).1.of rfl rfl,(c.Q j d).2⟩
  D:=λk hk=>by
   show((H.new .Descriptors (.inst (uZ 4 (H.n .L)))).new .L (.list (List.replicate 4 .none))).o .Descriptors k=.inst (uZ 4 (upd w.dl w.nd (H.n .L) k))∧((H.new .Descriptors (.inst (uZ 4 (H.n .L)))).new .L (.list (List.replicate 4 .none))).o .L (upd w.dl w.nd (H.n .L) k)=.list (upd w.D w.nd _ k)∧(upd w.D w.nd _ k).length=4∧upd w.dl w.nd (H.n .L) k<_∧w.X (upd w.dl w.nd (H.n .L) k)=none
   by_cases e:k=w.nd
   ·rw[e,aE,aE]
    exact⟨(congrArg (λk=>(H.new .Descriptors (.inst (uZ 4 (H.n .L)))).o .Descriptors k) r.nd.symm).trans Hp.dN,Hp.dN (H:=H.new .Descriptors (.inst (uZ 4 (H.n .L)))),rfl,Nat.lt_succ_self _,by
     cases h:w.X (H.n .L)with
     |none=>rfl
     |some vs=>exact absurd (r.X _ vs h).2 (Nat.lt_irrefl _)⟩
   ·rw[aQ e,aQ e]
    have D:=c.D k (Nat.lt_of_le_of_ne (Nat.le_of_lt_succ hk) e)
    exact⟨(Hp.eh (H:=H) λz=>e (z.2.trans r.nd)).trans D.1,D.2⟩
  Dj:=λj k d hk=>by
   show upd w.dl w.nd (H.n .L) j=upd w.dl w.nd (H.n .L) k→j=k
   rcases Nat.lt_or_eq_of_le (Nat.le_of_lt_succ d)with a|a<;>rcases Nat.lt_or_eq_of_le (Nat.le_of_lt_succ hk)with b|b
   ·rw[aQ (ne a),aQ (ne b)];exact r.Dj j k a b
   ·rw[aQ (ne a),b,aE];exactλe=>absurd e (lt a)
   ·rw[aQ (ne b),a,aE];exactλe=>absurd e.symm (lt b)
   ·exactλ_=>a.trans b.symm
  nd:=congrArg Nat.succ r.nd
  ol:=λj h=>have O:=c.ol j h;⟨O.1,O.2.1,O.2.2.1,λk hk=>bp (λx=>x≠j) (λ_=>Nat.ne_of_gt (r.ol j h).2.1) λe=>O.2.2.2 k (Nat.lt_of_le_of_ne (Nat.le_of_lt_succ hk) e)⟩}
end
def Own(w:Wd)(a:Nat):Prop:=(∃k,k<w.nd∧w.dl k=a)∨w.ol=some a∨∃vs,w.X a=some vs
noncomputable def Wd.yI(w:Wd)(b:Bool)(p:Nat):Wd:={w with F:=upd w.F w.nf ⟨b,1,p⟩,nf:=w.nf+1,op:=w.op++[w.nf]}
noncomputable def Wd.addQ(w:Wd)(g:Nat):Wd:={w with Q:=upd w.Q w.nq ⟨[],true,true⟩,nq:=w.nq+1,rb:=upd w.rb w.nq g,pt:=w.pt++[w.nq]}
noncomputable abbrev NN:List XS:=[ay (bE aN) (ak nK [(eP kZ),(aa cG),(fT (aa cG))]),
  ay (cQ (aa aN) bC) (aa bC),
  bA (ao (aa rZ) dx [(ao (aa ai) xv [(aa aN)])])]
noncomputable abbrev Lj(p e:Nat):Loc:=[(ai,jq),(bC,gm p),(rZ,.ref .L e)]
section
variable{H H':Hp}{w:Wd}{k j f p e:Nat}{vs:List MV}{b:Bool}
theorem Rep.EF(r:Rep H w){D:Nat→List MV}(h:∀k,k<w.nd→D k=w.D k):Rep H {w with D:=D}:=r.wW (w':={w with D:=D}) (λ_ _=>rfl) (λ_ _=>rfl) (λ_ _=>rfl) h rfl rfl rfl
theorem Own.lt(r:Rep H w)(h:Own w k):k<H.n .L:=h.elim (λh=>h.elim λi h=>h.2▸(r.D i h.1).2.2.2.1) λh=>h.elim (λh=>(r.ol k h).2.1) λh=>h.elim λvs h=>(r.X k vs h).2
theorem w_end(r:Rep H w)(g:w.ol=some j)(hp:p<w.nq)(s:w.op.length+1≤2*w.n)(t:H.o .L e=.list vs)(y:e<H.n .L)(no:¬Own w e)(x:vs.length≤1000):∃H',gj 3 NN (Lj p e++[(cG,.bool b)]) H .next (Lj p e++[(cG,.bool b),(aN,bV w.nf)]) H'∧Rep H' (w.yI b p)∧H'.o .L e=.list (vs++[bV w.nf])∧e<H'.n .L:=by
 have i:2*w.n≤10:=Nat.mul_le_mul_left 2 r.n5
 have l:=r.NM ⟨b,1,p⟩ hp
 have m:=(l.ol j g).1
 have v:=l.enter g (f:=w.nf) (Nat.lt_succ_self _) (Nat.lt_of_lt_of_le s i)
 have ne:e≠j:=λz=>no (.inr (.inl (g.trans (congrArg some z.symm))))
 have q:((H.new .aK (.inst (Fi.fs ⟨b,1,p⟩))).set .L j (.list (w.op.map bV++[bV w.nf]))).o .L e=.list vs:=(Hp.b4 λz=>ne z.2).trans t
 have u:Rep (((H.new .aK (.inst (Fi.fs ⟨b,1,p⟩))).set .L j (.list (w.op.map bV++[bV w.nf]))).set .L e (.list (vs++[bV w.nf]))) (w.yI b p):=v.NK (λc h=>funext λj=>Hp.b4 λz=>h z.1) (λc h=>rfl) (Nat.le_refl _) λa A o=>Hp.b4 λz=>no (z.2▸o)
 have nf:H.n .aK=w.nf:=r.nf
 refine⟨_,af (H1:=H.new .aK (.inst [(cR,.str bC),(cG,.bool b),(ee,.bool (!b)),(dq,.int 1),(dO,.int 0),(bC,.none),(qf,.none),(qi,.int 0)])) (ρ1:=Lj p e++[(cG,.bool b),(aN,.ref .aK (H.n .aK))]) (aG rfl (h7 (d:=2) ye (ag (ey kx) (ag (ae rfl) (ag (qu (ae rfl)) aj))) (yo.up 1)) aA)
  (af (cu rfl rfl (ae rfl) rfl (ble rfl)) (nf.symm▸af (bS (iB (ae rfl) (H1:=H.new .aK (.inst (Fi.fs ⟨b,1,p⟩))) t (ag (bU mU rfl (ae rfl) l.ft rfl (ag (ae rfl) aj) ((GB l.ft (show look fv (Lf w.n w.ov)=some (.ref .L j) by unfold Wd.ov;rw[g];rfl) rfl m (by rw[List.length_map];exact s) (Nat.le_trans i (by decide)) rfl).up 1)) aj) q x) rfl rfl) aw)),u,Hp.bQ,y⟩
theorem yJ(r:Rep H w)(a:w.ol=some j)(s:w.op.length+2≤2*w.n)(E:w.nq∉w.pt)(hl:w.pt.length<10):∃g H',Fn 4 449 [jq] H (.tup [bV w.nf,bV (w.nf+1)]) H'∧Rep H' (((w.addQ g).yI true w.nq).yI false w.nq):=by
 have q:2*w.n≤10:=Nat.mul_le_mul_left 2 r.n5
 have d:=r.NL E hl
 have q0:H.n .b8=w.nq:=r.nq
 have mk:=Kb r.pt r.E2 (by unfold u1;rw[List.length_map];exact Nat.le_trans r.Lg (by decide)) r.R0 (Nat.le_trans r.R4 (by decide))
 have z:=d.Hs (v:=.list [])
 generalize F:((((H.new .b8 (.inst (Pi.fs ⟨w.nq,w.R,H.n .B,0,0,true,true⟩))).new .B (.dD (List.replicate w.R 0))).set .D 0 (.dy (dput w.nq (gm (H.n .b8)) (u1 w.pt)))).set .cm 0 (.inst (Ka w.R (w.nq+1) 0)))=H1 at mk d z
 have no:¬Own (w.addQ (H.n .B)) (H1.n .L):=λh=>Nat.lt_irrefl _ (h.lt d)
 have o:¬Own ((w.addQ (H.n .B)).yI true w.nq) (H1.n .L):=no
 obtain⟨M,I,C,u,x⟩:=w_end (b:=true) z a (p:=w.nq) (e:=H1.n .L) (Nat.lt_succ_self _) (Nat.le_of_succ_le s) Hp.dN (Nat.lt_succ_self _) no (ble rfl)
 obtain⟨K,G,A,c,J⟩:=w_end (b:=false) C a (p:=w.nq) (e:=H1.n .L) (Nat.lt_succ_self _) (by show(w.op++[w.nf]).length+1≤_;rw[List.length_append];exact s) u x o (ble rfl)
 refine⟨H.n .B,K,aJ jz rfl (af (bS (bU fN rfl (ae rfl) r.ft rfl (ag (ar (i:=(2:Nat))) aj) ((q4 (y:=2) r.ft rfl rfl r.os (by rw[List.length_map];exact s) (Nat.le_trans q (by decide))).up 2)) rfl rfl)
  (af (ρ1:=[(ai,jq),(bC,gm w.nq)]) (H1:=H1) (aG rfl (c6 (congrArg gm q0) (bU n9 rfl (au (ae rfl) r.ft rfl rfl) r.pt rfl aj mk)) aA)
  (af (aG rfl (kr aj (ble rfl)) aA) (af (ρ1:=Lj w.nq (H1.n .L)) (dQ (m:=2) (eM (ct (ag dV (ag dV aj)) (ble rfl)) (.t _)) rfl (.step (.t _ _) aA (cV (ρ':=Lj w.nq (H1.n .L)) (r:=[(cG,.bool true),(aN,bV w.nf)]) I) (.step (.t _ _) aA (cV (ρ':=Lj w.nq (H1.n .L)) (r:=[(cG,.bool false),(aN,bV (w.nf+1))]) G) (.stop .t))))
  (az (aY (ct (ag (aW (ae rfl) ar (.l (.inr ⟨_,rfl,c⟩) (cx (j:=0) rfl (by decide)))) (ag (aW (ae rfl) ar (.l (.inr ⟨_,rfl,c⟩) (cx (j:=1) rfl (by decide)))) aj)) (ble rfl))) rfl))))) rfl,A⟩
theorem KJ{i1 i2:Nat}(r:Rep H w)(m:(w.P 0).fl=some 0)(c:0<w.nd)(i:w.ol=some j)(y:w.op.length+2≤2*w.n)(x:w.nq∉w.pt)(hl:w.pt.length<10)
  (fr:2≤((w.D 0).filter isNone).length)(C:(w.D 0)[i1]? =some .none)(b1:∀q,q<i1→∃v,(w.D 0)[q]? =some v∧isNone v=false)(B:((w.D 0).set i1 (bV w.nf))[i2]? =some .none)(b2:∀q,q<i2→∃v,((w.D 0).set i1 (bV w.nf))[q]? =some v∧isNone v=false):
  ∃g H',Fn 5 344 [c_,br 0] H (.tup [.int i1,.int i2]) H'∧Rep H' {(((w.addQ g).yI true w.nq).yI false w.nq)with D:=upd w.D 0 (((w.D 0).set i1 (bV w.nf)).set i2 (bV (w.nf+1)))}:=by
 obtain⟨g,H1,A,h⟩:=yJ r i y x hl
 have D0:=r.D 0 c
 have a:=h.D 0 c
 have d:=h.GG (k:=0) c (l:=(w.D 0).set i1 (bV w.nf)) (List.length_set.trans a.2.2.1)
 have t:=d.D 0 c
 have u:=d.GG (k:=0) c (l:=((w.D 0).set i1 (bV w.nf)).set i2 (bV (w.nf+1))) (List.length_set.trans (List.length_set.trans a.2.2.1))
 have P:∀{H w},Rep H w→H.o .Process 0=.inst ((w.P 0).pr.fs 0):=λr=>r.P 0 (Nat.zero_le _)
 have fl:look aZ ((w.P 0).pr.fs 0)=some (gF 0):=congrArg (λo=>some (oV gF o)) m
 have s:(H1.set .L (w.dl 0) (.list ((w.D 0).set i1 (bV w.nf)))).o .L (w.dl 0)=.list ((w.D 0).set i1 (bV w.nf)):=Hp.bQ
 refine⟨g,_,aJ kR rfl (af (aU (aD (bU lF rfl (au (ae rfl) (P r) rfl fl) D0.1 rfl aj ((J' D0.1 D0.2.1 (D0.2.2.1▸ble rfl)).up 3)) ar (decide_eq_false (λz=>Nat.not_le_of_lt (Int.ofNat_lt.mp z) fr)▸eR.lt (((w.D 0).filter isNone).length:Int) (2:Nat))) aw)
  (af (aG rfl (bU jA rfl (r.K.Ir rfl) r.ft rfl aj A) (eL (bw aA (bw aA dA)) rfl))
  (az (aY (ct (ag (bU hH rfl (au (ae rfl) (P h) rfl fl) a.1 rfl (ag (ae rfl) aj) ((Iu a.1 a.2.1 a.2.2.1 (ble rfl) C b1).up 3)) (ag (bU hH rfl (au (ae rfl) (P d) rfl fl) t.1 rfl (ag (ae rfl) aj) ((Iu t.1 s (List.length_set.trans a.2.2.1) (ble rfl) B b2).up 3)) aj)) (ble rfl))) rfl))) rfl,u.EF λk _=>(congrFun kz k).symm⟩
end
theorem Mp:vb LB (.int 10):=oy λP=>by kernel_rfl
noncomputable def l8(h:Nat→Nat)(f:Nat):Fi:=⟨(f%2).beq 0,h f,f/2⟩
theorem uU{h:Nat→Nat}{f x:Nat}:upd (l8 h) f {l8 h f with h:=x}=l8 (upd h f x):=funext λj=>by
 refine bp (· =l8 (upd h f x) j) (λe=>?_) λe=>?_
 ·unfold l8;rw[e,aE]
 ·unfold l8;rw[aQ e]
noncomputable def kj(p:Nat×Nat):MV:=.tup [.int p.1,bV p.2]
noncomputable def slots(sl:List MV)(us:List (Nat×Nat)):List MV:=us.foldl (λl p=>l.set p.1 (bV p.2)) sl
noncomputable def more(h:Nat→Nat)(us:List (Nat×Nat)):Nat→Nat:=us.foldl (λh p=>upd h p.2 (h p.2+1)) h
noncomputable abbrev OU:List XS:=[ay (pg (aq (aa cN) ei) (aa a4)) (ao (aa bH) tm [(aa aN)])]
section
variable{H H' H0:Hp}{w:Wd}{k j f p e d:Nat}{vs:List MV}{b:Bool}{ρ:Loc}
noncomputable abbrev Wd.FD(w:Wd)(h:Nat→Nat)(k:Nat)(sl:List MV):Wd:={w with F:=l8 h,D:=upd w.D k sl}
theorem Bk(hd:d<w.nd){us:List (Nat×Nat)}:∀{H:Hp}{h:Nat→Nat}{sl:List MV},Rep H (w.FD h d sl)→(∀p∈us,p.1<4∧p.2<w.nf∧0<h p.2)→∃H',e9 2 (et ([a4,aN].map bE)) OU us.length (.nC (us.map kj)) [(ai,gF k),(bH,jq),(cN,gF d)] H .next [(ai,gF k),(bH,jq),(cN,gF d)] H'∧Rep H' (w.FD (more h us) d (slots sl us)):=by
 induction us with
 |nil=>exactλ{H h sl} r _=>⟨H,.stop .s,r⟩
 |cons p us ih=>
  intro H h sl r hp
  have a:=hp p (.head _)
  have F:=r.F p.2 a.2.1
  have c:=r.Kg a.2.1 {l8 h p.2 with h:=h p.2+1} rfl
  have c:Rep (H.set .aK p.2 (.inst (Fi.fs {l8 h p.2 with h:=h p.2+1}))) (w.FD (upd h p.2 (h p.2+1)) d sl):=c.wW (w':=w.FD (upd h p.2 (h p.2+1)) d sl) (λ_ _=>rfl) (λk _=>(congrFun uU k).symm) (λ_ _=>rfl) (λ_ _=>rfl) rfl rfl rfl
  have D:=c.D d hd
  have m:(w.FD (upd h p.2 (h p.2+1)) d sl).D d=sl:=aE
  have g:=c.GG (k:=d) hd (l:=sl.set p.1 (bV p.2)) (List.length_set.trans (m▸D.2.2.1))
  have g:Rep _ (w.FD (upd h p.2 (h p.2+1)) d (sl.set p.1 (bV p.2))):=g.EF (D:=upd w.D d (sl.set p.1 (bV p.2))) λk _=>(congrFun kz k).symm
  obtain⟨H',L,n⟩:=ih g λq i=>⟨(hp q (.tail _ i)).1,(hp q (.tail _ i)).2.1,bp (λx=>0<x) (λ_=>Nat.succ_pos _) λ_=>(hp q (.tail _ i)).2.2⟩
  exact⟨H',.step (.s _ _) (eL (bw aA (bw aA dA)) rfl) (cV (ρ':=[(ai,gF k),(bH,jq),(cN,gF d)]) (r:=[(a4,.int p.1),(aN,bV p.2)]) (af (aG rfl (bU mX rfl (ae rfl) r.ft rfl (ag (ae rfl) aj) ((Gn F.1 a.2.2).up 1)) (gY (au (ae rfl) D.1 rfl rfl) (ae rfl) (.l (bV p.2) (D.2.1.trans (congrArg MO.list m)) (by rw[←m,D.2.2.1];exact a.1) (Nat.lt_trans a.1 (by decide))))) aw)) L,n⟩
theorem KL{h:Nat→Nat}{us:List (Nat×Nat)}(r:Rep H {w with F:=l8 h})(hk:k<w.nd)(o:filesOf (w.D k)=us.map kj)(l:∀p∈us,p.1<4∧p.2<w.nf∧0<h p.2):∃g H',Fn 3 584 [gF k,jq] H (gF w.nd) H'∧Rep H' {w with F:=l8 (more h us),D:=upd w.D w.nd (slots (List.replicate 4 .none) us),dl:=upd w.dl w.nd g,nd:=w.nd+1}:=by
 have c:=r.newD
 have D:=r.D k hk
 have a:=c.D k (Nat.lt_succ_of_lt hk)
 have q0:H.n .Descriptors=w.nd:=r.nd
 have ne:k≠w.nd:=Nat.ne_of_lt hk
 have q:upd w.D w.nd (List.replicate 4 .none) k=w.D k:=aQ ne
 obtain⟨H',L,i⟩:=Bk (w:={w with D:=w.D,dl:=upd w.dl w.nd (H.n .L),nd:=w.nd+1}) (k:=k) (d:=w.nd) (Nat.lt_succ_self _) (h:=h) (sl:=List.replicate 4 .none) c l
 refine⟨H.n .L,H',aJ lK rfl (af (ρ1:=[(ai,gF k),(bH,jq),(cN,gF w.nd)]) (aG rfl (c6 (congrArg gF q0) (h7 k3 (ag (au (ae rfl) D.1 rfl rfl) aj) (k9 (m:=4) (by decide) (by decide)))) aA)
  (af (dQ (eM (c6 (congrArg MV.lst o) (bU fh rfl (ae rfl) a.1 rfl aj ((q2 a.1 (a.2.1.trans (congrArg MO.list q)) (D.2.2.1▸ble rfl)).up 1))) (.s _)) rfl L) (az (aY (ae rfl)) rfl))) rfl,i⟩
end
section
variable{H H' H0:Hp}{w:Wd}{k j f e d:Nat}{v:MV}{vs:List MV}{b:Bool}{ρ:Loc}{p p':Pw}{n a:Nm}
theorem Rep.Mq{x:Int}(r:Rep H w):Rep (H.set .Table 0 (.inst (u0 (List.range (w.n+1)) x w.n (br 0)))) {w with nx:=x}:=
 {r with
  tb:=Hp.bQ
  Q:=λj c=>⟨(r.Q j c).1.of rfl rfl,(r.Q j c).2⟩}
theorem EG(r:Rep H {w with P:=upd w.P k p})(hk:k≤w.n):H.o .Process k=.inst (p.pr.fs k):=(r.P k hk).trans (congrArg (λp:Pw=>MO.inst (p.pr.fs k)) aE)
theorem Ll(r:Rep H {w with P:=upd w.P k p})(c:k≠0):H.o .Process 0=.inst ((w.P 0).pr.fs 0):=(r.P 0 (Nat.zero_le _)).trans (congrArg (λp:Pw=>MO.inst (p.pr.fs 0)) (aQ c.symm))
theorem Rep.IG(r:Rep H {w with P:=upd w.P k p})(p':Pw):Rep (dT H k p'.pr) {w with P:=upd w.P k p'}:=(r.oD k p').lY (P:=upd w.P k p') λj _=>(congrFun kz j).symm
theorem sR{e:XE}(r:Rep H {w with P:=upd w.P k p})(l:look n ρ=some (br k))(hk:k≤w.n)(c:e.cp=true)(h:Ev d e ρ H0 v H)(hf:mr .Process a=true)(hp:put a v (p.pr.fs k)=p'.pr.fs k):eu d (ay (cQ (aa n) a) e) ρ H0 .next ρ (dT H k p'.pr)∧Rep (dT H k p'.pr) {w with P:=upd w.P k p'}:=
 ⟨dK (aG c h (d0 (ae l) (EG r hk) hf (ble rfl))) (congrArg (λfs=>H.set .Process k (.inst fs)) hp),r.IG p'⟩
noncomputable abbrev yK(k:Nat):Loc:=[(ai,eU),(bq,br 0),(aZ,jq),(bB,br k)]
theorem Ht{rs:List MV}(r:Rep H {w with P:=upd w.P k p})(s:k≠0)(hk:k≤w.n)(m:(w.P 0).pC=.lst rs)(u2:rs.length=32):∃g H1 H',eu 3 (ay (cQ (aa bB) cJ) (ak r3 [(aq (aa bq) cJ)])) (yK k) H .next (yK k) H1∧eu 3 (ay (pg (aq (aa bB) cJ) (eP LB)) (av 0)) (yK k) H1 .next (yK k) H'∧Rep H' {w with P:=upd w.P k {p with pC:=g}}:=by
 have i:=sR (d:=3) (ρ:=yK k) (n:=bB) (a:=cJ) (e:=ak r3 [(aq (aa bq) cJ)]) (p':={p with pC:=.ref .L (H.n .L)}) (r.Hs (v:=.list rs)) rfl hk rfl (CL zx (ag (au (ae rfl) (Ll r s) rfl (congrArg some m)) aj) (.lst (.inl rfl) (Nat.le_trans (Nat.le_of_eq u2) (ble rfl)))) rfl rfl
 have q:=aG (d:=3) (ρ:=yK k) (t:=pg (aq (aa bB) cJ) (eP LB)) (e:=av 0) rfl ar (gY (au (ae rfl) (EG i.2 hk) rfl rfl) (dg Mp) (.l (j:=10) (vs:=rs) (.int 0) (Hp.dN (H:=H)) (Nat.lt_of_lt_of_le (by decide) (Nat.le_of_eq u2.symm)) (by decide)))
 exact⟨_,_,_,i.1,q,i.2.NK (λc h=>funext λj=>Hp.b4 λz=>h z.1) (λc h=>rfl) (Nat.le_refl _) λa _ o=>Hp.b4 λz=>Nat.lt_irrefl _ (z.2▸Own.lt r o)⟩
theorem EH{h:Nat→Nat}{us:List (Nat×Nat)}(r:Rep H {w with F:=l8 h,P:=upd w.P k p})(q:k≠0)(hk:k≤w.n)(l:(w.P 0).fl=some 0)(hd:0<w.nd)(x:filesOf (w.D 0)=us.map kj)(u:∀p∈us,p.1<4∧p.2<w.nf∧0<h p.2):∃g H',eu 3 (ay (cQ (aa bB) aZ) (nB (aH .Is (aq (aa bq) aZ) bj) bj (ao (aq (aa bq) aZ) oJ [(aa aZ)]))) (yK k) H .next (yK k) H'∧
  Rep H' {w with F:=l8 (more h us),D:=upd w.D w.nd (slots (List.replicate 4 .none) us),dl:=upd w.dl w.nd g,nd:=w.nd+1,P:=upd w.P k {p with fl:=some w.nd}}:=by
 obtain⟨g,H1,c,t⟩:=KL (w:={w with P:=upd w.P k p}) r hd x u
 have fl:look aZ ((w.P 0).pr.fs 0)=some (gF 0):=congrArg (λo=>some (oV gF o)) l
 have m:Rep H {{w with F:=l8 h}with P:=upd w.P k p}:=r
 have i:Rep H1 {{w with F:=l8 (more h us),D:=upd w.D w.nd (slots (List.replicate 4 .none) us),dl:=upd w.dl w.nd g,nd:=w.nd+1}with P:=upd w.P k p}:=t
 have s:=sR (d:=3) (ρ:=yK k) (n:=bB) (a:=aZ) (e:=nB (aH .Is (aq (aa bq) aZ) bj) bj (ao (aq (aa bq) aZ) oJ [(aa aZ)])) (p':={p with fl:=some w.nd}) i rfl hk rfl (hW (aD (au (ae rfl) (Ll m q) rfl fl) a3 (.Ak (gF 0))) (bU lL rfl (au (ae rfl) (Ll m q) rfl fl) (r.D 0 hd).1 rfl (ag (ae rfl) aj) c)) rfl rfl
 exact⟨g,_,s.1,s.2⟩
theorem Hu{h:Nat→Nat}{us:List (Nat×Nat)}{rs:List MV}{x:Int}{nm:Nm}{rg:MV}(r:Rep H {w with F:=l8 h,P:=upd w.P k ⟨x,.fresh,false,none,nm,.none,false,0,0,rg⟩})(m:k≠0)(hk:k≤w.n)(s:(w.P 0).fl=some 0)(q:(w.P 0).pC=.lst rs)(u2:rs.length=32)(hd:0<w.nd)(J:filesOf (w.D 0)=us.map kj)(I:∀p∈us,p.1<4∧p.2<w.nf∧0<h p.2):
  ∃g rg H',gj 3 (JE (xB [ay (cQ (aa bB) fx) (nB (aH .Is (aq (aa bq) fx) bj) bj (ao (aq (aa bq) fx) oJ []))])::
 ay (cQ (aa bB) cJ) (ak r3 [(aq (aa bq) cJ)])::
 ay (pg (aq (aa bB) cJ) (eP LB)) (av 0)::
 [ay (cQ (aa bB) Fc) (aq (aa bq) Fc),
 ay (cQ (aa bB) bq) (aa bq),
 ay (cQ (aa bB) aZ) (nB (aH .Is (aq (aa bq) aZ) bj) bj (ao (aq (aa bq) aZ) oJ [(aa aZ)])),
 ay (cQ (aa bB) mi) (aq (aa bq) mi),
 bA (ao (aa ai) aT [(aa bB)]),
 bt (aa bB)]) (yK k) H (.ret (br k)) (yK k) H'∧Rep H' {w with F:=l8 (more h us),D:=upd w.D w.nd (slots (List.replicate 4 .none) us),dl:=upd w.dl w.nd g,nd:=w.nd+1,P:=upd w.P k ⟨x,.ready,true,some w.nd,nm,.none,false,0,0,rg⟩}:=by
 have B:Rep H {{w with F:=l8 h}with P:=upd w.P k ⟨x,.fresh,false,none,nm,.none,false,0,0,rg⟩}:=r
 have z:=sR (d:=3) (ρ:=yK k) (n:=bB) (a:=fx) (e:=nB (aH .Is (aq (aa bq) fx) bj) bj (ao (aq (aa bq) fx) oJ [])) (p':=⟨x,.fresh,false,none,nm,.none,false,0,0,rg⟩) B rfl hk rfl (hV (aD (au (ae rfl) (Ll B m) rfl rfl) a3 (.Ak .none)) a3) rfl rfl
 obtain⟨c,H2,L,E,o,A⟩:=Ht z.2 m hk q u2
 have y:=sR (d:=3) (ρ:=yK k) (n:=bB) (a:=Fc) (e:=aq (aa bq) Fc) (p':=⟨x,.fresh,false,none,nm,.none,false,0,0,c⟩) A rfl hk rfl (au (ae rfl) (Ll A m) rfl rfl) rfl rfl
 have u:=sR (d:=3) (ρ:=yK k) (n:=bB) (a:=bq) (e:=aa bq) (p':=⟨x,.fresh,true,none,nm,.none,false,0,0,c⟩) y.2 rfl hk rfl (ae rfl) rfl rfl
 obtain⟨g,K,C,G⟩:=EH u.2 m hk s hd J I
 have l:Rep K {{w with F:=l8 (more h us),D:=upd w.D w.nd (slots (List.replicate 4 .none) us),dl:=upd w.dl w.nd g,nd:=w.nd+1}with P:=upd w.P k ⟨x,.fresh,true,some w.nd,nm,.none,false,0,0,c⟩}:=G
 have i:=sR (d:=3) (ρ:=yK k) (n:=bB) (a:=mi) (e:=aq (aa bq) mi) (p':=⟨x,.fresh,true,some w.nd,nm,.none,false,0,0,c⟩) l rfl hk rfl (au (ae rfl) (Ll l m) rfl rfl) rfl rfl
 have t:=pQ (EG i.2 hk) i.2.tb rfl
 exact⟨g,c,_,af (JF (af z.1 aw)) (af E (af o (af y.1 (af u.1 (af C (af i.1 (af (bS (bU fZ rfl (ae rfl) i.2.tb rfl (ag (ae rfl) aj) (t.up 2)) rfl rfl) (az (aY (ae rfl)) rfl)))))))),i.2.IG ⟨x,.ready,true,some w.nd,nm,.none,false,0,0,c⟩⟩
theorem KN{h:Nat→Nat}{us:List (Nat×Nat)}{rs:List MV}(r:Rep H {w with F:=l8 h})(i:(List.range (w.n+1)).find? (λj=>((w.P j).pr).state.c.beq bf.c)=some k)(z:k≠0)(hk:k≤w.n)(o:(w.P 0).fl=some 0)(m:(w.P 0).pC=.lst rs)(u2:rs.length=32)(hd:0<w.nd)(y:filesOf (w.D 0)=us.map kj)(u:∀p∈us,p.1<4∧p.2<w.nf∧0<h p.2):
  ∃g rg H',Fn 5 274 [c_,br 0] H (.int w.nx) H'∧Rep H' {w with F:=l8 (more h us),D:=upd w.D w.nd (slots (List.replicate 4 .none) us),dl:=upd w.dl w.nd g,nd:=w.nd+1,nx:=w.nx+1,P:=upd w.P k ⟨w.nx,.ready,true,some w.nd,(w.P 0).name,.none,false,0,0,rg⟩}:=by
 have nw:=Iv (nm:=(w.P 0).name) r.tb i r.ps
 have t:=(r.Mq (x:=w.nx+1)).oD k ⟨w.nx,.fresh,false,none,(w.P 0).name,.none,false,0,0,.lst (List.replicate 32 (.int 0))⟩
 obtain⟨g,rg,H',s,q⟩:=Hu (w:={w with nx:=w.nx+1}) (h:=h) (us:=us) t z hk o m u2 hd y u
 have l:Rep H' {{w with F:=l8 (more h us),D:=upd w.D w.nd (slots (List.replicate 4 .none) us),dl:=upd w.dl w.nd g,nd:=w.nd+1,nx:=w.nx+1}with P:=upd w.P k ⟨w.nx,.ready,true,some w.nd,(w.P 0).name,.none,false,0,0,rg⟩}:=q
 have f:Fn 4 728 [eU,br 0,jq] H (br k) H':=aJ ug rfl (af (aG rfl (bU oY rfl (ae rfl) r.tb rfl (ag (au (ae rfl) (r.P 0 (Nat.zero_le _)) rfl rfl) aj) (nw.up 1)) aA) s) rfl
 exact⟨g,rg,H',aJ kH rfl (af (aG rfl (bU uh rfl (r.K.tab rfl) r.tb rfl (ag (ae rfl) (ag (r.K.Ir rfl) aj)) f) aA) (af (aU (aD (au (ae rfl) (EG l hk) rfl rfl) a3 (.B7 .none)) aw) (az (aY (au (ae rfl) (EG l hk) rfl rfl)) rfl))) rfl,q⟩
end
noncomputable def Hv(r0:MV):Pw:=⟨1,.ready,false,some 0,aC,.none,false,0,0,r0⟩
noncomputable def pG(rg:Nat→MV)(k:Nat):Pw:=⟨(k+1:Nat),.ready,true,some k,aC,.none,false,0,0,rg k⟩
structure Wr where
 m:Nat
 eJ:Nat
 h:Nat→Nat
 D:Nat→List MV
 Q:Nat→Qi
 rg:Nat→MV
 dl:Nat→Nat
 rb:Nat→Nat
structure Wc where
 n:Nat
 R:Nat
 r0:List MV
 ol:Nat
noncomputable def wr(c:Wc)(x:Wr)(X:Nat→Option (List MV))(S:Nat→MO)(ns:Nat):Wd where
 n:=c.n
 R:=c.R
 nx:=(x.eJ+2:Nat)
 P:=λk=>if k=0 then Hv (.lst c.r0)else if k≤x.eJ then pG x.rg k else D1
 F:=l8 x.h
 nf:=2*x.m
 Q:=x.Q
 nq:=x.m
 rb:=x.rb
 D:=x.D
 dl:=x.dl
 nd:=x.eJ+1
 op:=List.range (2*x.m)
 ol:=some c.ol
 pt:=List.range x.m
 X:=X
 S:=S
 ns:=ns
section
variable{H H':Hp}{w:Wd}{c:Wc}{x:Wr}{X:Nat→Option (List MV)}{S:Nat→MO}{ns k j f d i:Nat}{ρ:Loc}
theorem z0{k:Nat}:((wr c x X S ns).P k).st≠ .ax:=by
 show(if k=0 then Hv (.lst c.r0)else if k≤x.eJ then pG x.rg k else D1).st≠_
 split
 ·exact nofun
 ·split<;>exact nofun
theorem KO{k:Nat}(h:((wr c x X S ns).P k).st≠ .unused):((wr c x X S ns).P k).pid=(k+1:Nat):=by
 have e:(wr c x X S ns).P k=if k=0 then Hv (.lst c.r0)else if k≤x.eJ then pG x.rg k else D1:=rfl
 rw[e]at h⊢
 by_cases a:k=0
 ·rw[if_pos a,a];rfl
 ·rw[if_neg a]at h⊢
  by_cases b:k≤x.eJ
  ·rw[if_pos b];rfl
  ·rw[if_neg b]at h;exact absurd rfl h
theorem km(b:k≠0)(a:k≤x.eJ):(wr c x X S ns).P k=pG x.rg k:=(if_neg b).trans (if_pos a)
theorem z1{h:Nat→Nat}{b:Bool}{p y:Nat}(hb:(f%2).beq 0=b)(hp:f/2=p):upd (l8 h) f ⟨b,y,p⟩=l8 (upd h f y):=by
 rw[←hb,←hp];exact uU
theorem z2(b:k≠0)(a:¬k≤x.eJ):(wr c x X S ns).P k=D1:=by
 show(if k=0 then Hv (.lst c.r0)else if k≤x.eJ then pG x.rg k else D1)=_
 rw[if_neg b,if_neg a]
theorem iO{dk y:Nat}(r:Rep H (wr c x X S ns))(hk:k≤c.n)(hd:((wr c x X S ns).P k).fl=some dk)(a:dk<x.eJ+1)(hi:(x.D dk)[i]? =some (bV f))(hf:f<2*x.m)(g:x.h f=y+2):∃H',Fn 5 323 [c_,br k,.int i] H (.int 0) H'∧Rep H' (wr c {x with h:=upd x.h f (y+1),D:=upd x.D dk ((x.D dk).set i .none)} X S ns):=by
 have t:=uJ r hk hd a hi hf (λH1 b=>Bb b hf g) rfl (half_lt hf)
 refine t.imp λH' t=>⟨t.1,?_⟩
 have e:=t.2.lY (P:=(wr c x X S ns).P) λk _=>((congrArg (λp:Pw=>p.wake _) (k_ (z0 (c:=c) (x:=x) (X:=X) (S:=S) (ns:=ns) (k:=k)))).trans (k_ z0)).symm
 exact e.wW (w':=wr c {x with h:=upd x.h f (y+1),D:=upd x.D dk ((x.D dk).set i .none)} X S ns) (λ_ _=>rfl) (λk _=>(congrFun uU k).symm) (λ_ _=>rfl) (λ_ _=>rfl) rfl rfl rfl
theorem z3{i1 i2:Nat}(r:Rep H (wr c x X S ns))(a:x.m+1≤c.n)(e:∃y,x.D 0=y∧2≤(y.filter isNone).length∧y[i1]? =some .none∧(∀q,q<i1→∃v,y[q]? =some v∧isNone v=false)∧(y.set i1 (bV (2*x.m)))[i2]? =some .none∧∀q,q<i2→∃v,(y.set i1 (bV (2*x.m)))[q]? =some v∧isNone v=false):
  ∃g H',Fn 5 344 [c_,br 0] H (.tup [.int i1,.int i2]) H'∧Rep H' (wr c {x with m:=x.m+1,h:=upd (upd x.h (2*x.m) 1) (2*x.m+1) 1,Q:=upd x.Q x.m ⟨[],true,true⟩,rb:=upd x.rb x.m g,D:=upd x.D 0 (((x.D 0).set i1 (bV (2*x.m))).set i2 (bV (2*x.m+1)))} X S ns):=by
 obtain⟨y,rfl,A,u,s,o,l⟩:=e
 have t:=KJ r rfl (Nat.succ_pos _) rfl (by show(List.range (2*x.m)).length+2≤2*c.n;rw[List.length_range];exact Nat.mul_le_mul_left 2 a) (λz=>Nat.lt_irrefl _ (List.mem_range.mp z)) (by show(List.range x.m).length<10;rw[List.length_range];exact Nat.lt_of_lt_of_le a (Nat.le_trans r.n5 (by decide))) A u s o l
 refine t.imp λg t=>t.imp λH' t=>⟨t.1,?_⟩
 refine t.2.wW (w':=wr c {x with m:=x.m+1,h:=upd (upd x.h (2*x.m) 1) (2*x.m+1) 1,Q:=upd x.Q x.m ⟨[],true,true⟩,rb:=upd x.rb x.m g,D:=upd x.D 0 (((x.D 0).set i1 (bV (2*x.m))).set i2 (bV (2*x.m+1)))} X S ns) (λ_ _=>rfl) (λk _=>?_) (λ_ _=>rfl) (λ_ _=>rfl) ?_ ?_ rfl
 ·show l8 (upd (upd x.h (2*x.m) 1) (2*x.m+1) 1) k=upd (upd (l8 x.h) (2*x.m) ⟨true,1,x.m⟩) (2*x.m+1) ⟨false,1,x.m⟩ k
  rw[z1 (b:=true) (p:=x.m) (by rw[sI.1];rfl) sI.2.1,z1 (b:=false) (p:=x.m) (by rw[sI.2.2.1];rfl) sI.2.2.2]
 ·show List.range (2*(x.m+1))=List.range (2*x.m)++[2*x.m]++[2*x.m+1]
  rw[Nat.mul_succ,List.range_succ,List.range_succ]
 ·exact List.range_succ
theorem w_{p:Nat}{bs:List UInt8}(r:Rep H (wr c x X S ns))(hp:p<x.m)(hi:(x.D 0)[i]? =some (bV (2*p+1)))(b:x.Q p=⟨[],true,true⟩)(hb:bs.length≤c.R):∃H',Fn 5 365 [c_,br 0,.int i,.bytes bs] H (.int bs.length) H'∧Rep H' (wr c {x with Q:=upd x.Q p ⟨bs,true,true⟩} X S ns):=by
 have a:(wr c x X S ns).F (2*p+1)=⟨false,x.h (2*p+1),p⟩:=by
  show l8 x.h (2*p+1)=_
  unfold l8
  rw[sI.2.2.1,sI.2.2.2];rfl
 have g:(wr c x X S ns).Q p=⟨[],true,true⟩:=b
 have t:=wV (bs:=bs) (k:=0) (dk:=0) (i:=i) (f:=2*p+1) r ⟨Nat.zero_le _,rfl,Nat.succ_pos _,hi,(l6 hp).2⟩ (by rw[a]) z0 (by rw[a];exact congrArg Qi.ro b) (Nat.le_trans hb (Nat.le_trans r.R4 (by decide))) (Nat.zero_le _) (by rw[a,g];exact hb)
 rw[a,g]at t
 refine t.imp λH' t=>⟨t.1,?_⟩
 refine t.2.lY (P:=(wr c x X S ns).P) (λk _=>?_)
 show(wr c x X S ns).P k=upd (λj=>((wr c x X S ns).P j).wake (.pipe p false)) 0 {(wr c x X S ns).P 0 with prog:=0} k
 refine bp (λy=>(wr c x X S ns).P k=y) (λe=>?_) λ_=>(k_ (z0 (c:=c) (x:=x) (X:=X) (S:=S) (ns:=ns) (k:=k))).symm
 rw[e];rfl
theorem w_find(r:Rep H w)(hk:k≤w.n)(a:(w.P k).st≠ .unused)(hp:∀i,i<k→(w.P i).st≠ .unused→(w.P i).pid≠(w.P k).pid):Fn 2 689 [eU,.int (w.P k).pid] H (br k) H:=by
 have fd:(List.range (w.n+1)).find? (o4 (λk=>(w.P k).pr) (w.P k).pid)=some k:=by
  refine List.find?_range_eq_some.mpr ⟨?_,List.mem_range.mpr (Nat.lt_succ_of_le hk),λi hi=>?_⟩
  ·show(!((w.P k).st.nm.c.beq bf.c)&&decide ((w.P k).pid=(w.P k).pid))=true
   rw[o5,decide_eq_false a,decide_eq_true rfl];rfl
  ·show(!(!((w.P i).st.nm.c.beq bf.c)&&decide ((w.P i).pid=(w.P k).pid)))=true
   rw[o5]
   by_cases e:(w.P i).st=.unused
   ·rw[decide_eq_true e];rfl
   ·rw[decide_eq_false (hp i hi e),Bool.and_false];rfl
 exact yj r.tb rfl fd r.ps
theorem z4{us:List (Nat×Nat)}(r:Rep H (wr c x X S ns))(u2:c.r0.length=32)(hk:x.eJ+1≤c.n)(t:filesOf (x.D 0)=us.map kj)(b:∀p∈us,p.1<4∧p.2<2*x.m∧0<x.h p.2)(l:look aS ρ=some c_)(s:look aC ρ=some (br 0)):
  ∃g rg H',Ev 5 (ao (aa aS) ah [(ao (aa aS) qe [(aa aC)])]) ρ H (br (x.eJ+1)) H'∧Rep H' (wr c {x with eJ:=x.eJ+1,h:=more x.h us,D:=upd x.D (x.eJ+1) (slots (List.replicate 4 .none) us),dl:=upd x.dl (x.eJ+1) g,rg:=upd x.rg (x.eJ+1) rg} X S ns):=by
 have free:(List.range (c.n+1)).find? (λj=>(((wr c x X S ns).P j).pr).state.c.beq bf.c)=some (x.eJ+1):=by
  refine List.find?_range_eq_some.mpr ⟨?_,List.mem_range.mpr (Nat.lt_succ_of_le hk),λi hi=>?_⟩
  ·refine o5.trans (decide_eq_true ?_)
   exact congrArg Pw.st (z2 (Nat.succ_ne_zero _) (Nat.not_le_of_lt (Nat.lt_succ_self _)))
  ·show(!(((wr c x X S ns).P i).st.nm.c.beq bf.c))=true
   rw[o5]
   have:((wr c x X S ns).P i).st=.ready:=by
    by_cases o:i=0
    ·rw[o];rfl
    ·rw[km o (Nat.le_of_lt_succ hi)];rfl
   rw[this];rfl
 obtain⟨g,rg,H',f,q⟩:=KN (w:=wr c x X S ns) (h:=x.h) (us:=us) (rs:=c.r0) r free (Nat.succ_ne_zero _) hk rfl rfl u2 (Nat.succ_pos _) t b
 have a:Rep H' (wr c {x with eJ:=x.eJ+1,h:=more x.h us,D:=upd x.D (x.eJ+1) (slots (List.replicate 4 .none) us),dl:=upd x.dl (x.eJ+1) g,rg:=upd x.rg (x.eJ+1) rg} X S ns):=by
  refine q.wW (w':=wr c {x with eJ:=x.eJ+1,h:=more x.h us,D:=upd x.D (x.eJ+1) (slots (List.replicate 4 .none) us),dl:=upd x.dl (x.eJ+1) g,rg:=upd x.rg (x.eJ+1) rg} X S ns) (λk _=>?_) (λ_ _=>rfl) (λ_ _=>rfl) (λ_ _=>rfl) rfl rfl rfl
  refine bp (λy=>(wr c {x with eJ:=x.eJ+1,h:=more x.h us,D:=upd x.D (x.eJ+1) (slots (List.replicate 4 .none) us),dl:=upd x.dl (x.eJ+1) g,rg:=upd x.rg (x.eJ+1) rg} X S ns).P k=y) (λe=>?_) λe=>?_
  ·rw[e,km (Nat.succ_ne_zero _) (Nat.le_refl _)]
   unfold pG
   rw[show({x with eJ:=x.eJ+1,h:=more x.h us,D:=upd x.D (x.eJ+1) (slots (List.replicate 4 .none) us),dl:=upd x.dl (x.eJ+1) g,rg:=upd x.rg (x.eJ+1) rg}:Wr).rg (x.eJ+1)=rg from aE]
   rfl
  ·show(if k=0 then _ else if k≤x.eJ+1 then pG (upd x.rg (x.eJ+1) rg) k else D1)=if k=0 then _ else if k≤x.eJ then pG x.rg k else D1
   refine ite_congr rfl (λ_=>rfl) λ_=>ite_congr (propext ⟨λz=>Nat.le_of_lt_succ (Nat.lt_of_le_of_ne z e),λz=>Nat.le_succ_of_le z⟩) (λ_=>?_) λ_=>rfl
   unfold pG
   rw[aQ e]
 have pk:((wr c {x with eJ:=x.eJ+1,h:=more x.h us,D:=upd x.D (x.eJ+1) (slots (List.replicate 4 .none) us),dl:=upd x.dl (x.eJ+1) g,rg:=upd x.rg (x.eJ+1) rg} X S ns).P (x.eJ+1))=pG (upd x.rg (x.eJ+1) rg) (x.eJ+1):=km (Nat.succ_ne_zero _) (Nat.le_refl _)
 have fd:=w_find a (k:=x.eJ+1) hk (by rw[pk];exact nofun) λi hi b=>by
  rw[KO b,pk]
  exactλz=>Nat.ne_of_lt hi (Nat.succ.inj (Int.ofNat.inj z))
 rw[pk]at fd
 exact⟨g,rg,H',bU fF rfl (ae l) r.pc rfl (ag (bU kI rfl (ae l) r.pc rfl (ag (ae s) aj) f) aj) ((sE a.K rfl fd).up 2),a⟩
end
theorem Rep.Hw{H:Hp}{w:Wd}{v:MO}(r:Rep H w):Rep (H.new .S v) {w with S:=upd w.S w.ns v,ns:=w.ns+1}:=
 {r with
  Q:=λj a=>⟨(r.Q j a).1.of rfl rfl,(r.Q j a).2⟩
  S:=funext λj=>by
   show(if Cl.S=.S∧j=H.n .S then v else H.o .S j)=if j=w.ns then v else w.S j
   rw[r.S,r.ns]
   by_cases e:j=w.ns
   ·rw[if_pos ⟨rfl,e⟩,if_pos e]
   ·rw[if_neg λz=>e z.2,if_neg e]
  ns:=congrArg Nat.succ r.ns}
noncomputable def iP(k:Nat)(pid:Int)(inner out:Nat):Loc:=[(ah,br k),(dS,.int pid),(Nm.jH,.int inner),(fk,.int out),(bP,.bool true),(dW,.int 0),(mn,.int 0)]
noncomputable abbrev KP:List XS:=[bA (ao (aa aS) dz [(aa ah),(aa a4)])]
noncomputable abbrev rP(inner out k:Nat)(v:MV):Loc:=[(aS,c_),(aC,br 0),(dP,.int inner),(fk,.int out),(hh,v),(ah,br k)]
section
variable{H H1 H2 H':Hp}{k inner out:Nat}{us:List MV}{p:Pw}
theorem xa{l:List MV}(hl:l=us)(pr:Ev 5 (ao (aa aS) ah [(ao (aa aS) qe [(aa aC)])]) [(aS,c_),(aC,br 0),(dP,.int inner),(fk,.int out),(hh,.lst l)] H (br k) H1){m:Nat}(D:e9 5 (bE a4) KP m (.nC us) (rP inner out k (.lst l)) H1 .next (rP inner out k (.lst l)) H2)(f:H2.o .Process k=.inst (p.pr.fs k)):
  Fn 6 836 [c_,br 0,.int inner,.int out,.lst l] H (.ref .S (H2.n .S)) (H2.new .S (.bu (iP k p.pid inner out))):=
 have e:Ev 5 (k2 [ah,dS,Nm.jH,fk,bP,dW,mn] [(aa ah),(aq (aa ah) dS),(aa dP),(aa fk),(cw true),(av 0),(av 0)]) (rP inner out k (.lst l)) H2 (.ref .S (H2.n .S)) (H2.new .S (.bu ([ah,dS,Nm.jH,fk,bP,dW,mn].zip [br k,.int p.pid,.int inner,.int out,.bool true,.int 0,.int 0]))):=
  t7 (vs:=[br k,.int p.pid,.int inner,.int out,.bool true,.int 0,.int 0]) (er (ae rfl) (er (au (v:=.int p.pid) (ae rfl) f rfl rfl) (er (ae rfl) (er (ae rfl) (er dV (er ar (er ar yd))))))) (ble rfl)
 have g:[ah,dS,Nm.jH,fk,bP,dW,mn].zip [br k,.int p.pid,.int inner,.int out,.bool true,.int 0,.int 0]=iP k p.pid inner out:=rfl
 have c:eu 5 (ay (bE ah) (ao (aa aS) ah [(ao (aa aS) qe [(aa aC)])])) [(aS,c_),(aC,br 0),(dP,.int inner),(fk,.int out),(hh,.lst l)] H .next (rP inner out k (.lst l)) H1:=aG rfl pr aA
 have b:eu 5 (g6 (bE a4) (aa hh) (xB KP)) (rP inner out k (.lst l)) H1 .next (rP inner out k (.lst l)) H2:=dQ (eM (ae rfl) (hl▸ .s l)) rfl D
 have a:=az (d:=5) (r:=[]) (aY (g▸e)) rfl
 aJ rL rfl (af c (af b a)) rfl
theorem sS{i:Nat}{v:MV}(a:H.o .aM 0=.inst [(bc,xf)])(c:Fn 5 323 [c_,br k,.int i] H (.int 0) H'):gj 5 KP (rP inner out k v++[(a4,.int i)]) H .next (rP inner out k v++[(a4,.int i)]) H':=
 af (bS (bU eD rfl (ae rfl) a rfl (ag (ae rfl) (ag (ae rfl) aj)) c) rfl rfl) aw
end
noncomputable def S4(a:Bool)(x y k o:MV):List MV:=bif a then[x,k,y,o]else[y,k,x,o]
noncomputable def U4(a:Bool)(x y k o:Nat):List (Nat×Nat):=bif a then[(0,x),(1,k),(2,y),(3,o)]else[(0,y),(1,k),(2,x),(3,o)]
noncomputable def sa(a:Bool):Nat:=bif a then 0 else 2
noncomputable def sb(a:Bool):Nat:=bif a then 2 else 0
section
variable{a:Bool}{x y k o:Nat}{h:Nat→Nat}{f:Nat}{us:List (Nat×Nat)}
theorem z5:(us.map (·.2)).Nodup→more h us f=if f∈us.map (·.2)then h f+1 else h f:=by
 induction us generalizing h with
 |nil=>exactλ_=>(if_neg nofun).symm
 |cons p us ih=>
  intro n
  have n:=List.nodup_cons.mp n
  show more (upd h p.2 (h p.2+1)) us f=_
  rw[ih n.2]
  by_cases e:f=p.2
  ·rw[e,if_neg n.1,aE,if_pos (.head _)]
  ·rw[aQ e]
   exact ite_congr (propext ⟨λz=>.tail _ z,λz=>(List.mem_cons.mp z).resolve_left e⟩) (λ_=>rfl) λ_=>rfl
theorem EI:slots (List.replicate 4 .none) (U4 a x y k o)=S4 a (bV x) (bV y) (bV k) (bV o):=by cases a<;>rfl
theorem EJ:filesOf (S4 a (bV x) (bV y) (bV k) (bV o))=(U4 a x y k o).map kj:=by cases a<;>rfl
theorem EK:f∈(U4 a x y k o).map (·.2)↔f=x∨f=k∨f=y∨f=o:=by
 cases a with
 |true=>exact⟨λz=>(List.mem_cons.mp z).imp id λz=>(List.mem_cons.mp z).imp id λz=>(List.mem_cons.mp z).imp id List.mem_singleton.mp,λz=>z.elim (λe=>e▸ .head _) λz=>.tail _ (z.elim (λe=>e▸ .head _) λz=>.tail _ (z.elim (λe=>e▸ .head _) λe=>.tail _ (e▸ .head _)))⟩
 |false=>exact⟨λz=>(List.mem_cons.mp z).elim (λe=>.inr (.inr (.inl e))) λz=>(List.mem_cons.mp z).elim (λe=>.inr (.inl e)) λz=>(List.mem_cons.mp z).elim .inl λz=>.inr (.inr (.inr (List.mem_singleton.mp z))),λz=>z.elim (λe=>.tail _ (.tail _ (e▸ .head _))) λz=>z.elim (λe=>.tail _ (e▸ .head _)) λz=>z.elim (λe=>e▸ .head _) λe=>.tail _ (.tail _ (.tail _ (e▸ .head _)))⟩
theorem EL(m:x≠k)(h2:x≠y)(j:x≠o)(i:k≠y)(e:k≠o)(d:y≠o):((U4 a x y k o).map (·.2)).Nodup:=by
 have no:∀{a b:Nat},a≠b→a∉[b]:=λh z=>h (List.mem_singleton.mp z)
 have c:∀{a b:Nat}{l:List Nat},a≠b→a∉l→a∉b::l:=λh g z=>(List.mem_cons.mp z).elim h g
 cases a with
 |true=>exact List.nodup_cons.mpr ⟨c m (c h2 (no j)),List.nodup_cons.mpr ⟨c i (no e),List.nodup_cons.mpr ⟨no d,List.pairwise_singleton _ _⟩⟩⟩
 |false=>exact List.nodup_cons.mpr ⟨c i.symm (c h2.symm (no d)),List.nodup_cons.mpr ⟨c m.symm (no e),List.nodup_cons.mpr ⟨no j,List.pairwise_singleton _ _⟩⟩⟩
theorem Mr{m:Nat}(d:x<m)(c:y<m)(hk:k<m)(g:o<m)(i:∀f,f<m→0<h f):∀p∈U4 a x y k o,p.1<4∧p.2<m∧0<h p.2:=by
 intro p hp
 have b:p.2∈(U4 a x y k o).map (·.2):=List.mem_map.mpr ⟨p,hp,rfl⟩
 have lt:p.2<m:=(EK.mp b).elim (λe=>e▸d) λz=>z.elim (λe=>e▸hk) λz=>z.elim (λe=>e▸c) λe=>e▸g
 refine⟨?_,lt,i _ lt⟩
 have i1:p.1∈(U4 a x y k o).map (·.1):=List.mem_map.mpr ⟨p,hp,rfl⟩
 rw[show(U4 a x y k o).map (·.1)=List.range 4 by cases a<;>rfl]at i1
 exact List.mem_range.mp i1
theorem four{t:Nat}:2*t≠1∧2*t≠2*(t+1)∧2*t≠2*(t+1)+1∧1≠2*(t+1)∧1≠2*(t+1)+1∧2*(t+1)≠2*(t+1)+1:=by
 have e:∀{a b:Nat},2*a≠2*b+1:=λ{a b} h=>nomatch sI.1.symm.trans ((congrArg (· %2) h).trans sI.2.2.1)
 exact⟨e (b:=0),λh=>Nat.succ_ne_self t (Nat.eq_of_mul_eq_mul_left (by decide) h).symm,e,λh=>e (b:=0) h.symm,λh=>Nat.succ_ne_zero t (Nat.eq_of_mul_eq_mul_left (by decide:0<2) (Nat.succ.inj h).symm),(Nat.succ_ne_self _).symm⟩
end
noncomputable def ii(k:Nat):Nat:=if k%2=1 then 0 else 2
noncomputable def dk(k:Nat):List MV:=yr (ii k) 3 (2*(k-1)) (2*k+1) true true
structure Rg(H:Hp)(c:Wc)(x:Wr)(X:Nat→Option (List MV))(S:Nat→MO)(t:Nat)(a:Bool)(rl:Nat)(ld:Laid):Prop where
 r:Rep H (wr c x X S t)
 m:x.m=t+1
 eJ:x.eJ=t
 h:∀f,f<2*(t+1)→x.h f=1
 D0:x.D 0=S4 a (bV (2*t)) .none (bV 1) .none
 D:∀k,0<k→k≤t→x.D k=dk k
 Q:∀p,p≤t→x.Q p=⟨(Laid.at ld p).1,true,true⟩
 X0:∃a b:Int,X 0=some [.int a,.int b]
 X2:X 2=some (ld.map dR)
 Xr:X rl=some ((List.range t).map sV)
 S:∀k,k<t→S k=.bu (iP (k+1) (k+2:Nat) (ii (k+1)) 3)
 par:a=decide (t%2=0)
 n0:rl≠0
 n2:rl≠2
 u2:c.r0.length=32
section
variable{a:Bool}{x y k o:MV}
theorem Hx{x y k:Nat}:∃z,S4 a (bV x) .none (bV k) .none=z∧2≤(z.filter isNone).length∧z[sb a]? =some .none∧(∀q,q<sb a→∃v,z[q]? =some v∧isNone v=false)∧(z.set (sb a) (bV y))[3]? =some .none∧∀q,q<3→∃v,(z.set (sb a) (bV y))[q]? =some v∧isNone v=false:=by
 cases a with
 |true=>exact⟨_,rfl,Nat.le_refl 2,rfl,λq b=>match q,b with
  |0,_=>⟨_,rfl,rfl⟩
  |1,_=>⟨_,rfl,rfl⟩
  |_+2,h=>absurd h (Nat.not_lt_of_le (Nat.le_add_left 2 _)),rfl,λq b=>match q,b with
  |0,_=>⟨_,rfl,rfl⟩
  |1,_=>⟨_,rfl,rfl⟩
  |2,_=>⟨_,rfl,rfl⟩
  |_+3,h=>absurd h (Nat.not_lt_of_le (Nat.le_add_left 3 _))⟩
 |false=>exact⟨_,rfl,Nat.le_refl 2,rfl,λq b=>absurd b (Nat.not_lt_zero q),rfl,λq b=>match q,b with
  |0,_=>⟨_,rfl,rfl⟩
  |1,_=>⟨_,rfl,rfl⟩
  |2,_=>⟨_,rfl,rfl⟩
  |_+3,h=>absurd h (Nat.not_lt_of_le (Nat.le_add_left 3 _))⟩
theorem KQ:((S4 a x .none k .none).set (sb a) y).set 3 o=S4 a x y k o:=by cases a<;>rfl
theorem oG:(S4 a x y k o)[sa a]? =some x∧(S4 a x y k o)[1]? =some k∧(S4 a x y k o)[3]? =some o∧((S4 a x y k o).set 1 .none)[sb a]? =some y∧((S4 a x y k o).set (sa a) .none)[3]? =some o:=by cases a<;>exact⟨rfl,rfl,rfl,rfl,rfl⟩
theorem EM:((S4 a x y k o).set 1 .none).set (sb a) .none=S4 a x .none .none o:=by cases a<;>rfl
theorem EN:((S4 a x y k o).set (sa a) .none).set 3 .none=S4 (!a) y .none k .none:=by cases a<;>rfl
theorem z6{t:Nat}(h:a=decide (t%2=0)):S4 a (bV (2*t)) .none .none (bV (2*(t+1)+1))=dk (t+1)∧sa a=ii (t+1)∧(!a)=decide ((t+1)%2=0):=by
 unfold dk ii
 rcases Nat.mod_two_eq_zero_or_one t with e|e
 ·have b:(t+1)%2=1:=by rw[Nat.add_mod,e]
  rw[h,e,b];exact⟨rfl,rfl,rfl⟩
 ·have b:(t+1)%2=0:=by rw[Nat.add_mod,e]
  rw[h,e,b];exact⟨rfl,rfl,rfl⟩
end
noncomputable abbrev xg(R b inner:Nat):Loc:=[(bW,.ref .L 0),(aS,c_),(aC,br 0),(cc,.ref .L 2),(b7,.int R),(dP,.int inner),(jN,.int (1:Nat)),(a_,.ref .L b)]
section
variable{H H':Hp}{c:Wc}{x:Wr}{X:Nat→Option (List MV)}{S:Nat→MO}{t rl d:Nat}{a:Bool}{ld:Laid}{ρ:Loc}
structure R1(H:Hp)(c:Wc)(x:Wr)(X:Nat→Option (List MV))(S:Nat→MO)(t:Nat)(a:Bool)(rl:Nat)(ld:Laid):Prop where
 r:Rep H (wr c x X S t)
 m:x.m=t+2
 eJ:x.eJ=t
 h:∀f,f<2*(t+2)→x.h f=1
 D0:x.D 0=S4 a (bV (2*t)) (bV (2*(t+1))) (bV 1) (bV (2*(t+1)+1))
 D:∀k,0<k→k≤t→x.D k=dk k
 Q:∀p,p≤t+1→x.Q p=⟨(Laid.at ld p).1,true,true⟩
theorem Rg.pipe(G:Rg H c x X S t a rl ld)(s:t+2≤c.n)(hb:(Laid.at ld (t+1)).1.length≤c.R):∃H1 H2 l,Fn 5 344 [c_,br 0] H (.tup [.int (sb a:Nat),.int (3:Nat)]) H1∧H1.o .aM 0=.inst [(bc,xf)]∧H1.o .L 2=.list (ld.map dR)∧Fn 5 365 [c_,br 0,.int (3:Nat),.bytes (Laid.at ld (t+1)).1] H1 (.int (Laid.at ld (t+1)).1.length) H2∧R1 H2 c l X S t a rl ld:=by
 obtain⟨g,H1,w,b⟩:=z3 (i1:=sb a) (i2:=3) G.r (by rw[G.m];exact s) (by rw[G.D0,G.m];exact Hx)
 rw[G.D0,G.m,KQ]at b
 obtain⟨H2,v,q⟩:=w_ (i:=3) (p:=t+1) (bs:=(Laid.at ld (t+1)).1) b (Nat.lt_succ_self _) (show(upd x.D 0 _ 0)[3]? =_ by rw[aE];exact oG.2.2.1) (show upd x.Q (t+1) _ (t+1)=_ from aE) hb
 refine⟨H1,H2,_,w,b.pc,(b.X _ _ G.X2).1,v,q,rfl,G.eJ,λf hf=>?_,(show upd x.D 0 _ 0=_ from aE),λk j u=>(aQ (Nat.ne_of_gt j)).trans (G.D k j u),λp hp=>?_⟩
 ·refine bp (λy:Nat=>y=1) (λ_=>rfl) λA=>bp (λy:Nat=>y=1) (λ_=>rfl) λz=>G.h f ?_
  exact Nat.lt_of_le_of_ne (Nat.le_of_lt_succ (Nat.lt_of_le_of_ne (Nat.le_of_lt_succ hf) A)) z
 ·show upd (upd x.Q (t+1) _) (t+1) _ p=_
  rw[kz]
  exact bp (· =(⟨(Laid.at ld p).1,true,true⟩:Qi)) (λe=>by rw[e]) λe=>G.Q p (Nat.le_of_lt_succ (Nat.lt_of_le_of_ne hp e))
theorem twice{h:Nat→Nat}(b:∀f,f<2*(t+2)→h f=1){f:Nat}(hf:f<2*(t+2)):more h (U4 a (2*t) (2*(t+1)) 1 (2*(t+1)+1)) f=if f=2*t∨f=1∨f=2*(t+1)∨f=2*(t+1)+1 then 2 else 1:=by
 rw[z5 (EL four.1 four.2.1 four.2.2.1 four.2.2.2.1 four.2.2.2.2.1 four.2.2.2.2.2),b f hf]
 exact ite_congr (propext EK) (λ_=>rfl) λ_=>rfl
structure R2(H:Hp)(c:Wc)(x:Wr)(X:Nat→Option (List MV))(S:Nat→MO)(t:Nat)(a:Bool)(rl:Nat)(ld:Laid):Prop where
 r:Rep H (wr c x X S t)
 m:x.m=t+2
 eJ:x.eJ=t+1
 h:∀f,f<2*(t+2)→x.h f=if f=2*t∨f=2*(t+1)+1 then 2 else 1
 D0:x.D 0=S4 a (bV (2*t)) (bV (2*(t+1))) (bV 1) (bV (2*(t+1)+1))
 D:∀k,0<k→k≤t+1→x.D k=dk k
 Q:∀p,p≤t+1→x.Q p=⟨(Laid.at ld p).1,true,true⟩
theorem Bp:2*t<2*(t+2)∧1<2*(t+2)∧2*(t+1)<2*(t+2)∧2*(t+1)+1<2*(t+2):=⟨Nat.lt_trans (Nat.lt_succ_self _) (Nat.lt_trans (Nat.lt_succ_self _) (Nat.lt_trans (Nat.lt_succ_self _) (Nat.lt_succ_self _))),Nat.lt_of_lt_of_le (by decide) (Nat.mul_le_mul_left 2 (Nat.le_add_left 1 (t+1))),Nat.lt_trans (Nat.lt_succ_self _) (Nat.lt_succ_self _),Nat.lt_succ_self _⟩
theorem R1.member(G:R1 H c x X S t a rl ld)(F:a=decide (t%2=0))(u2:c.r0.length=32)(b:t+2≤c.n):∃H' C,Fn 6 836 [c_,br 0,.int (sa a:Nat),.int (3:Nat),.lst [.int (1:Nat),.int (sb a:Nat)]] H (sV t) (H'.new .S (.bu (iP (t+1) (t+2:Nat) (ii (t+1)) 3)))∧R2 H' c C X S t a rl ld:=by
 have u:=G.eJ
 have E:∀f,f<2*x.m→0<x.h f:=λf hf=>by rw[G.m]at hf;rw[G.h f hf];exact Nat.one_pos
 obtain⟨g,rg,H1,pr,q⟩:=z4 (us:=U4 a (2*t) (2*(t+1)) 1 (2*(t+1)+1)) (ρ:=[(aS,c_),(aC,br 0),(dP,.int (sa a:Nat)),(fk,.int (3:Nat)),(hh,.lst [.int (1:Nat),.int (sb a:Nat)])]) G.r u2 (by rw[u];exact Nat.le_of_succ_le b) (by rw[G.D0];exact EJ) (Mr (by rw[G.m];exact Bp.1) (by rw[G.m];exact Bp.2.2.1) (by rw[G.m];exact Bp.2.1) (by rw[G.m];exact Bp.2.2.2) E) rfl rfl
 rw[u,EI]at q
 rw[u]at pr
 have B:upd x.D (t+1) (S4 a (bV (2*t)) (bV (2*(t+1))) (bV 1) (bV (2*(t+1)+1))) (t+1)=_:=aE
 obtain⟨H2,N,w⟩:=iO (k:=t+1) (dk:=t+1) (i:=1) (f:=1) (y:=0) q (Nat.le_of_succ_le b) (by rw[km (Nat.succ_ne_zero t) (Nat.le_refl _)];rfl) (Nat.lt_succ_self _) (by show(upd x.D (t+1) _ (t+1))[1]? =_;rw[B];exact oG.2.1) (by show 1<2*x.m;rw[G.m];exact Bp.2.1) ((twice G.h Bp.2.1).trans (if_pos (.inr (.inl rfl))))
 have A:upd (upd x.D (t+1) (S4 a (bV (2*t)) (bV (2*(t+1))) (bV 1) (bV (2*(t+1)+1)))) (t+1) ((upd x.D (t+1) (S4 a (bV (2*t)) (bV (2*(t+1))) (bV 1) (bV (2*(t+1)+1))) (t+1)).set 1 .none) (t+1)=(S4 a (bV (2*t)) (bV (2*(t+1))) (bV 1) (bV (2*(t+1)+1))).set 1 .none:=aE.trans (by rw[B])
 obtain⟨v,M,j⟩:=iO (k:=t+1) (dk:=t+1) (i:=sb a) (f:=2*(t+1)) (y:=0) w (Nat.le_of_succ_le b) (by rw[km (Nat.succ_ne_zero t) (Nat.le_refl _)];rfl) (Nat.lt_succ_self _) (by show(upd _ (t+1) _ (t+1))[sb a]? =_;rw[A];exact oG.2.2.2.1) (by show 2*(t+1)<2*x.m;rw[G.m];exact Bp.2.2.1) ((show upd (more x.h (U4 a (2*t) (2*(t+1)) 1 (2*(t+1)+1))) 1 1 (2*(t+1))=2 from(aQ (f:=more x.h (U4 a (2*t) (2*(t+1)) 1 (2*(t+1)+1))) (k:=1) (x:=1) four.2.2.2.1.symm).trans ((twice G.h Bp.2.2.1).trans (if_pos (.inr (.inr (.inl rfl)))))))
 have hp:v.o .Process (t+1)=.inst ((pG (upd x.rg (t+1) rg) (t+1)).pr.fs (t+1)):=(j.P (t+1) (Nat.le_of_succ_le b)).trans (congrArg (λp:Pw=>MO.inst (p.pr.fs (t+1))) (km (Nat.succ_ne_zero t) (Nat.le_refl _)))
 have mb:=xa (us:=[.int (1:Nat),.int (sb a:Nat)]) (m:=2) rfl pr (.step (.s _ _) aA (cV (ρ':=rP (sa a) 3 (t+1) (.lst [.int (1:Nat),.int (sb a:Nat)])) (r:=[(a4,.int (1:Nat))]) (sS q.pc N)) (.step (.s _ _) aA (cV (ρ':=rP (sa a) 3 (t+1) (.lst [.int (1:Nat),.int (sb a:Nat)])) (r:=[(a4,.int (sb a:Nat))]) (sS w.pc M)) (.stop .s))) hp
 have s0:=z6 F
 rw[show v.n .S=t from j.ns,s0.2.1]at mb
 rw[s0.2.1]
 refine⟨v,_,mb,j,G.m,rfl,λf hf=>?_,?_,λk J I=>?_,G.Q⟩
 ·refine bp (λy:Nat=>y=if f=2*t∨f=2*(t+1)+1 then 2 else 1) (λe=>?_) λL=>bp (λy:Nat=>y=if f=2*t∨f=2*(t+1)+1 then 2 else 1) (λe=>?_) λK=>?_
  ·rw[e];exact(if_neg λz=>z.elim (λz=>four.2.1 z.symm) four.2.2.2.2.2).symm
  ·rw[e];exact(if_neg λz=>z.elim (λz=>four.1 z.symm) four.2.2.2.2.1).symm
  ·exact(twice G.h hf).trans (ite_congr (propext ⟨λz=>z.elim .inl λz=>z.elim (λz=>absurd z K) λz=>z.elim (λz=>absurd z L) .inr,λz=>z.elim .inl λz=>.inr (.inr (.inr z))⟩) (λ_=>rfl) λ_=>rfl)
 ·exact G.D0
 ·refine bp (λl:List MV=>l=dk k) (λe=>?_) λe=>bp (λl:List MV=>l=dk k) (λz=>absurd z e) λ_=>bp (λl:List MV=>l=dk k) (λz=>absurd z e) λ_=>G.D k J (Nat.le_of_lt_succ (Nat.lt_of_le_of_ne I e))
  rw[e]
  exact(congrArg (λl:List MV=>l.set (sb a) .none) A).trans (EM.trans s0.1)
end
noncomputable abbrev IH:List XS:=[ay (et ([cO,fk].map bE)) (ao (aa aS) bC [(aa aC)]),
  bA (ao (aa aS) eN [(aa aC),(aa fk),(aI (aI (aa cc) (aa cP)) (av 0))]),
  bA (ao (aa a_) dx [(ak fz [(aa aS),(aa aC),(aa dP),(aa fk),(cI [(aa jN),(aa cO)])])]),
  bA (ao (aa aS) dz [(aa aC),(aa dP)]),
  bA (ao (aa aS) dz [(aa aC),(aa fk)]),
  ay (bE dP) (aa cO)]
section
variable{H H':Hp}{c:Wc}{x:Wr}{X:Nat→Option (List MV)}{S:Nat→MO}{t rl d n i:Nat}{a:Bool}{ld:Laid}{ρ:Loc}
theorem nv{k:Nat}{e:XE}(b:H.o .aM 0=.inst [(bc,xf)])(g:look aS ρ=some c_)(f:look aC ρ=some (br 0))(h:Ev 6 e ρ H (.int (i:Nat)) H)(c:Fn 5 323 [c_,br 0,.int (i:Nat)] H (.int 0) H'):eu 6 (bA (ao (aa aS) dz [(aa aC),e])) ρ H .next ρ H':=
 bS (bU eD rfl (ae g) b rfl (ag (ae f) (ag h aj)) (c.up 1)) rfl rfl
theorem R2.close(G:R2 H c x X S t a rl ld){X':Nat→Option (List MV)}{S':Nat→MO}{H2:Hp}(r:Rep H2 (wr c x X' S' (t+1)))(K:t+2≤c.n)(s:∃a b:Int,X' 0=some [.int a,.int b])(q:X' 2=some (ld.map dR))(p:X' rl=some ((List.range (t+1)).map sV))(B:∀k,k<t+1→S' k=.bu (iP (k+1) (k+2:Nat) (ii (k+1)) 3))(A:a=decide (t%2=0))(n0:rl≠0)(n2:rl≠2)(u2:c.r0.length=32):
  ∃e g v,Fn 5 323 [c_,br 0,.int (sa a:Nat)] H2 (.int 0) e∧e.o .aM 0=.inst [(bc,xf)]∧Fn 5 323 [c_,br 0,.int (3:Nat)] e (.int 0) g∧Rg g c v X' S' (t+1) (!a) rl ld:=by
 obtain⟨e,J,j⟩:=iO (k:=0) (dk:=0) (i:=sa a) (f:=2*t) (y:=0) r (Nat.zero_le _) rfl (Nat.succ_pos _) (by rw[G.D0];exact oG.1) (by rw[G.m];exact Bp.1) ((G.h _ Bp.1).trans (if_pos (.inl rfl)))
 rw[G.D0]at j
 obtain⟨g,I,w⟩:=iO (k:=0) (dk:=0) (i:=3) (f:=2*(t+1)+1) (y:=0) j (Nat.zero_le _) rfl (Nat.succ_pos _) (show(upd x.D 0 _ 0)[3]? =_ by rw[aE];exact oG.2.2.2.2) (by show 2*(t+1)+1<2*x.m;rw[G.m];exact Bp.2.2.2) (show upd x.h (2*t) 1 (2*(t+1)+1)=2 from(aQ (f:=x.h) (x:=1) four.2.2.1.symm).trans ((G.h _ Bp.2.2.2).trans (if_pos (.inr rfl))))
 have D0:upd (upd x.D 0 ((S4 a (bV (2*t)) (bV (2*(t+1))) (bV 1) (bV (2*(t+1)+1))).set (sa a) .none)) 0 ((upd x.D 0 ((S4 a (bV (2*t)) (bV (2*(t+1))) (bV 1) (bV (2*(t+1)+1))).set (sa a) .none) 0).set 3 .none) 0=S4 (!a) (bV (2*(t+1))) .none (bV 1) .none:=aE.trans ((congrArg (λl:List MV=>l.set 3 .none) aE).trans EN)
 refine⟨e,g,_,J,j.pc,I,w,G.m,G.eJ,λf hf=>?_,D0,λk u C=>?_,G.Q,s,q,p,B,(z6 A).2.2,n0,n2,u2⟩
 ·refine bp (λy:Nat=>y=1) (λ_=>rfl) λF=>bp (λy:Nat=>y=1) (λ_=>rfl) λE=>(G.h f hf).trans (if_neg λz=>z.elim E F)
 ·exact bp (λl:List MV=>l=dk k) (λz=>absurd z (Nat.ne_of_gt u)) λ_=>bp (λl:List MV=>l=dk k) (λz=>absurd z (Nat.ne_of_gt u)) λ_=>G.D k u C
theorem Rg.step(G:Rg H c x X S t a rl ld)(f:t+2≤c.n)(hl:ld.length=c.n)(u:c.n≤5)(hb:(Laid.at ld (t+1)).1.length≤c.R){R:Nat}:∃H' B X' S',gj 6 IH (xg R rl (sa a)++[(cP,.int (t+1:Nat))]) H .next (xg R rl (sa (!a))++[(cP,.int (t+1:Nat)),(cO,.int (sb a:Nat)),(fk,.int (3:Nat))]) H'∧Rg H' c B X' S' (t+1) (!a) rl ld:=by
 obtain⟨H1,H2,N,D,p,I,C,z⟩:=G.pipe f hb
 obtain⟨P,M,mb,y⟩:=z.member G.par G.u2 f
 have s:=y.r.Hw (v:=.bu (iP (t+1) (t+2:Nat) (ii (t+1)) 3))
 have q:=s.X rl _ G.Xr
 have m:=s.GH (k:=rl) (vs:=(List.range t).map sV++[sV t]) G.Xr
 have w:(List.range t).map sV++[sV t]=(List.range (t+1)).map sV:=by rw[List.range_succ,List.map_append];rfl
 rw[w]at m
 obtain⟨O,J,A,F,o,E,K⟩:=y.close (X':=upd X rl (some ((List.range (t+1)).map sV))) (S':=upd S t (.bu (iP (t+1) (t+2:Nat) (ii (t+1)) 3))) m f (G.X0.imp λa h=>h.imp λb h=>(aQ G.n0.symm).trans h) ((aQ G.n2.symm).trans G.X2) aE (λk hk=>by
  refine bp (· =MO.bu (iP (k+1) (k+2:Nat) (ii (k+1)) 3)) (λe=>by rw[e]) λe=>G.S k (Nat.lt_of_le_of_ne (Nat.le_of_lt_succ hk) e)) G.par G.n0 G.n2 G.u2
 have g:(sb a:Nat)=sa (!a):=by cases a<;>rfl
 refine⟨J,A,_,_,af (aG rfl (bU gD rfl (ae rfl) G.r.pc rfl (ag (ae rfl) aj) (D.up 1)) (eL (bw aA (bw aA dA)) rfl))
  (af (bS (bU dI rfl (ae rfl) p rfl (ag (ae rfl) (ag (ae rfl) (ag (aW (kD I hl (Nat.le_trans u (by decide)) (Nat.lt_of_lt_of_le (Nat.lt_succ_self _) f) (ae rfl) (ae rfl)) ar (.t (cx (j:=0) rfl (by decide)))) aj))) (C.up 1)) rfl rfl)
  (af (dK (bS (iB (ae rfl) (z.r.X rl _ G.Xr).1 (ag (dt k7 (ag (ae rfl) (ag (ae rfl) (ag (ae rfl) (ag (ae rfl) (ag (e4 (ag (ae rfl) (ag (ae rfl) aj)) (ble rfl)) aj))))) mb) aj) q.1 (by rw[bZ];exact Nat.le_trans (Nat.le_trans (Nat.le_of_succ_le (Nat.le_of_succ_le f)) u) (by decide))) rfl rfl) (congrArg (λl=>Hp.set _ .L rl (.list l)) w))
  (af (nv (k:=0) m.pc rfl rfl (ae rfl) F) (af (nv (k:=0) o rfl rfl (ae rfl) E) (af (g▸aG rfl (ae rfl) aA) aw))))),K⟩
theorem Bl(hl:ld.length=c.n)(j:c.n≤5)(hb:∀i,(Laid.at ld i).1.length≤c.R){R:Nat}:∀{k t:Nat}{H x X S a},t+1+k=c.n→Rg H c x X S t a rl ld→∃H' h X' S' a',e9 6 (bE cP) IH k (.ny (t+1:Nat) c.n) (xg R rl (sa a)) H .next (xg R rl (sa a')) H'∧Rg H' c h X' S' (t+k) a' rl ld:=by
 intro k
 induction k with
 |zero=>exactλ{t H x X S a} e G=>⟨H,x,X,S,a,.stop (.r _ _ (Int.ofNat_le.mpr (Nat.le_of_eq e.symm))),G⟩
 |succ k ih=>
  intro t H x X S a e G
  have lt:t+1<c.n:=e▸Nat.lt_add_of_pos_right (Nat.succ_pos k)
  obtain⟨H1,p,q,s,f,o⟩:=G.step lt hl j (hb _) (R:=R)
  obtain⟨H2,g,X2,m,l,D,b⟩:=ih (t:=t+1) ((Nat.succ_add_eq_add_succ (t+1) k).trans e) o
  rw[Nat.succ_add_eq_add_succ]at b
  exact⟨H2,g,X2,m,l,.step (.r _ _ (Int.ofNat_lt.mpr lt)) aA (cV (ρ':=xg R rl (sa (!a))) (r:=[(cP,.int (t+1:Nat)),(cO,.int (sb a:Nat)),(fk,.int (3:Nat))]) f) D,b⟩
end
noncomputable def U2(a:Bool)(x k:Nat):List (Nat×Nat):=bif a then[(0,x),(1,k)]else[(1,k),(2,x)]
section
variable{a:Bool}{x k f:Nat}{h:Nat→Nat}
theorem EO:filesOf (S4 a (bV x) .none (bV k) .none)=(U2 a x k).map kj:=by cases a<;>rfl
theorem EP:slots (List.replicate 4 .none) (U2 a x k)=S4 a (bV x) .none (bV k) .none:=by cases a<;>rfl
theorem ER:f∈(U2 a x k).map (·.2)↔f=x∨f=k:=by
 cases a with
 |true=>exact⟨λz=>(List.mem_cons.mp z).imp id List.mem_singleton.mp,λz=>z.elim (λe=>e▸ .head _) λe=>.tail _ (e▸ .head _)⟩
 |false=>exact⟨λz=>(List.mem_cons.mp z).elim .inr λz=>.inl (List.mem_singleton.mp z),λz=>z.elim (λe=>.tail _ (e▸ .head _)) λe=>e▸ .head _⟩
theorem ES(b:x≠k):((U2 a x k).map (·.2)).Nodup:=by
 cases a with
 |true=>exact List.nodup_cons.mpr ⟨λz=>b (List.mem_singleton.mp z),List.pairwise_singleton _ _⟩
 |false=>exact List.nodup_cons.mpr ⟨λz=>b (List.mem_singleton.mp z).symm,List.pairwise_singleton _ _⟩
theorem Ms{m:Nat}(b:x<m)(hk:k<m)(c:∀f,f<m→0<h f):∀p∈U2 a x k,p.1<4∧p.2<m∧0<h p.2:=by
 intro p hp
 have lt:p.2<m:=(ER.mp (List.mem_map.mpr ⟨p,hp,rfl⟩)).elim (λe=>e▸b) λe=>e▸hk
 refine⟨?_,lt,c _ lt⟩
 cases a with
 |true=>exact(List.mem_cons.mp hp).elim (λe=>e▸(by decide:(0:Nat)<4)) λz=>List.mem_singleton.mp z▸(by decide:(1:Nat)<4)
 |false=>exact(List.mem_cons.mp hp).elim (λe=>e▸(by decide:(1:Nat)<4)) λz=>List.mem_singleton.mp z▸(by decide:(2:Nat)<4)
end
noncomputable def s0(n R:Nat)(ld:Laid)(size:Nat→Nat):RS where
 n:=n
 R:=R
 size:=size
 row:=λi=>cX (Laid.o ld) n i n
 begun:=λi=>(Laid.o ld i).length
 p:=λi=>⟨(Laid.at ld i).2,0,0,0,.ready,.none,true,false,true,true⟩
 c:=λi=>(Laid.at ld i).1
 fst:=.ready
 l0:=.none
section
variable{H H':Hp}{c:Wc}{x:Wr}{X:Nat→Option (List MV)}{S:Nat→MO}{t rl d n i ns:Nat}{a:Bool}{ld:Laid}{ρ:Loc}{size:Nat→Nat}
noncomputable def z7(c:Wc)(x:Wr)(X:Nat→Option (List MV))(S:Nat→MO)(ns:Nat):Lay:=⟨x.rg,.lst c.r0,x.dl,x.rb,some c.ol,X,S,ns⟩
theorem KR(h:pk n i=d):ib n i=ii d:=by unfold ib ii;rw[h]
theorem Mt(r:Rep H (wr c x X S ns))(h2:2≤c.n)(l:x.m=c.n)(hk:x.eJ=c.n)(o:∀f,f<2*c.n→x.h f=1)(D0:x.D 0=List.replicate 4 .none)(D:∀k,0<k→k<c.n→x.D k=dk k)(Dn:x.D c.n=yr (ii c.n) 1 (2*(c.n-1)) 1 true true)(q:∀p,p<c.n→x.Q p=⟨(Laid.at ld p).1,true,true⟩):Rep H (wd (z7 c x X S ns) (s0 c.n c.R ld size)):=by
 have j:∀f,jr (s0 c.n c.R ld size) f=true:=λf=>by unfold jr;split<;>rfl
 refine r.wW (w':=wd (z7 c x X S ns) (s0 c.n c.R ld size)) (λk b=>?_) (λf hf=>?_) (λp hp=>?_) (λk b=>?_) ?_ ?_ ?_
 ·by_cases g:k=0
  ·rw[g];rfl
  ·rw[km g (hk▸b)]
   exact(if_neg g).trans (eW nofun nofun)
 ·have hf:f<2*c.n:=l▸hf
  show q5 (s0 c.n c.R ld size) f=l8 x.h f
  unfold q5 l8
  rw[j,o f hf];rfl
 ·have hp:p<c.n:=l▸hp
  show pU (s0 c.n c.R ld size) p=x.Q p
  rw[q p hp]
  unfold pU
  rw[j,j];rfl
 ·have b:k<c.n+1:=hk▸b
  show yt (s0 c.n c.R ld size) k=x.D k
  by_cases g:k=0
  ·rw[g,D0];rfl
  ·refine(if_neg g).trans ?_
   show yr (ib c.n (ri c.n k)) (out (ri c.n k)) (2*bN c.n (ri c.n k)) (2*ri c.n k+1) true true=_
   rw[KR (q6 g)]
   by_cases e:k=c.n
   ·rw[e,Dn,show ri c.n c.n=0 from if_pos rfl];rfl
   ·rw[D k (Nat.pos_of_ne_zero g) (Nat.lt_of_le_of_ne (Nat.le_of_lt_succ b) e),show ri c.n k=k from if_neg e,show out k=3 from if_neg g,show bN c.n k=k-1 from if_neg g];rfl
 ·show(List.range (2*c.n)).filter (jr (s0 c.n c.R ld size))=List.range (2*x.m)
  rw[l];exact List.filter_eq_self.mpr λf _=>j f
 ·show(List.range c.n).filter (gN (s0 c.n c.R ld size))=List.range x.m
  rw[l];exact List.filter_eq_self.mpr λf _=>by unfold gN;rw[j];rfl
 ·exact(show∀m k,m=c.n→k=c.n→wd (z7 c x X S ns) (s0 c.n c.R ld size)=⟨c.n,c.R,(k+2:Nat),_,_,2*m,_,m,x.rb,_,x.dl,k+1,_,some c.ol,_,X,S,ns⟩fromλm k e e'=>by subst e;subst e';rfl) x.m x.eJ l hk
structure R3(H:Hp)(c:Wc)(x:Wr)(X:Nat→Option (List MV))(S:Nat→MO)(t:Nat)(a:Bool)(ld:Laid):Prop where
 r:Rep H (wr c x X S t)
 m:x.m=t+1
 eJ:x.eJ=t+1
 h:∀f,f<2*(t+1)→x.h f=if f=2*t∨f=1 then 2 else 1
 D0:x.D 0=S4 a (bV (2*t)) .none (bV 1) .none
 Dn:x.D (t+1)=S4 a (bV (2*t)) .none (bV 1) .none
 D:∀k,0<k→k≤t→x.D k=dk k
 Q:∀p,p≤t→x.Q p=⟨(Laid.at ld p).1,true,true⟩
theorem Rg.last(G:Rg H c x X S t a rl ld)(q:t+1=c.n):∃H1 v,Fn 6 836 [c_,br 0,.int (sa a:Nat),.int (1:Nat),.lst []] H (sV t) (Hp.new H1 .S (.bu (iP (t+1) (t+2:Nat) (ii (t+1)) 1)))∧R3 H1 c v X S t a ld:=by
 have j:=G.eJ
 have z:2*t<2*(t+1):=Nat.lt_trans (Nat.lt_succ_self _) (Nat.lt_succ_self _)
 have y:1<2*(t+1):=Nat.lt_of_lt_of_le (by decide) (Nat.mul_le_mul_left 2 (Nat.le_add_left 1 t))
 have A:∀f,f<2*x.m→0<x.h f:=λf hf=>by rw[G.m]at hf;rw[G.h f hf];exact Nat.one_pos
 have w:∀f,f<2*(t+1)→more x.h (U2 a (2*t) 1) f=if f=2*t∨f=1 then 2 else 1:=λf hf=>by
  rw[z5 (ES four.1),G.h f hf]
  exact ite_congr (propext ER) (λ_=>rfl) λ_=>rfl
 obtain⟨g,rg,H1,pr,b⟩:=z4 (us:=U2 a (2*t) 1) (ρ:=[(aS,c_),(aC,br 0),(dP,.int (sa a:Nat)),(fk,.int (1:Nat)),(hh,.lst [])]) G.r G.u2 (by rw[j];exact Nat.le_of_eq q) (by rw[G.D0];exact EO) (Ms (by rw[G.m];exact z) (by rw[G.m];exact y) A) rfl rfl
 rw[j,EP]at b
 rw[j]at pr
 have hp:H1.o .Process (t+1)=.inst ((pG (upd x.rg (t+1) rg) (t+1)).pr.fs (t+1)):=(b.P (t+1) (Nat.le_of_eq q)).trans (congrArg (λp:Pw=>MO.inst (p.pr.fs (t+1))) (km (Nat.succ_ne_zero t) (Nat.le_refl _)))
 have mb:=xa (us:=[]) (m:=0) rfl pr (.stop .s) hp
 have s0:=z6 G.par
 rw[show H1.n .S=t from b.ns,s0.2.1]at mb
 rw[s0.2.1]
 exact⟨H1,_,mb,b,G.m,rfl,w,G.D0,(show upd x.D (t+1) _ (t+1)=_ from aE),λk B u=>bp (λl:List MV=>l=dk k) (λe=>absurd e (Nat.ne_of_lt (Nat.lt_succ_of_le u))) λ_=>G.D k B u,G.Q⟩
theorem R3.close(G:R3 H c x X S t a ld){X':Nat→Option (List MV)}{S':Nat→MO}{H2:Hp}(r:Rep H2 (wr c x X' S' (t+1)))(b:t+1=c.n)(h2:2≤c.n)(A:a=decide (t%2=0)):∃e g v,Fn 5 323 [c_,br 0,.int (sa a:Nat)] H2 (.int 0) e∧e.o .aM 0=.inst [(bc,xf)]∧Fn 5 323 [c_,br 0,.int (1:Nat)] e (.int 0) g∧Rep g (wd (z7 c v X' S' (t+1)) (s0 c.n c.R ld size)):=by
 have u:2*t<2*(t+1):=Nat.lt_trans (Nat.lt_succ_self _) (Nat.lt_succ_self _)
 have s:1<2*(t+1):=Nat.lt_of_lt_of_le (by decide) (Nat.mul_le_mul_left 2 (Nat.le_add_left 1 t))
 obtain⟨e,I,j⟩:=iO (k:=0) (dk:=0) (i:=sa a) (f:=2*t) (y:=0) r (Nat.zero_le _) rfl (Nat.succ_pos _) (by rw[G.D0];exact oG.1) (by rw[G.m];exact u) ((G.h _ u).trans (if_pos (.inl rfl)))
 rw[G.D0]at j
 obtain⟨g,F,w⟩:=iO (k:=0) (dk:=0) (i:=1) (f:=1) (y:=0) j (Nat.zero_le _) rfl (Nat.succ_pos _) (show(upd x.D 0 _ 0)[1]? =_ by rw[aE];cases a<;>rfl) (by show 1<2*x.m;rw[G.m];exact s) (show upd x.h (2*t) 1 1=2 from(aQ (f:=x.h) (x:=1) four.1.symm).trans ((G.h _ s).trans (if_pos (.inr rfl))))
 have D0:upd (upd x.D 0 ((S4 a (bV (2*t)) .none (bV 1) .none).set (sa a) .none)) 0 ((upd x.D 0 ((S4 a (bV (2*t)) .none (bV 1) .none).set (sa a) .none) 0).set 1 .none) 0=List.replicate 4 .none:=aE.trans ((congrArg (λl:List MV=>l.set 1 .none) aE).trans (by cases a<;>rfl))
 refine⟨e,g,_,I,j.pc,F,Mt w h2 (G.m.trans b) (G.eJ.trans b) (λf hf=>?_) D0 (λk q B=>?_) ?_ λp hp=>G.Q p (Nat.le_of_lt_succ (Nat.lt_of_lt_of_le hp (Nat.le_of_eq b.symm)))⟩
 ·exact bp (λy:Nat=>y=1) (λ_=>rfl) λE=>bp (λy:Nat=>y=1) (λ_=>rfl) λC=>(G.h f (b▸hf)).trans (if_neg λz=>z.elim C E)
 ·exact bp (λl:List MV=>l=dk k) (λz=>absurd z (Nat.ne_of_gt q)) λ_=>bp (λl:List MV=>l=dk k) (λz=>absurd z (Nat.ne_of_gt q)) λ_=>G.D k q (Nat.le_of_lt_succ (Nat.lt_of_lt_of_le B (Nat.le_of_eq b.symm)))
 ·rw[←b]
  refine Eq.trans (show _=S4 a (bV (2*t)) .none (bV 1) .none from G.Dn) ?_
  rw[←(z6 A).2.1]
  cases a<;>rfl
end
noncomputable abbrev Mu:List XS:=[bA (ao (aI (aa a_) (aa cP)) pI [(k2 [el,d2,dc] [(aI (aI (aa cc) (aa cP)) (av 1)),(ak iY [(aa cc),(aa cP)]),(aL .Add (av 1) (ak a6 [(aa bW),(aL .Add (aa b7) (av 1))]))])]),
  ay (pg (aI (aa a_) (aa cP)) (a5 jO)) (aL .Add (ak cn [(aI (aI (aa cc) (aa cP)) (av 0))]) (ak cn [(aI (aI (aa cc) (aa cP)) (av 1))]))]
structure Up(H:Hp)(l:Lay)(n R rl j:Nat)(ld:Laid)(sz:Nat→Nat):Prop where
 r:Rep H (wd l (s0 n R ld sz))
 h2:2≤n
 n0:rl≠0
 n2:rl≠2
 ns:l.ns=n+j
 X0:∃a b:Int,l.X 0=some [.int a,.int b]
 X2:l.X 2=some (ld.map dR)
 Xr:l.X rl=some (((List.range n).map (bN n)).map sV)
 S:∀i,i<j→l.S (bN n i)=.bu (o7 (s0 n R ld sz) i).fs
 M:∀i,j≤i→i<n→l.S (bN n i)=.bu (iP (pk n i) (pk n i+1:Nat) (ib n i) (out i))
 sz:∀i,i<j→0<sz i∧sz i≤R+1
section
variable{H H':Hp}{l:Lay}{n R rl j k i:Nat}{ld:Laid}{sz:Nat→Nat}{inner:Nat}
theorem Up.step(U:Up H l n R rl j ld sz)(c:j<n)(hl:ld.length=n)(q:∀i,(Laid.o ld i).length≤100):∃H' K f,gj 6 Mu (xg R rl inner++[(cP,.int j)]) H .next (xg R rl inner++[(cP,.int j)]) H'∧Up H' K n R rl (j+1) ld f:=by
 have n5:n≤5:=U.r.n5
 have n1:n≤1000:=Nat.le_trans n5 (by decide)
 obtain⟨a,b,X0⟩:=U.X0
 obtain⟨v,H1,N,D,a',b',p⟩:=Ej U.r X0 (m:=R+1) (Nat.succ_pos _) (Nat.le_trans (Nat.succ_le_succ U.r.R4) (by decide))
 have row:∀{H:Hp}{ρ:Loc},H.o .L rl=.list (((List.range n).map (bN n)).map sV)→look a_ ρ=some (.ref .L rl)→look cP ρ=some (.int j)→Ev 6 (aI (aa a_) (aa cP)) ρ H (sV (bN n j)) H:=λh J I=>aW (ae J) (ae I) (.l (.inr ⟨rl,rfl,h⟩) (cx (by rw[List.getElem?_map,du c];rfl) (Nat.lt_of_lt_of_le c (Nat.le_trans n1 (by decide)))))
 have R0:=(U.r.X _ _ U.Xr).1
 have C:=(U.r.X _ _ U.X2).1
 have T:H.o .S (bN n j)=.bu (iP (pk n j) (pk n j+1:Nat) (ib n j) (out j)):=(congrFun U.r.S _).trans (U.M j (Nat.le_refl j) c)
 have d:H1.n .S=n+j:=p.ns.trans U.ns
 have ne:n+j≠bN n j:=Nat.ne_of_gt (Nat.lt_of_lt_of_le (dw c) (Nat.le_add_right n j))
 have O:Ev 6 (k2 [el,d2,dc] [(aI (aI (aa cc) (aa cP)) (av 1)),(ak iY [(aa cc),(aa cP)]),(aL .Add (av 1) (ak a6 [(aa bW),(aL .Add (aa b7) (av 1))]))]) (xg R rl inner++[(cP,.int j)]) H (.ref .S (H1.n .S)) (H1.new .S (.bu ([el,d2,dc].zip [.bytes (Laid.at ld j).2,.bytes (cX (Laid.o ld) n j n),.int (1+(v:Int))]))):=
  t7 (er (aW (kD C hl n1 c (ae rfl) (ae rfl)) ar (.t (cx (j:=1) rfl (by decide)))) (er (dt wm (ag (ae rfl) (ag (ae rfl) aj)) ((KI C hl n5 c q).up 5)) (er (a8 ar (dt dJ (ag (ae rfl) (ag (a8 (ae rfl) ar (.add (R:Int) 1)) aj)) (D.up 5)) (.add _ _)) yd))) (ble rfl)
 have G:=p.Hw (v:=.bu ([el,d2,dc].zip [.bytes (Laid.at ld j).2,.bytes (cX (Laid.o ld) n j n),.int (1+(v:Int))]))
 have Q:(H1.new .S (.bu ([el,d2,dc].zip [.bytes (Laid.at ld j).2,.bytes (cX (Laid.o ld) n j n),.int (1+(v:Int))]))).o .S (bN n j)=.bu (iP (pk n j) (pk n j+1:Nat) (ib n j) (out j)):=(Hp.eh λz=>ne (d.symm.trans z.2.symm)).trans ((congrFun p.S _).trans (U.M j (Nat.le_refl j) c))
 have F:=bS (ρ:=xg R rl inner++[(cP,.int j)]) (AJ (row R0 rfl rfl) T (ag O aj) Q Hp.dN (λz=>ne (d.symm.trans z)) (ble rfl)) rfl rfl
 have g:=G.Kh (k:=bN n j) (v:=.bu (iP (pk n j) (pk n j+1:Nat) (ib n j) (out j)++[(el,.bytes (Laid.at ld j).2),(d2,.bytes (cX (Laid.o ld) n j n)),(dc,.int (1+(v:Int)))]))
 have B:=(g.X 2 _ U.X2).1
 have R3:=(g.X rl _ ((aQ U.n0).trans U.Xr)).1
 have P:(Laid.at ld j).1.length≤1000000:=Nat.le_trans (Nat.le_trans (Nat.le_trans (Nat.le_add_right _ _) (Nat.le_of_eq List.length_append.symm)) (q j)) (by decide)
 have u:(Laid.at ld j).2.length≤1000000:=Nat.le_trans (Nat.le_trans (Nat.le_trans (Nat.le_add_left _ _) (Nat.le_of_eq List.length_append.symm)) (q j)) (by decide)
 have E:=aG (ρ:=xg R rl inner++[(cP,.int j)]) (t:=pg (aI (aa a_) (aa cP)) (a5 jO)) rfl (a8 (ic (aW (kD (e:=aa cc) (e':=aa cP) B hl n1 c (ae rfl) (ae rfl)) (ar (i:=0)) (.t (cx (j:=0) rfl (by decide)))) P) (ic (aW (kD (e:=aa cc) (e':=aa cP) B hl n1 c (ae rfl) (ae rfl)) (ar (i:=1)) (.t (cx (j:=1) rfl (by decide)))) u) (.add _ _)) (gY (row R3 rfl rfl) a7 (.s jO (.int (((Laid.at ld j).1.length:Int)+((Laid.at ld j).2.length:Int))) Hp.bQ (ble rfl)))
 have eq:put jO (.int (((Laid.at ld j).1.length:Int)+((Laid.at ld j).2.length:Int))) (iP (pk n j) (pk n j+1:Nat) (ib n j) (out j)++[(el,.bytes (Laid.at ld j).2),(d2,.bytes (cX (Laid.o ld) n j n)),(dc,.int (1+(v:Int)))])=(o7 (s0 n R ld (upd sz j (1+v))) j).fs:=by
  show iP (pk n j) (pk n j+1:Nat) (ib n j) (out j)++[(el,.bytes (Laid.at ld j).2),(d2,.bytes (cX (Laid.o ld) n j n)),(dc,.int (1+(v:Int))),(jO,.int (((Laid.at ld j).1.length:Int)+((Laid.at ld j).2.length:Int)))]=Ro.fs ⟨pk n j,(pk n j+1:Nat),ib n j,out j,true,0,0,(Laid.at ld j).2,cX (Laid.o ld) n j n,upd sz j (1+v) j,((Laid.o ld j).length:Nat)⟩
  rw[aE,show(Laid.o ld j).length=(Laid.at ld j).1.length+(Laid.at ld j).2.length from List.length_append]
  rfl
 have w:=g.Kh (k:=bN n j) (v:=.bu (o7 (s0 n R ld (upd sz j (1+v))) j).fs)
 rw[←eq]at w
 refine⟨_,{l with X:=upd l.X 0 (some [.int a',.int b']),S:=upd (upd (upd l.S l.ns _) (bN n j) _) (bN n j) _,ns:=l.ns+1},upd sz j (1+v),af F (af E aw),w,U.h2,U.n0,U.n2,congrArg Nat.succ U.ns,⟨a',b',rfl⟩,U.X2,(aQ U.n0).trans U.Xr,λi hi=>?_,λi A h2=>?_,λi hi=>?_⟩
 ·refine bp (· =MO.bu (o7 (s0 n R ld (upd sz j (1+v))) i).fs) (λe=>?_) λe=>bp (· =MO.bu (o7 (s0 n R ld (upd sz j (1+v))) i).fs) (λz=>absurd z e) λ_=>bp (· =MO.bu (o7 (s0 n R ld (upd sz j (1+v))) i).fs) (λz=>?_) λ_=>?_
  ·rw[eq,uM (Nat.lt_of_le_of_lt (Nat.le_of_lt_succ hi) c) c e]
  ·exact absurd (z.trans U.ns) (Nat.ne_of_lt (Nat.lt_of_lt_of_le (dw (Nat.lt_of_le_of_lt (Nat.le_of_lt_succ hi) c)) (Nat.le_add_right n j)))
  ·have x:i≠j:=λz=>e (congrArg (bN n) z)
   refine(U.S i (Nat.lt_of_le_of_ne (Nat.le_of_lt_succ hi) x)).trans (congrArg (λs:Nat=>MO.bu (Ro.fs ⟨pk n i,(pk n i+1:Nat),ib n i,out i,true,0,0,(Laid.at ld i).2,cX (Laid.o ld) n i n,s,((Laid.o ld i).length:Nat)⟩)) (aQ x).symm)
 ·have e:bN n i≠bN n j:=λz=>Nat.ne_of_gt A (uM h2 c z)
  exact bp (· =MO.bu (iP (pk n i) (pk n i+1:Nat) (ib n i) (out i))) (λz=>absurd z e) λ_=>bp (· =MO.bu (iP (pk n i) (pk n i+1:Nat) (ib n i) (out i))) (λz=>absurd z e) λ_=>bp (· =MO.bu (iP (pk n i) (pk n i+1:Nat) (ib n i) (out i))) (λz=>absurd (z.trans U.ns) (Nat.ne_of_lt (Nat.lt_of_lt_of_le (dw h2) (Nat.le_add_right n j)))) λ_=>U.M i (Nat.le_of_succ_le A) h2
 ·exact bp (λy:Nat=>0<y∧y≤R+1) (λ_=>⟨Nat.add_comm 1 v▸Nat.succ_pos v,Nat.add_comm 1 v▸N⟩) λe=>U.sz i (Nat.lt_of_le_of_ne (Nat.le_of_lt_succ hi) e)
theorem Hy(hl:ld.length=n)(h:∀i,(Laid.o ld i).length≤100):∀{k j:Nat}{H l sz},j+k=n→Up H l n R rl j ld sz→∃H' g b,e9 6 (bE cP) Mu k (.ny j n) (xg R rl inner) H .next (xg R rl inner) H'∧Up H' g n R rl n ld b:=by
 intro k
 induction k with
 |zero=>exactλ{j H l sz} e U=>⟨H,l,sz,.stop (.r _ _ (Int.ofNat_le.mpr (Nat.le_of_eq e.symm))),(show j=n from e)▸U⟩
 |succ k ih=>
  intro j H l sz e U
  have lt:j<n:=e▸Nat.lt_add_of_pos_right (Nat.succ_pos k)
  obtain⟨H1,p,c,f,m⟩:=U.step (inner:=inner) lt hl h
  obtain⟨H2,d,a,D,U2⟩:=ih (j:=j+1) ((Nat.succ_add_eq_add_succ j k).trans e) m
  exact⟨H2,d,a,.step (.r _ _ (Int.ofNat_lt.mpr lt)) aA (cV (ρ':=xg R rl inner) (r:=[(cP,.int j)]) f) D,U2⟩
end
noncomputable abbrev OV(R:Nat):Loc:=[(bW,.ref .L 0),(aS,c_),(aC,br 0),(cc,.ref .L 2),(b7,.int R)]
noncomputable abbrev NO(r:List XS):List XS:=ay (et ([dP,jN].map bE)) (ao (aa aS) bC [(aa aC)])::
 bA (ao (aa aS) eN [(aa aC),(aa jN),(aI (aI (aa cc) (av 0)) (av 0))])::
 ay (bE a_) (cI [])::r
structure MK(H:Hp)(c:Wc)(x:Wr)(X:Nat→Option (List MV))(S:Nat→MO)(ld:Laid):Prop where
 r:Rep H (wr c x X S 0)
 m:x.m=0
 eJ:x.eJ=0
 D0:x.D 0=List.replicate 4 .none
 X0:∃a b:Int,X 0=some [.int a,.int b]
 X2:X 2=some (ld.map dR)
 u2:c.r0.length=32
section
variable{H H':Hp}{c:Wc}{x:Wr}{X:Nat→Option (List MV)}{S:Nat→MO}{t rl d n i ns:Nat}{a:Bool}{ld:Laid}{ρ:Loc}{size:Nat→Nat}
theorem MK.go(G:MK H c x X S ld)(u:2≤c.n)(hl:ld.length=c.n)(w:c.n≤5)(hb:(Laid.at ld 0).1.length≤c.R){R:Nat}:∃H' v X' rl,(∀{r f ρ' H2},gj 6 r (xg R rl (sa true)) H' f ρ' H2→gj 6 (NO r) (OV R) H f ρ' H2)∧Rg H' c v X' S 0 true rl ld:=by
 obtain⟨g,H1,C,b⟩:=z3 (i1:=0) (i2:=1) G.r (by rw[G.m];exact Nat.le_of_succ_le u) (by
  rw[G.D0,G.m]
  exact⟨_,rfl,Nat.le_add_left 2 2,rfl,λq l=>absurd l (Nat.not_lt_zero q),rfl,λq l=>match q,l with
   |0,_=>⟨_,rfl,rfl⟩
   |_+1,h=>absurd h (Nat.not_lt_of_le (Nat.le_add_left 1 _))⟩)
 rw[G.D0,G.m]at b
 obtain⟨H2,B,e⟩:=w_ (i:=1) (p:=0) (bs:=(Laid.at ld 0).1) b (Nat.lt_succ_self _) rfl rfl hb
 obtain⟨E,D,X0⟩:=G.X0
 have F:=(b.X _ _ G.X2).1
 have s:=(e.X _ _ X0).2
 have o:=(e.X _ _ G.X2).2
 refine⟨H2.new .L (.list []),_,upd X (H2.n .L) (some []),H2.n .L,λz=>af (aG rfl (bU gD rfl (ae rfl) G.r.pc rfl (ag (ae rfl) aj) (C.up 1)) (eL (bw aA (bw aA dA)) rfl))
  (af (bS (bU dI rfl (ae rfl) b.pc rfl (ag (ae rfl) (ag (ae rfl) (ag (aW (kD F hl (Nat.le_trans w (by decide)) (Nat.lt_of_lt_of_le (by decide) u) (ae rfl) (ar (i:=(0:Nat)))) ar (.t (cx (j:=0) rfl (by decide)))) aj))) (B.up 1)) rfl rfl)
  (af (aG rfl (kr aj (ble rfl)) aA) z)),e.newX,rfl,G.eJ,λf hf=>?_,rfl,λk A y=>absurd A (Nat.not_lt_of_le y),λp hp=>?_,⟨E,D,(aQ (Nat.ne_of_lt s)).trans X0⟩,(aQ (Nat.ne_of_lt o)).trans G.X2,aE,λk hk=>absurd hk (Nat.not_lt_zero k),rfl,Nat.ne_of_gt s,Nat.ne_of_gt o,G.u2⟩
 ·exact match f,hf with
  |0,_=>rfl
  |1,_=>rfl
  |_+2,h=>absurd h (Nat.not_lt_of_le (Nat.le_add_left 2 _))
 ·rw[Nat.le_zero.mp hp];rfl
theorem Hz:sV t::(List.range t).map sV=((List.range (t+1)).map (bN (t+1))).map sV:=by
 rw[List.range_succ_eq_map,List.map_cons,List.map_cons,List.map_map,List.map_map];rfl
end
section
variable{H H':Hp}{c:Wc}{x:Wr}{X:Nat→Option (List MV)}{S:Nat→MO}{t rl d n i ns:Nat}{a:Bool}{ld:Laid}{ρ:Loc}{size:Nat→Nat}
noncomputable abbrev NP(r:List XS):List XS:=bA (ao (aa a_) pH [(av 0),(ak fz [(aa aS),(aa aC),(aa dP),(aa jN),(cI [])])])::
 bA (ao (aa aS) dz [(aa aC),(aa dP)])::
 bA (ao (aa aS) dz [(aa aC),(aa jN)])::r
theorem Rg.fin(G:Rg H c x X S t a rl ld)(e:t+1=c.n)(h2:2≤c.n)(q:c.n≤5){R:Nat}:∃H' l,(∀{r f ρ' H2},gj 6 r (xg R rl (sa a)) H' f ρ' H2→gj 6 (NP r) (xg R rl (sa a)) H f ρ' H2)∧Up H' l c.n c.R rl 0 ld size:=by
 obtain⟨D,B,mb,o⟩:=G.last e
 have m:=o.r.Hw (v:=.bu (iP (t+1) (t+2:Nat) (ii (t+1)) 1))
 have w:=m.X rl _ G.Xr
 have j:=m.GH (k:=rl) (vs:=sV t::(List.range t).map sV) G.Xr
 obtain⟨C,y,A,u,g,s,p⟩:=o.close (size:=size) (X':=upd X rl (some (sV t::(List.range t).map sV))) (S':=upd S t (.bu (iP (t+1) (t+2:Nat) (ii (t+1)) 1))) j e h2 G.par
 refine⟨y,_,λz=>af (bS (AI (ae rfl) (G.r.X rl _ G.Xr).1 (ag ar (ag (dt k7 (ag (ae rfl) (ag (ae rfl) (ag (ae rfl) (ag (ae rfl) (ag (e4 aj (ble rfl)) aj))))) mb) aj)) w.1 (by rw[bZ];exact Nat.le_trans (Nat.le_trans (Nat.le_succ t) (Nat.le_trans (Nat.le_of_eq e) q)) (by decide))) rfl rfl)
  (af (nv (k:=0) j.pc rfl rfl (ae rfl) u) (af (nv (k:=0) g rfl rfl (ae rfl) s) z)),p,h2,G.n0,G.n2,e,G.X0.imp λa h=>h.imp λb h=>(aQ G.n0.symm).trans h,(aQ G.n2.symm).trans G.X2,e▸aE.trans (congrArg some Hz),λi hi=>absurd hi (Nat.not_lt_zero i),λi _ hi=>?_,λi hi=>absurd hi (Nat.not_lt_zero i)⟩
 rw[←e]at hi⊢
 cases i with
 |zero=>exact aE
 |succ i=>exact(aQ (Nat.ne_of_lt (Nat.lt_of_succ_lt_succ hi))).trans (G.S i (Nat.lt_of_succ_lt_succ hi))
theorem HA(G:MK H c x X S ld)(f:2≤c.n)(hl:ld.length=c.n)(b:c.n≤5)(hb:∀i,(Laid.at ld i).1.length≤c.R)(q:∀i,(Laid.o ld i).length≤100):∃H' l rl sz,Fn 7 843 [.ref .L 0,c_,br 0,.ref .L 2,.int c.R] H (.ref .L rl) H'∧Up H' l c.n c.R rl c.n ld sz:=by
 obtain⟨t,e⟩:∃t,t+1=c.n:=⟨c.n-1,Nat.sub_add_cancel (Nat.le_of_succ_le f)⟩
 have n1:c.n≤1000:=Nat.le_trans b (by decide)
 obtain⟨H1,A,C,rl,p,h⟩:=G.go f hl b (hb 0) (R:=c.R)
 obtain⟨H2,z,X2,D,a,y,j⟩:=Bl hl b hb (R:=c.R) (k:=t) ((Nat.add_comm _ _).trans e) h
 rw[Nat.zero_add]at j
 obtain⟨E,B,m,g⟩:=j.fin (size:=λ_=>1) e f b (R:=c.R)
 obtain⟨v,l4,sz,w,U4⟩:=Hy hl q (inner:=sa a) (Nat.zero_add _) g
 have u:=(h.r.X _ _ h.X2).1
 have s:=(g.r.X _ _ g.X2).1
 exact⟨v,l4,rl,sz,aJ wt rfl (p (af (dQ (si eC (ag ar (ag (jj u hl n1 (ae rfl)) aj)) (by decide) (by rw[Int.natAbs_natCast];exact Nat.lt_of_le_of_lt n1 (by decide))) rfl y) (m (af (dQ (eI eC (ag (jj s hl n1 (ae rfl)) aj) (by rw[Int.natAbs_natCast];exact Nat.lt_of_le_of_lt n1 (by decide))) rfl w) (az (aY (ae rfl)) rfl))))) rfl,U4⟩
end
section
variable{H H':Hp}{k m d:Nat}{ρ:Loc}
noncomputable def HN(H:Hp)(k i:Nat):Hp:=H.new .Process (.inst ((qY.fs k).take i))
theorem fO{e:XE}{v:MV}{a:Nm}{i:Nat}(b:e.cp=true)(h:Ev d e [(ai,br (H.n .Process))] (HN H k i) v (HN H k i))(hf:mr .Process a=true)(q:put a v ((qY.fs k).take i)=(qY.fs k).take (i+1))(hi:i≤1000):eu d (ay (cQ (aa ai) a) e) [(ai,br (H.n .Process))] (HN H k i) .next [(ai,br (H.n .Process))] (HN H k (i+1)):=
 dK (cu rfl b h hf (Nat.le_trans (List.length_take_le ..) hi)) (congrArg (λfs=>H.new .Process (.inst fs)) q)
theorem ET:Fn 1 619 [br (H.n .Process)] (HN H k 1) .none (HN H k 19):=
 aJ jo rfl (af (fO (i:=1) rfl ar rfl rfl (by decide)) (af (fO (i:=2) rfl (ey ky) rfl rfl (by decide)) (af (fO (i:=3) rfl a3 rfl rfl (by decide)) (af (fO (i:=4) rfl a3 rfl rfl (by decide)) (af (fO (i:=5) rfl (xG (e4 (ag ar aj) (ble rfl)) ar (.inl rfl) (by decide) (by decide)) rfl rfl (by decide)) (af (fO (i:=6) rfl ar rfl rfl (by decide)) (af (fO (i:=7) rfl a3 rfl rfl (by decide)) (af (fO (i:=8) rfl a3 rfl rfl (by decide)) (af (fO (i:=9) rfl a7 rfl rfl (by decide)) (af (fO (i:=10) rfl a3 rfl rfl (by decide)) (af (fO (i:=11) rfl dV rfl rfl (by decide)) (af (fO (i:=12) rfl ar rfl rfl (by decide)) (af (fO (i:=13) rfl a3 rfl rfl (by decide)) (af (fO (i:=14) rfl ar rfl rfl (by decide)) (af (fO (i:=15) rfl a3 rfl rfl (by decide)) (af (fO (i:=16) rfl a3 rfl rfl (by decide)) (af (fO (i:=17) rfl a3 rfl rfl (by decide)) (af (fO (i:=18) rfl ar rfl rfl (by decide)) (aw))))))))))))))))))) rfl
theorem Bm:Fn 2 612 [br (H.n .Process),.int k] (H.new .Process (.inst [])) .none (H.new .Process (.inst (qY.fs k))):=
 aJ lN rfl (af (cu rfl rfl (ae rfl) rfl (ble rfl)) (af (bS (bU gx rfl (ae rfl) (Hp.dN (H:=H)) rfl aj (ET (k:=k))) rfl rfl) aw)) rfl
noncomputable def E4(H:Hp)(m:Nat):Hp:=⟨λc j=>if c=.Process∧j<m then .inst (qY.fs j)else H.o c j,λc=>if c=.Process then m else H.n c⟩
theorem NQ(h:H.n .Process=0):E4 H 0=H:=by
 cases H with
 |mk o n=>exact congr (congrArg Hp.mk (funext λc=>funext λj=>if_neg λz=>Nat.not_lt_zero _ z.2)) (funext λc=>by
   show(if c=.Process then 0 else n c)=n c
   by_cases e:c=.Process
   ·rw[if_pos e,e];exact h.symm
   ·rw[if_neg e])
theorem HC:(E4 H k).new .Process (.inst (qY.fs k))=E4 H (k+1):=
 congr (congrArg Hp.mk (funext λc=>funext λj=>by
  show(if c=.Process∧j=k then MO.inst (qY.fs k)else if c=.Process∧j<k then .inst (qY.fs j)else H.o c j)=if c=.Process∧j<k+1 then .inst (qY.fs j)else H.o c j
  by_cases e:c=.Process
  ·by_cases a:j=k
   ·rw[if_pos ⟨e,a⟩,if_pos ⟨e,a▸Nat.lt_succ_self _⟩,a]
   ·rw[if_neg λz=>a z.2]
    exact ite_congr (propext ⟨λz=>⟨z.1,Nat.lt_succ_of_lt z.2⟩,λz=>⟨z.1,Nat.lt_of_le_of_ne (Nat.le_of_lt_succ z.2) a⟩⟩) (λ_=>rfl) λ_=>rfl
  ·rw[if_neg λz=>e z.1,if_neg λz=>e z.1,if_neg λz=>e z.1])) (funext λc=>by
  show(if c=.Process then k+1 else if c=.Process then k else H.n c)=if c=.Process then k+1 else H.n c
  by_cases e:c=.Process
  ·rw[if_pos e,if_pos e]
  ·rw[if_neg e,if_neg e,if_neg e])
theorem HD:∀{j k:Nat},k+j=m→rA 3 (bE dO) [dO] [] (ak mj [(aa dO)]) [(ai,eU),(ea,.int m)] j (.ny k m) (E4 H k) ((List.range' k j).map br) (E4 H m):=by
 intro j
 induction j with
 |zero=>exactλ{k} e=>(show k=m from e)▸ .stop (.r _ _ (Int.le_refl _))
 |succ j ih=>exactλ{k} e=>.yes (.r _ _ (Int.ofNat_lt.mpr (e▸Nat.lt_add_of_pos_right (Nat.succ_pos j)))) gw eS (HC▸h7 AO (ag (ae rfl) aj) Bm) (ih ((Nat.succ_add_eq_add_succ k j).trans e))
theorem HE(b:H.n .Table=0)(e:H.n .Process=0)(a:m≤1000):Fn 4 667 [eU,.int m] (H.new .Table (.inst [])) .none ((E4 (H.new .Table (.inst [])) m).set .Table 0 (.inst (u0 (List.range m) 1 ((m:Int)-1) .none))):=
 have cp:rA 3 (bE dO) [dO] [] (ak mj [(aa dO)]) [(ai,eU),(ea,.int m)] m (.ny 0 m) (H.new .Table (.inst [])) ((List.range m).map br) (E4 (H.new .Table (.inst [])) m):=by
  have c:=HD (H:=H.new .Table (.inst [])) (Nat.zero_add m)
  rw[NQ (H:=H.new .Table (.inst [])) e]at c
  rw[List.range_eq_range']
  exact c
 have f:(E4 (H.new .Table (.inst [])) m).o .Table 0=.inst []:=(congrArg ((H.new .Table (.inst [])).o .Table) b).symm.trans Hp.dN
 aJ oh rfl (af (y9 (fD (fW rfl rfl) (eI eC (ag (ae rfl) aj) (by rw[Int.natAbs_natCast];exact Nat.lt_of_le_of_lt a (by decide))) rfl cp (by rw[List.length_map,List.length_range];exact a)) (d0 (ae rfl) f rfl (ble rfl)))
  (af (qX rfl rfl ar rfl (ble rfl)) (af (qX rfl rfl (a8 (ae rfl) ar (.sub _ _)) rfl (ble rfl)) (af (qX rfl rfl a3 rfl (ble rfl)) (af (qX rfl rfl a3 rfl (ble rfl)) aw))))) rfl
end
noncomputable abbrev Oh(r:List XS):List XS:=ay (bE bH) (ak tw [(aL .Add (aa bJ) (av 1))])::
 ay (bE aZ) (ak iW [(aL .Mult (av 2) (aa bJ)),(ak iU [(aa b7)]),bj,bj,n6,(av 16)])::
 ay (et ([aS,aC].map bE)) (cS [(ak fX [(ak tj [(aa bH),(aa aZ)])]),(ao (aa bH) BM [(a5 aC)])])::
 ay (cQ (aa aC) aZ) (ak fw [(av 4)])::
 bA (ao (aa bH) aT [(aa aC)])::r
noncomputable abbrev lw(v:MV)(sm:Bool)(n R:Nat):Loc:=[(dh,v),(cB,.bool sm),(bW,.ref .L 0),(bJ,.int n),(b7,.int R),(cc,.ref .L 2)]
noncomputable abbrev Mv(v:MV)(sm:Bool)(n R:Nat):Loc:=[(dh,v),(cB,.bool sm),(bW,.ref .L 0),(bJ,.int n),(b7,.int R),(cc,.ref .L 2),(bH,eU),(aZ,jq),(aS,c_),(aC,br 0)]
noncomputable def Oi:Pr:=⟨1,cO,.none,.none,aC,.none,false,0,0,.lst (List.replicate 32 (.int 0))⟩
noncomputable def NR:Pr:=⟨1,cO,.none,gF 0,aC,.none,false,0,0,.lst (List.replicate 32 (.int 0))⟩
section
variable(a b:Int)(sw us:List MV)(n R:Nat)
noncomputable def K1:Hp:=(E4 ((HM a b sw us).new .Table (.inst [])) (n+1)).set .Table 0 (.inst (u0 (List.range (n+1)) 1 ((n+1:Nat)-1:Int) .none))
noncomputable def K2:Hp:=((K1 a b sw us n).new .cm (.inst (Ka R 0 0))).new .D (.dy [])
noncomputable def K3:Hp:=(((K2 a b sw us n R).new .D (.dy [])).new .bI (.inst (Lf n (.ref .L 3)))).new .L (.list [])
noncomputable def K4:Hp:=(((K3 a b sw us n R).new .Parts (.inst MH)).new .D (.dy [])).new .aM (.inst [(bc,xf)])
noncomputable def K5:Hp:=(((K4 a b sw us n R).set .Table 0 (.inst (u0 (List.range (n+1)) 2 ((n+1:Nat)-1:Int) .none))).set .Process 0 (.inst (Oi.fs 0))).set .Table 0 (.inst (u0 (List.range (n+1)) 2 ((n+1:Nat)-1:Int) (br 0)))
noncomputable def K6:Hp:=(((K5 a b sw us n R).new .Descriptors (.inst (uZ 4 4))).new .L (.list (List.replicate 4 .none))).set .Process 0 (.inst (NR.fs 0))
noncomputable def K7:Hp:=dT (K6 a b sw us n R) 0 {NR with state:=aT,fm:=.none}
end
section
variable{a b:Int}{sw us:List MV}{n R:Nat}{v:MV}{sm:Bool}
theorem EU{H:Hp}{m j:Nat}(h:j<m):(E4 H m).o .Process j=.inst (qY.fs j):=if_pos ⟨rfl,h⟩
theorem HF(c:n≤5):Ev 24 (ak tw [(aL .Add (aa bJ) (av 1))]) (lw v sm n R) (HM a b sw us) eU (K1 a b sw us n):=
 h7 (d:=23) Gj (ag (a8 (ae rfl) ar (.add (n:Int) 1)) aj) ((HE (H:=HM a b sw us) (m:=n+1) rfl rfl (Nat.le_trans (Nat.succ_le_succ c) (by decide))).up 19)
theorem HG(c:1≤n)(e:n≤5):Ev 24 (ak iW [(aL .Mult (av 2) (aa bJ)),(ak iU [(aa b7)]),bj,bj,n6,(av 16)]) (lw v sm n R++[(bH,eU)]) (K1 a b sw us n) jq (K3 a b sw us n R):=
 h7 (d:=23) vZ (ag (a8 ar (ae rfl) (.mul 2 (n:Int) (by rw[Int.natAbs_natCast];exact Nat.lt_of_le_of_lt e (by decide)))) (ag (h7 (d:=23) vW (ag (ae rfl) aj) ((wL (H:=K1 a b sw us n) (R:=R)).up 22)) (ag a3 (ag a3 (ag qN (ag ar aj))))))
  ((wM (H:=(K2 a b sw us n R).new .D (.dy [])) (m:=2*n) (Nat.le_trans c (Nat.le_mul_of_pos_left n (by decide)))).up 22)
theorem HH:Ev 24 (cS [(ak fX [(ak tj [(aa bH),(aa aZ)])]),(ao (aa bH) BM [(a5 aC)])]) (lw v sm n R++[(bH,eU),(aZ,jq)]) (K3 a b sw us n R) (.tup [c_,br 0]) (K5 a b sw us n R):=by
 have e:(K4 a b sw us n R).o .Table 0=.inst (u0 (List.range (n+1)) 1 ((n+1:Nat)-1:Int) .none):=rfl
 have f:Ps (K4 a b sw us n R) (λ_=>qY) (List.range (n+1)):=λk hk=>EU (List.mem_range.mp hk)
 have fd:(List.range (n+1)).find? (λj=>((λ_:Nat=>qY) j).state.c.beq bf.c)=some 0:=by
  rw[List.range_succ_eq_map,List.find?_cons_of_pos rfl]
 exact ct (ag (h7 (d:=23) qS (ag (h7 (d:=23) Gi (ag (ae rfl) (ag (ae rfl) aj)) ((GA (H:=K3 a b sw us n R)).up 22)) aj) ((q3 (H:=((K3 a b sw us n R).new .Parts (.inst MH)).new .D (.dy []))).up 22))
  (ag (bU oY rfl (ae rfl) e rfl (ag a7 aj) ((Iv (nm:=aC) e fd f).up 22)) aj)) (ble rfl)
theorem HI:eu 24 (ay (cQ (aa aC) aZ) (ak fw [(av 4)])) (Mv v sm n R) (K5 a b sw us n R) .next (Mv v sm n R) (K6 a b sw us n R):=by
 have c:(((K5 a b sw us n R).new .Descriptors (.inst (uZ 4 4))).new .L (.list (List.replicate 4 .none))).o .Process 0=.inst (Oi.fs 0):=rfl
 exact aG rfl (h7 (d:=23) k3 (ag ar aj) ((k9 (H:=K5 a b sw us n R) (m:=4) (by decide) (by decide)).up 22)) (d0 (ae rfl) c rfl (ble rfl))
theorem HJ:eu 24 (bA (ao (aa bH) aT [(aa aC)])) (Mv v sm n R) (K6 a b sw us n R) .next (Mv v sm n R) (K7 a b sw us n R):=by
 have c:(K6 a b sw us n R).o .Table 0=.inst (u0 (List.range (n+1)) 2 ((n+1:Nat)-1:Int) (br 0)):=rfl
 have d:(K6 a b sw us n R).o .Process 0=.inst (NR.fs 0):=rfl
 exact bS (bU fZ rfl (ae rfl) c rfl (ag (ae rfl) aj) ((pQ d c rfl).up 23)) rfl rfl
theorem k_all(e:1≤n)(c:n≤5){r:List XS}{f:Fl}{ρ':Loc}{d:Hp}(z:gj 24 r (Mv v sm n R) (K7 a b sw us n R) f ρ' d):gj 24 (Oh r) (lw v sm n R) (HM a b sw us) f ρ' d:=
 af (aG rfl (HF c) aA) (af (aG rfl (HG e c) aA) (af (aG rfl HH (eL (bw aA (bw aA dA)) rfl)) (af HI (af HJ z))))
end
noncomputable def ML(n R:Nat):Wc:=⟨n,R,List.replicate 32 (.int 0),3⟩
noncomputable def MM:Wr:=⟨0,0,λ_=>0,λ_=>List.replicate 4 .none,λ_=>⟨[],true,true⟩,λ_=>.none,λ_=>4,λ_=>0⟩
noncomputable def NS(a b:Int)(us:List MV):Nat→Option (List MV):=upd (upd (λ_=>none) 0 (some [.int a,.int b])) 2 (some us)
section
variable{a b:Int}{sw us:List MV}{n R:Nat}{ld:Laid}
theorem OW:∀k,k≤n→(K7 a b sw us n R).o .Process k=.inst (((wr (ML n R) MM (NS a b us) (λ_=>.dD []) 0).P k).pr.fs k)
 |0,_=>rfl
 |k+1,hk=>(EU (H:=(HM a b sw us).new .Table (.inst [])) (Nat.lt_succ_of_le hk)).trans (congrArg (λp:Pw=>MO.inst (p.pr.fs (k+1))) (z2 (c:=ML n R) (x:=MM) (Nat.succ_ne_zero k) (Nat.not_succ_le_zero k)).symm)
theorem Mw(g:n≤5)(d:0<R)(f:R≤10):Rep (K7 a b sw us n R) (wr (ML n R) MM (NS a b us) (λ_=>.dD []) 0)where
 n5:=g
 R0:=d
 R4:=f
 pc:=rfl
 pa:=rfl
 tb:=(congrArg (λi:Int=>MO.inst (u0 (List.range (n+1)) 2 i (br 0))) (show((n+1:Nat):Int)-1=(n:Int)from Int.add_sub_cancel (n:Int) 1))
 ft:=rfl
 P:=OW
 F:=λk hk=>absurd hk (Nat.not_lt_zero k)
 nf:=rfl
 Q:=λk hk=>absurd hk (Nat.not_lt_zero k)
 Qj:=λj k c=>absurd c (Nat.not_lt_zero j)
 nq:=rfl
 D:=λk hk=>by rw[Nat.lt_one_iff.mp hk];exact⟨rfl,rfl,rfl,Nat.lt_succ_self 4,rfl⟩
 Dj:=λj k c hk _=>(Nat.lt_one_iff.mp c).trans (Nat.lt_one_iff.mp hk).symm
 nd:=rfl
 ol:=λj h=>by cases h;exact⟨rfl,Nat.lt_succ_of_lt (Nat.lt_succ_self 3),rfl,λk _=>(by decide:(4:Nat)≠3)⟩
 op:=⟨Nat.zero_le _,nofun⟩
 pt:=rfl
 E2:=rfl
 Lg:=Nat.zero_le _
 X:=λj vs h=>by
  by_cases e:j=2
  ·subst e;cases h;exact⟨rfl,(by decide:(2:Nat)<5)⟩
  ·by_cases e0:j=0
   ·subst e0;cases h;exact⟨rfl,(by decide:(0:Nat)<5)⟩
   ·exact nomatch ((aQ e).trans (aQ e0)).symm.trans h
 S:=rfl
 ns:=rfl
theorem NT(e:n≤5)(c:0<R)(d:R≤10):MK (K7 a b sw (ld.map dR) n R) (ML n R) MM (NS a b (ld.map dR)) (λ_=>.dD []) ld:=
 ⟨Mw e c d,rfl,rfl,rfl,⟨a,b,rfl⟩,rfl,rfl⟩
end
noncomputable abbrev NU(v:MV)(sm:Bool)(n R c:Nat):Loc:=[(dh,v),(cB,.bool sm),(bW,.ref .L 0),(bJ,.int n),(b7,.int R),(cc,.ref .L 2),(bH,eU),(aZ,jq),(aS,c_),(aC,br 0),(a_,.ref .L c)]
noncomputable abbrev z8(v:MV)(sm:Bool)(n R c:Nat):Loc:=[(dh,v),(cB,.bool sm),(bW,.ref .L 0),(bJ,.int n),(b7,.int R),(cc,.ref .L 2),(bH,eU),(aZ,jq),(aS,c_),(aC,br 0),(a_,.ref .L c),(b9,.lst ((List.range n).map gm)),(aB,sV (il n))]
noncomputable abbrev HK:XE:=aq (ao (aq (aI (aa b6) (a5 ah)) aZ) kE [(aI (aa b6) (a5 fk))]) bC
section
variable{H H':Hp}{l:Lay}{s:RS}{n R rl i:Nat}{ld:Laid}{sz:Nat→Nat}{v:MV}{sm:Bool}{ρ:Loc}
theorem KS{d:Nat}(r:Rep H (wd l s))(h2:2≤s.n)(hi:i<s.n)(f:(s.p i).st≠ .unused)(a:(s.p i).wo=true){fs:Loc}{j:Nat}(b:H.o .S j=.bu fs)(e:look ah fs=some (br (pk s.n i)))(c:look fk fs=some (.int (out i:Nat)))(lk:look b6 ρ=some (sV j)):Ev (d+1) HK ρ H (gm i) H:=by
 have A:=D9 (l:=l) h2 hi f a
 have g:(wd l s).F (2*i+1)=⟨false,1,i⟩:=wX a
 have F:=(r.F _ A.hf).1
 rw[g]at F
 exact au (bU fG rfl (au (aW (ae lk) a7 (.s b e)) (r.P _ A.hk) rfl (congrArg (λo:Option Nat=>some (oV gF o)) A.fl)) (r.D _ A.hd).1 rfl (ag (aW (ae lk) a7 (.s b c)) aj) (Nat.add_comm 1 d▸(A.get r).up d)) F rfl rfl
theorem Up.Mx(U:Up H l n R rl n ld sz):∃b,(∀{r f ρ' H2},gj 24 r (z8 v sm n R rl) (H.new .S (.bu (Mj n rl))) f ρ' H2→gj 24 (C8 b9 (bE b6) [b6] (aa a_) [] HK::ay (bE aB) (k2 [aS,aC,a_,b9] [(aa aS),(aa aC),(aa a_),(aa b9)])::r) (NU v sm n R rl) H f ρ' H2)∧St (H.new .S (.bu (Mj n rl))) b (s0 n R ld sz) 0 rl:=by
 have c:∀i,i<n→H.o .S (bN n i)=.bu (o7 (s0 n R ld sz) i).fs:=λi hi=>(congrFun U.r.S _).trans (U.S i hi)
 have cp:rA 24 (bE b6) [b6] [] HK (NU v sm n R rl) (List.range n).length (.lst rl 0) H ((List.range n).map gm) H:=
  iL (f:=λi=>sV (bN n i)) (λi hi=>⟨_,gw,KS (s:=s0 n R ld sz) U.r U.h2 (List.mem_range.mp hi) nofun rfl (c i (List.mem_range.mp hi)) rfl rfl rfl⟩) (ke (j:=0) (U.r.X _ _ U.Xr).1 (by rw[List.map_map];rfl))
 have ns:H.n .S=il n:=U.r.ns.trans U.ns
 have a:Ev 24 (k2 [aS,aC,a_,b9] [(aa aS),(aa aC),(aa a_),(aa b9)]) (NU v sm n R rl++[(b9,.lst ((List.range n).map gm))]) H (.ref .S (H.n .S)) (H.new .S (.bu ([aS,aC,a_,b9].zip [c_,br 0,.ref .L rl,.lst ((List.range n).map gm)]))):=
  t7 (er (ae rfl) (er (ae rfl) (er (ae rfl) (er (ae rfl) yd)))) (ble rfl)
 rw[ns]at a
 have n5:n≤1000:=Nat.le_trans U.r.n5 (by decide)
 refine⟨{l with S:=upd l.S l.ns (.bu (Mj n rl)),ns:=l.ns+1},λz=>af (C9 (fW rfl rfl) (eM (ae rfl) (.l (U.r.X _ _ U.Xr).1)) rfl cp (by rw[bZ];exact n5)) (af (aG rfl a aA) z),U.r.Hw,U.h2,U.X0,U.Xr,λi hi=>?_,?_,U.n0.symm⟩
 ·exact(aQ (Nat.ne_of_lt (U.ns▸yx hi))).trans (U.S i hi)
 ·show upd l.S l.ns _ (il n)=_
  rw[U.ns];exact aE
end
section
variable{H H' H1 H2 H3:Hp}{l:Lay}{s:RS}{n R rl i d:Nat}{v:MV}{sm:Bool}{ρ:Loc}
noncomputable abbrev KU:XE:=mH [aC,aS] (ao (aa aS) jL [(aa aC)])
noncomputable abbrev My:XE:=ao (aa aZ) cD []
theorem sT{m:Nat}(r:Rep H (wd l s))(a:(wd l s).op.length=m):Ev 24 My (z8 v sm n R rl) H (.int (m:Nat)) H:=by
 have c:=DF r.ft rfl r.os (by rw[List.length_map];exact Nat.le_trans r.op.1 (by decide))
 rw[List.length_map,a]at c
 exact bU mR rfl (ae rfl) r.ft rfl aj (c.up 23)
theorem Mz(r:Rep H (wd l s))(f:Fn 4 295 [c_,br 0] H .none H'):Ev 24 KU (z8 v sm n R rl) H (.tup [.str bY,.none]) H':=
 nZ (m:=22) (bU eO rfl (ae rfl) r.pc rfl (ag (ae rfl) aj) (f.up 18))
theorem MA(r:Rep H (wd l s))(f:x8 4 295 [c_,br 0] H H'):Ev 24 KU (z8 v sm n R rl) H (.tup [.str dY,.none]) H':=
 zu (m:=22) (CV eO rfl (ae rfl) r.pc rfl (ag (ae rfl) aj) (f.up 18))
theorem if1(r:Rep H (wd l s))(f:Fn 4 295 [c_,br 0] H .none H1)(a:Rep H1 (wd l {s with fst:=.ax,l0:=.child 1}))(c:n≤5)(e:(wd l s).op.length=2*n):
  eu 24 (bo (nA (aH .NotEq KU (cS [(a5 bY),bj])) [(aH .NotEq My (aL .Mult (av 2) (aa bJ)))]) (xB [bt (cw false)]) (xB [])) (z8 v sm n R rl) H .next (z8 v sm n R rl) H1:=
 aU (gX (da (aD (b:=false) (Mz r f) (ct (ag a7 (ag a3 aj)) (ble rfl)) (.ne (kf .nn))) (da (aD (sT (m:=2*n) a e) (a8 ar (ae rfl) (.mul 2 (n:Int) (by rw[Int.natAbs_natCast];exact Nat.lt_of_le_of_lt c (by decide)))) kC) fB))) aw
end
section
variable{H H' H1 H2 H3:Hp}{l:Lay}{s:RS}{n R rl i d:Nat}{v:MV}{sm:Bool}{ρ:Loc}{q:Rp}
theorem KV(I:Inv s)(u:∀i,i<s.n→(s.p i).st=.unused):(wd l s).op=[]∧(wd l s).pt=[]:=by
 have b:∀i,i<s.n→(s.p i).there=false:=λi hi=>(Bool.not_eq_true _).mp λt=>((I.al i hi).on t).2.elim (λe=>nomatch (u i hi).symm.trans e) λe=>nomatch (u i hi).symm.trans e
 have a:∀f,f<2*s.n→jr s f=false:=λf hf=>by
  have h:=half_lt hf
  have h2:=g5 h
  unfold jr
  split
  ·exact(I.al _ h2).ro.trans (b _ h2)
  ·exact(I.al _ h).wo.trans (b _ h)
 refine⟨List.filter_eq_nil_iff.mpr λf hf=>by rw[a f (List.mem_range.mp hf)];exact nofun,List.filter_eq_nil_iff.mpr λp hp=>?_⟩
 have hp:=List.mem_range.mp hp
 unfold gN
 rw[a _ (Nat.mul_lt_mul_of_pos_left hp (by decide)),a (2*p+1) (Nat.lt_of_lt_of_le (Nat.lt_succ_self _) (Nat.mul_le_mul_left 2 hp))]
 exact nofun
theorem EV(I:Inv (s.ended i q))(b:s.nu):∀j,j<s.n→((s.ended i q).p j).st≠ .unused:=λj a=>by
 by_cases e:j=i
 ·rw[e,RS.ended,cg];exact nofun
 ·exact((I.al j a).on ((congrFun ki j).trans ((aQ e).trans (b j a)))).2.elim (λe=>e▸nofun) λe=>e▸nofun
noncomputable abbrev NV:XS:=bo (nA (aH .NotEq (ao (aa bH) IY []) (cI [(aa aC)])) [(aH .NotEq My (av 0)),(aH .NotEq (ao (aq (aa aZ) b9) cD []) (av 0))]) (xB [bt (cw false)]) (xB [])
theorem OX(a:St H l s 0 d)(I:Inv s)(u:∀i,i<s.n→(s.p i).st=.unused):eu 24 NV (z8 v sm n R rl) H .next (z8 v sm n R rl) H:=by
 have o:=KV (l:=l) I u
 have f:=L' a.r.tb rfl (by rw[List.length_range];exact Nat.le_trans (Nat.succ_le_succ a.r.n5) (by decide)) a.r.ps
 have fl:((List.range ((wd l s).n+1)).filter λj=> !(((wd l s).P j).pr.state.c.beq bf.c))=[0]:=by
  rw[List.range_succ_eq_map,List.filter_cons_of_pos,List.filter_eq_nil_iff.mpr]
  ·intro j g
   obtain⟨k,hk,rfl⟩:=List.mem_map.mp g
   have hk:k+1≤s.n:=List.mem_range.mp hk
   have em:pk s.n (ri s.n (k+1))=k+1:=q6 (Nat.succ_ne_zero k)
   have st:((wd l s).P (k+1)).st=.unused:=(congrArg Pw.st ((congrArg (d3 l s) em.symm).trans (ej (l:=l) a.h2 (q7 (Nat.succ_ne_zero k) hk)))).trans (hM.trans (u _ (q7 (Nat.succ_ne_zero k) hk)))
   show¬(!(((wd l s).P (k+1)).st.nm.c.beq bf.c))=true
   rw[st];exact nofun
  ·show(!(s.fst.nm.c.beq bf.c))=true
   rw[o5,decide_eq_false (I.fs.elim (λe=>e▸nofun) λe=>e.1▸nofun)];rfl
 rw[fl]at f
 have pc:=AV a.r.pt rfl a.r.E2 (by rw[o.2];exact Nat.zero_le _)
 rw[o.2]at pc
 exact aU (gX (da (aD (b:=false) (bU v_ rfl (ae rfl) a.r.tb rfl aj (f.up 22)) (e4 (ag (ae rfl) aj) (ble rfl)) (.ne (.ll [br 0] [br 0] (λ_=>true) (.inl rfl) (.inl rfl) rfl λj x y p q=>match j,p,q with
   |0,p,q=>Option.some.inj p▸Option.some.inj q▸ .rr .Process 0
   |_+1,p,_=>nomatch p)))
  (da (aD (sT (m:=0) a.r (by rw[o.1];rfl)) ar kC) (da (aD (bU mO rfl (au (ae rfl) a.r.ft rfl rfl) a.r.pt rfl aj (pc.up 23)) ar kC) fB)))) aw
end
section
variable{H H' H1 H2 H3:Hp}{l l':Lay}{s:RS}{n R rl i d:Nat}{v:MV}{sm:Bool}{ρ:Loc}{q:Rp}
noncomputable abbrev NW:XS:=bo (fT (ak fA [(aa bW),(aa aB),(aL .Add (av 4) (ak a6 [(aa bW),(nB (aa cB) (av 4) (av 24))])),(aa b7)])) (xB [bt (cw false)]) (xB [])
noncomputable abbrev NX:XS:=bo (nA (fT (ak gW [(aa bW),(aa aB)])) [(fT (ak gs [(aa bW),(aa aB)]))]) (xB [bt (cw false)]) (xB [])
theorem if2{m t:Nat}(c:m=bif sm then 4 else 24)(f:Fn 1 810 [.ref .L 0,.int m] H (.int (t:Nat)) H1)(g:Fn 11 893 [.ref .L 0,sV (il n),.int (4+t:Nat),.int R] H1 (.bool true) H2):eu 24 NW (z8 v sm n R rl) H .next (z8 v sm n R rl) H2:=by
 have a:Ev 24 (nB (aa cB) (av 4) (av 24)) (z8 v sm n R rl) H (.int (m:Nat)) H:=by
  subst c
  cases sm with
  |true=>exact hV (cL (ae rfl) rfl) ar
  |false=>exact hW (cL (ae rfl) rfl) ar
 exact aU (gv (b:=true) (cL (dt lX (ag (ae rfl) (ag (ae rfl) (ag (a8 ar (dt dJ (ag (ae rfl) (ag a aj)) (f.up 23)) (.add 4 (t:Int))) (ag (ae rfl) aj)))) (g.up 13)) rfl)) aw
theorem OY(f:Fn 9 900 [.ref .L 0,sV (il n)] H (.bool true) H1)(g:Fn 11 905 [.ref .L 0,sV (il n)] H1 (.bool true) H2):eu 24 NX (z8 v sm n R rl) H .next (z8 v sm n R rl) H2:=
 aU (gX (da (gv (b:=true) (cL (dt pB (ag (ae rfl) (ag (ae rfl) aj)) (f.up 15)) rfl)) (da (gv (b:=true) (cL (dt ow (ag (ae rfl) (ag (ae rfl) aj)) (g.up 13)) rfl)) fB))) aw
structure Oj(s:RS):Prop where
 I:Inv s
 a:s.nu
 row:(s.row 0).length=s.held
 m:s.held=0∨s.held=s.n*s.R+s.n→s.mode
 le:s.held≤s.n*s.R+s.n
 r:s.cU.length=s.n
 B:(4*(s.n-1)+2)*(s.n*s.R+s.n)+7*s.n+1≤399
 O:∀f,jr s f=true
 st:∀i,i<s.n→(s.p i).st=.ready
theorem HO(c:St H l s 0 rl)(G:Oj s):∃ρ' H',gj 24 [bo (nA (aH .NotEq KU (cS [(a5 bY),bj])) [(aH .NotEq My (aL .Mult (av 2) (aa bJ)))]) (xB [bt (cw false)]) (xB []),NW,NX,NV,bt (aH .Eq KU (cS [(a5 dY),bj]))] (z8 v sm s.n s.R rl) H (.ret (.bool true)) ρ' H':=by
 have n0:0<s.n:=Nat.lt_of_lt_of_le (by decide) c.h2
 have C:∀i,i<s.n→(s.p i).st≠ .cz:=λi hi=>G.st i hi▸nofun
 obtain⟨H1,L,A⟩:=zP c.r c.h2 ⟨0,n0,G.st 0 n0▸nofun⟩ C
 have w:(wd l s).op.length=2*s.n:=(congrArg List.length (List.filter_eq_self.mpr λf _=>G.O f)).trans List.length_range
 have o:St H1 l {s with fst:=.ax,l0:=.child 1} 0 rl:=c.keep A rfl rfl (λi hi=>c.S i hi) rfl
 obtain⟨t,H2,V,ht,K,k⟩:=o.take (m:=bif sm then 4 else 24) (by cases sm<;>decide) (by cases sm<;>decide)
 have u:t<24:=Nat.lt_of_lt_of_le ht (by cases sm<;>decide)
 obtain⟨H3,U,g,J,j,N,y,e,R3,x⟩:=k.Nw (m:=4+t) (G.I.first C) G.a G.row G.m G.le G.r (Nat.le_trans (Nat.add_le_add_left (Nat.le_of_lt u) 4) (by decide))
 have e:g.n=s.n:=e
 have R3:g.R=s.R:=R3
 have x:g.held=s.held:=x
 obtain⟨i,q,X,l4,hi,E,h,F⟩:=j.one N y
 obtain⟨P,T,Q,D,b,z,W,M⟩:=h.rest F hi (by rw[RS.ended,cg];rfl) (EV F y) (G' y hi (by rw[x,e,R3];exact G.le) (by rw[e,R3];exact G.B))
 rw[e]at E
 rw[show(g.ended i q).n=s.n from e]at D
 exact⟨_,P,af (if1 c.r L A c.r.n5 w) (af (if2 rfl K J) (af (OY E D) (af (OX b M z) (az (aY (fS (MA b.r (G1 b.r b.h2 z)) (ct (ag a7 (ag a3 aj)) (ble rfl)) (.eq (kf .nn)))) rfl))))⟩
end
noncomputable def roomF(n:Nat):Nat:=if n=2 then 4 else if n=3 then 3 else 2
theorem bounds:∀n,n≤5→2≤n→∀R,R≤roomF n→(4*(n-1)+2)*(n*R+n)+7*n+1≤399∧n*R+n≤100∧R≤4:=by decide
section
variable{n R i j:Nat}{ld:Laid}{sz:Nat→Nat}{f:Nat→Nat}
theorem xb:j<n→f j≤sumTo n f:=by
 induction n with
 |zero=>exactλh=>absurd h (Nat.not_lt_zero j)
 |succ n ih=>
  intro h
  rw[c5]
  exact(Nat.lt_or_eq_of_le (Nat.le_of_lt_succ h)).elim (λh=>Nat.le_trans (ih h) (Nat.le_add_right _ _)) λe=>e▸Nat.le_add_left _ _
theorem EW(hl:ld.length=n):ld=(List.range n).map (Laid.at ld):=by
 refine List.ext_getElem (by rw[bZ,hl]) λi a h2=>?_
 rw[List.getElem_map,List.getElem_range]
 unfold Laid.at
 rw[List.getD_eq_getElem?_getD,List.getElem?_eq_getElem a];rfl
theorem xc(hl:ld.length=n):pF ld=(List.range n).map λi=>((Laid.at ld i).1.length,(Laid.at ld i).2.length):=by
 have e:=congrArg pF (EW hl)
 exact e.trans List.map_map
theorem EX(hl:ld.length=n):zW (pF ld)=sumTo n λj=>(Laid.o ld j).length:=by
 rw[xc hl]
 show(List.map _ (List.map _ (List.range n))).sum=((List.range n).map _).sum
 rw[List.map_map]
 exact congrArg (λg:Nat→Nat=>((List.range n).map g).sum) (funext λj=>List.length_append.symm)
theorem xd(hl:ld.length=n)(h:i<n):((Laid.at ld i).1.length,(Laid.at ld i).2.length)∈pF ld:=by
 rw[xc hl]
 exact List.mem_map.mpr ⟨i,List.mem_range.mpr h,rfl⟩
theorem EY(hl:ld.length=n)(h:¬i<n):Laid.at ld i=([],[]):=by
 unfold Laid.at
 rw[List.getD_eq_getElem?_getD,List.getElem?_eq_none (hl▸Nat.le_of_not_lt h)];rfl
theorem Ol(h2:2≤n)(l:n≤5)(R0:0<R)(s:R≤roomF n)(S:Hi n R (pF ld))(m:∀i,i<n→0<sz i∧sz i≤R+1):ld.length=n∧(∀i,(Laid.at ld i).1.length≤R)∧(∀i,(Laid.o ld i).length≤100)∧Oj (s0 n R ld sz):=by
 have bd:=bounds n l h2 R s
 have n0:0<n:=Nat.lt_of_lt_of_le (by decide) h2
 have hl:ld.length=n:=(List.length_map (as:=ld) _).symm.trans S.len
 have W:=EX hl
 have p:∀i,(Laid.at ld i).1.length≤R:=λi=>by
  by_cases h:i<n
  ·exact S.le _ (xd hl h)
  ·rw[EY hl h];exact Nat.zero_le _
 have r:∀i,i<n→(Laid.o ld i).length≤n*R+n:=λi h=>Nat.le_trans (xb (f:=λj=>(Laid.o ld j).length) h) (W▸S.sum)
 have c:∀i,(Laid.o ld i).length≤100:=λi=>by
  by_cases h:i<n
  ·exact Nat.le_trans (r i h) bd.2.1
  ·unfold Laid.o;rw[EY hl h];exact Nat.zero_le _
 have hd:∀i,(Laid.at ld i).2.length≤100:=λi=>Nat.le_trans (Nat.le_trans (Nat.le_add_left _ _) (Nat.le_of_eq List.length_append.symm)) (c i)
 have held:(s0 n R ld sz).held=zW (pF ld):=by
  rw[W]
  exact(oF (f:=λi=>(Laid.at ld i).1.length) (g:=λi=>(Laid.at ld i).2.length)).symm.trans (congrArg (sumTo n) (funext λj=>List.length_append.symm))
 have I:Inv (s0 n R ld sz):=by
  refine⟨h2,l,R0,λi hi=>⟨(m i hi).1,Nat.le_trans (m i hi).2 (Nat.le_trans (Nat.succ_le_succ bd.2.2) (by decide)),Nat.le_trans (zZ c) (Nat.le_trans (Nat.mul_le_mul_right 100 l) (by decide))⟩,λi hi k=>?_,λi _=>p i,λi _=>⟨rfl,rfl,λ_=>⟨rfl,.inl rfl⟩,nofun⟩,λi _=>⟨Nat.zero_le _,Nat.le_trans (hd i) (by decide),λ_ h=>List.length_pos_iff.mpr h⟩,λi hi _=>?_,λi _=>nofun,.inl rfl⟩
  ·obtain⟨T,a,b⟩:=w9 (o:=Laid.o ld) (n:=n) hi
   show(cX (Laid.o ld) n (nx n i) n)[((Laid.o ld i).length+k)%(cX (Laid.o ld) n (nx n i) n).length]? =(cX (Laid.o ld) n i n)[k%(cX (Laid.o ld) n i n).length]?
   rw[a,b];exact Ho
  ·obtain⟨T,a,b⟩:=w9 (o:=Laid.o ld) (n:=n) hi
   refine⟨Nat.zero_add _,λk hk=>?_⟩
   show(cX (Laid.o ld) n (nx n i) n)[(0+k)%(cX (Laid.o ld) n (nx n i) n).length]? =(Laid.o ld i)[k]?
   have hk:k<(Laid.o ld i).length:=hk
   rw[a,Nat.zero_add,Nat.mod_eq_of_lt (Nat.lt_of_lt_of_le hk (by rw[List.length_append];exact Nat.le_add_right _ _)),List.getElem?_append_left hk]
 have q:∀f,jr (s0 n R ld sz) f=true:=λf=>by unfold jr;split<;>rfl
 refine⟨hl,p,c,I,λ_ _=>rfl,?_,λh=>?_,held▸S.sum,(congrArg List.length (List.filter_eq_self.mpr λ_ _=>rfl)).trans List.length_range,bd.1,q,λ_ _=>rfl⟩
 ·have e:=ED (o:=Laid.o ld) (Nat.le_refl n) n0
  rw[Nat.sub_self]at e
  exact e.trans (W.symm.trans held.symm)
 ·rcases h with h|h
  ·refine .inl λj d=>?_
   have z:(Laid.o ld j).length=0:=Nat.le_zero.mp (Nat.le_trans (xb (f:=λj=>(Laid.o ld j).length) d) (Nat.le_of_eq (W.symm.trans (held.symm.trans h))))
   have z:=List.append_eq_nil_iff.mp (List.length_eq_zero_iff.mp z)
   exact⟨z.2,z.1⟩
  ·refine .inr λj d=>?_
   have f:=S.full (held.symm.trans h) _ (xd hl d)
   exact⟨List.length_pos_iff.mp f.2,f.1⟩
end
section
variable{H H' H1:Hp}{n R i j m:Nat}{v:MV}{sm:Bool}{ρ:Loc}{ld:Laid}{a b:Int}{sw:List MV}
theorem HP:∀k,k<4→([MV.int 4,MV.int 3,MV.int 2,MV.int 2]:List MV)[k]? =some (.int (roomF (2+k):Nat))
 |0,_=>rfl
 |1,_=>rfl
 |2,_=>rfl
 |3,_=>rfl
 |_+4,h=>absurd h (Nat.not_lt_of_le (Nat.le_add_left 4 _))
theorem HQ{k:Nat}(hk:k<4)(l:look bJ ρ=some (.int (2+k:Nat))):Ev 24 (aI (cI [(av 4),(av 3),(av 2),(av 2)]) (aL .Sub (aa bJ) (av 2))) ρ H (.int (roomF (2+k):Nat)) H:=
 aW (e4 (ag ar (ag ar (ag ar (ag ar aj)))) (ble rfl)) (c6 (congrArg MV.int (show((2+k:Nat):Int)-2=(k:Int)from(congrArg (λi:Int=>i-2) (Int.add_comm 2 (k:Int))).trans (Int.add_sub_cancel (k:Int) 2))) (a8 (ae l) ar (.sub _ _))) (.l (.inl rfl) (cx (HP k hk) (Nat.lt_trans hk (by decide))))
theorem KW{x y:Nat}(l:look cB ρ=some (.bool sm)):Ev 24 (nB (aa cB) (av x) (av y)) ρ H (.int (bif sm then x else y:Nat)) H:=by
 cases sm with
 |true=>exact hV (cL (ae l) rfl) ar
 |false=>exact hW (cL (ae l) rfl) ar
theorem II(d:0<m)(c:m≤1000):∃(v:Nat)(a' b':Int),v<m∧Fn 1 810 [.ref .L 0,.int m] (HB a b) (.int v) (HB a' b'):=by
 obtain⟨v,a',b',h,f⟩:=draw (H:=HB a b) (k:=0) (Hp.dN (H:=BC)) d c
 rw[yF]at f
 exact⟨v,a',b',h,f⟩
theorem EZ(h2:2≤n)(c:n≤5)(R0:0<R)(d:R≤roomF n)(S:Hi n R (pF ld)):∃ρ' H',gj 24 (Oh (ay (bE a_) (ak lu [(aa bW),(aa aS),(aa aC),(aa cc),(aa b7)])::
  C8 b9 (bE b6) [b6] (aa a_) [] HK::ay (bE aB) (k2 [aS,aC,a_,b9] [(aa aS),(aa aC),(aa a_),(aa b9)])::
  [bo (nA (aH .NotEq KU (cS [(a5 bY),bj])) [(aH .NotEq My (aL .Mult (av 2) (aa bJ)))]) (xB [bt (cw false)]) (xB []),NW,NX,NV,bt (aH .Eq KU (cS [(a5 dY),bj]))])) (lw v sm n R) (HM a b sw (ld.map dR)) (.ret (.bool true)) ρ' H':=by
 have n1:1≤n:=Nat.le_of_succ_le h2
 have g:=Ol (sz:=λ_=>1) h2 c R0 d S λ_ _=>⟨Nat.one_pos,Nat.le_add_left 1 R⟩
 obtain⟨H1,o,k,sz,f,U⟩:=HA (NT (a:=a) (b:=b) (sw:=sw) (ld:=ld) c R0 (Nat.le_trans (bounds n c h2 R d).2.2 (by decide))) h2 g.1 c g.2.1 g.2.2.1
 obtain⟨l,w,h⟩:=U.Mx (v:=v) (sm:=sm)
 obtain⟨ρ',H2,e⟩:=HO (v:=v) (sm:=sm) h (Ol h2 c R0 d S U.sz).2.2.2
 exact⟨ρ',H2,k_all n1 c (af (aG rfl (dt wu (ag (ae rfl) (ag (ae rfl) (ag (ae rfl) (ag (ae rfl) (ag (ae rfl) aj))))) (f.up 17)) aA) (w e))⟩
end
theorem plain(ns:List Int)(hl:ns.length≤63):∃H',Fn 25 910 [.lst (ns.map .int)] BC (.bool true) H':=by
 obtain⟨g,sd,fb⟩:=Mm (H:=BC) hl
 have o:eu 24 (se [bW,cB] [(ak nO [(aa dh)]),(aH .Lt (ak cn [(aa dh)]) (av 2))]) [(dh,.lst (ns.map .int))] BC .next [(dh,.lst (ns.map .int)),(cB,.bool (decide (((ns.map MV.int).length:Int)<2))),(bW,.ref .L 0)] (HB g sd):=
  tP (ag (dt yh (ag (ae rfl) aj) (fb.up 23)) (ag (fS (dr eB (ag (ae rfl) aj) (.qE (.inl rfl) (by rw[List.length_map];exact Nat.le_trans hl (by decide)))) ar (.lt _ _)) aj)) (ble rfl) rfl
 generalize decide (((ns.map MV.int).length:Int)<2)=sm at o
 obtain⟨k,l,b1,hk,C⟩:=II (a:=g) (b:=sd) (m:=bif sm then 2 else 4) (by cases sm<;>decide) (by cases sm<;>decide)
 have hk:k<4:=Nat.lt_of_lt_of_le hk (by cases sm<;>decide)
 have r0:0<roomF (2+k):=by unfold roomF;split<;>first|decide|(split<;>decide)
 have t:roomF (2+k)≤1000:=by unfold roomF;split<;>first|decide|(split<;>decide)
 obtain⟨x,h,b2,u,B⟩:=II (a:=l) (b:=b1) r0 t
 have h2:2≤2+k:=Nat.le_add_right 2 k
 have c:2+k≤5:=Nat.add_le_add_left (Nat.le_of_lt_succ hk) 2
 have p:1+x≤roomF (2+k):=Nat.add_comm 1 x▸u
 have bd:=bounds _ c h2 _ p
 obtain⟨f,d,ps,A,S⟩:=KC (a:=h) (b:=b2) (R:=1+x) h2 c (Nat.le_trans bd.2.2 (by decide))
 obtain⟨ld,w,e⟩:=Hm (a:=f) (b:=d) (Nat.le_trans S.sum (Nat.le_trans bd.2.1 (by decide))) (by rw[S.len];exact Nat.le_trans c (by decide))
 subst e
 obtain⟨ρ',H',z⟩:=EZ (v:=.lst (ns.map .int)) (sm:=sm) (a:=f) (b:=d) (sw:=ck (pF ld)) h2 c (Nat.add_comm 1 x▸Nat.succ_pos x) p S
 have s:eu 24 (ay (bE bJ) (aL .Add (av 2) (ak a6 [(aa bW),(nB (aa cB) (av 2) (av 4))]))) [(dh,.lst (ns.map .int)),(cB,.bool sm),(bW,.ref .L 0)] (HB g sd) .next [(dh,.lst (ns.map .int)),(cB,.bool sm),(bW,.ref .L 0),(bJ,.int (2+k:Nat))] (HB l b1):=
  aG rfl (a8 ar (dt dJ (ag (ae rfl) (ag (KW (x:=2) (y:=4) rfl) aj)) (C.up 23)) (.add 2 (k:Int))) aA
 have r:eu 24 (ay (bE b7) (aL .Add (av 1) (ak a6 [(aa bW),(aI (cI [(av 4),(av 3),(av 2),(av 2)]) (aL .Sub (aa bJ) (av 2)))]))) [(dh,.lst (ns.map .int)),(cB,.bool sm),(bW,.ref .L 0),(bJ,.int (2+k:Nat))] (HB l b1) .next [(dh,.lst (ns.map .int)),(cB,.bool sm),(bW,.ref .L 0),(bJ,.int (2+k:Nat)),(b7,.int (1+x:Nat))] (HB h b2):=
  aG rfl (a8 ar (dt dJ (ag (ae rfl) (ag (HQ hk rfl) aj)) (B.up 23)) (.add 1 (x:Int))) aA
 have q:eu 24 (ay (bE cc) (ak jM [(ak lr [(aa bW),(aa bJ),(aa b7)])])) [(dh,.lst (ns.map .int)),(cB,.bool sm),(bW,.ref .L 0),(bJ,.int (2+k:Nat)),(b7,.int (1+x:Nat))] (HB h b2) .next (lw (.lst (ns.map .int)) sm (2+k) (1+x)) (HM f d (ck (pF ld)) (ld.map dR)):=
  aG rfl (dt uz (ag (dt wg (ag (ae rfl) (ag (ae rfl) (ag (ae rfl) aj))) (A.up 22)) aj) (w.up 23)) aA
 exact⟨H',aJ L9 rfl (af o (af s (af r (af q z)))) rfl⟩
end Mine
end
theorem PySem.Challenge.cw_tn0031_01_holds : PySem.Challenge.rw_tn0031_01.Holds :=
  Mine.head (Mine.walk_law Mine.plain)
