import PyProof.Rows.All
import PyProof.AutoSeq1
import PyProof.CodeObjX
import PyProof.Rules3
import PyProof.CallStr
import PyProof.Cells
import PyProof.CompUse
import PyProof.Walks
import PyProof.CompFree
import PyProof.Conv_int_bool
import PyProof.SeqRoads2
import PyProof.ListOps
import PyProof.DictKinds
import PyProof.DictList
import PyProof.DictRoads
import PyProof.DictTable
import PyProof.SeqInW
import PyProof.EqLayable
import PyProof.ExcBaseAll.Exception
import PyProof.ExcAttrAll.Exception
import PyProof.ExcClass3
import PyProof.StationsW
import PyProof.WalksMore
import PyProof.RangeFor
import PyProof.ListCopy
import PyProof.ListMulRoad
import PyProof.ListRange
import PyProof.WalkInts
import PyProof.RulesAs
import PyProof.Rows.TupAssign
import PyProof.Rows.Nodes
import PyProof.Rows.FStr
import PyProof.StrBlock2
import PyProof.Rows.RuleN_isinstance
import PyProof.TupleOps
import PyProof.SliceMore
import PyProof.RulesFinally
import PyProof.SumAny
import PyProof.Rows.SeqMore
import PyProof.Rows.SumAny
import PyProof.Rows.ReprOcc
import OpenK.KLine
import KE.KDeep
import KE.KIsNot
import KE.KRevSl
import OpenK.ZHead
import Wide.FinOn
import Lean
import PySem.Challenge.RW_nz0548_01
set_option Elab.async false
set_option maxRecDepth 100000
set_option maxHeartbeats 0
set_option linter.all false
set_option genInjectivity false
set_option genSizeOf false
set_option backward.match.sparseCases false
open PySem PySem.W PyProof.Rows
noncomputable section
namespace Mine
noncomputable abbrev pw:Program:=PySem.Challenge.pw_nz0548_01
def body:List Stmt:=pw.main.body
def cJ(i:Nat):Stmt:=body.getD i default
noncomputable def kD:Stmt->Str×Int×Int×List Stmt
 | .FunctionDef n a _ _ _ _ _ _ _ p=>(n,p.line,a.args.length,[])
 | .ClassDef n _ _ b _ _ _ _ _ _ _=>(n,0,0,b)
 |_=>(default,0,0,[])
def P7(s:Stmt):List Stmt:=(kD s).2.2.2
def fu(i j:Nat):Stmt:=(P7 (cJ i)).getD j default
noncomputable def vW(st:Stmt)(qual:Str)(glob:Addr)(defs Yh code:Value)(bs:Addr):FuncData:=match st with
 | .FunctionDef name args body _ _ _ scope _ _ _=>{name:=name,qualname:=qual,params:=args,body:=.stmts body,scope:=scope,globals:=glob,closure:=[],defaults:=defs,kwdefaults:=.none,pyModule:=Yh,code:=code,builtins:=bs}
 |_=>default
noncomputable def e(P:Params)(x:String)(t:Nat)(v:Value):DictEntry:=⟨PyData.keyHash P (Str.ofString x),.str (Str.ofString x) t,v⟩
noncomputable abbrev vn:Value:=.none
noncomputable abbrev vb(b:Bool):Value:=.bool b
noncomputable abbrev i0(i:Int):Value:=.int i 0
noncomputable abbrev vi(i:Int)(t:Nat):Value:=.int i t
noncomputable abbrev vS(x:String)(t:Nat):Value:=.str (Str.ofString x) t
noncomputable abbrev r(a:Nat):Value:=.ref a
noncomputable abbrev vt(n:String):Value:=.type n
noncomputable abbrev bi(n:String):Value:=.builtin n
def tp(l:List Value):Obj:=⟨vt "tuple",none,.seq l.toArray 0,[].toArray⟩
def fl(l:List Value):Obj:=⟨vn,none,.fields l.toArray,[].toArray⟩
def QL(c:String)(l:List Value):Obj:=⟨vt c,none,.fields l.toArray,[].toArray⟩
abbrev bf:=QL "builtin_function_or_method"
abbrev gs:=QL "getset_descriptor"
abbrev su:=QL "super"
abbrev co:=QL "code"
def fm(l:List (Option Value)):Obj:=⟨vt "frame",none,.plain,l.toArray⟩
def di(n:Nat)(l:List DictEntry):Obj:=⟨vt "dict",none,.dict l.toArray n,[].toArray⟩
abbrev cp(t:Nat):Value:=vS "/claim/cut.py" t
def Lf(s:Stmt):Str:=(kD s).1
def QD(s:Stmt):Int:=(kD s).2.1
def WB(s:Stmt):Int:=(kD s).2.2.1
def sq(i:Nat):Str:=Lf (cJ i)
def mq(i j:Nat):Str:=Lf (cJ i)++"."++Lf (fu i j)
noncomputable def Qp:List String->Nat->List Value
 |[],_=>[]
 |x::l,t=>vS x t::Qp l (t+1)
def g(b t:Nat)(s:Stmt)(q:Str)(V:List String)(d m:Value):List Obj:=[tp [],fl [],tp (Qp V (t+3)),tp [],⟨vn,none,.func (vW s q 0 vn vn vn 0),[].toArray⟩,
 co [.str (Lf s) t,.str q (t+1),cp (t+2),i0 (QD s),i0 (WB s),i0 0,i0 0,i0 3,r b,vb true,i0 181,r (b+1),vn,r (b+2),r (b+3),r (b+4),i0 (t+3+V.length:Nat),i0 (QD s),cp (t+4+V.length)],
 ⟨vt "function",none,.func (vW s q 3 d m (r (b+5)) 0),[].toArray⟩]
noncomputable def QX{Z:Type}:Bool->List Z->List Z
 |_,[]=>[]
 |true,x::l=>x::QX false l
 |false,_::l=>QX true l
noncomputable def Gl:Nat->List Obj->BT
 |0,_=>.nil
 |_,[]=>.nil
 |n+1,x::l=>.node x (Gl n (QX true l)) (Gl n (QX false l))
abbrev m1:Value:=vS "law_nz0548_01" 2124
abbrev m2:Value:=vS "__main__" 164
abbrev m3:Value:=vS "vectorcove.values" 194
abbrev m4:Value:=vS "vectorcove.attrs" 557
abbrev m5:Value:=vS "vectorcove.errors" 618
abbrev m6:Value:=vS "vectorcove.callargs" 773
abbrev m7:Value:=vS "vectorcove.sequences" 894
abbrev m8:Value:=vS "vectorcove.callparts" 915
abbrev m9:Value:=vS "vectorcove.rational" 970
abbrev QB:Value:=vS "vectorcove.numtext" 1054
abbrev uj:Value:=vS "vectorcove.coerce" 1247
abbrev Ro:Value:=vS "vectorcove.seqcalls" 1401
abbrev CZ:Value:=vS "vectorcove.simplify" 1420
abbrev oJ:Value:=vS "vectorcove.applycalls" 1468
abbrev Yk:Value:=vS "vectorcove.scope" 1647
abbrev Rn:Value:=vS "vectorcove.funcall" 1666
abbrev lQ:Value:=vS "vectorcove.evaluator" 1742
def h5(b t:Nat)(s:Stmt)(q:Str)(d m:Value):List Obj:=[tp [],fl [],⟨vn,none,.func (vW s q 0 vn vn vn 0),[].toArray⟩,co [.str (Lf s) t,.str q (t+1),cp (t+2),i0 (QD s),i0 (WB s),i0 0,i0 0,i0 3,r b,vb true,i0 181,r (b+1),vn,vn,vn,r (b+2),i0 (t+3:Nat),i0 (QD s),cp (t+4)],⟨vt "function",none,.func (vW s q 3 d m (r (b+3)) 0),[].toArray⟩]
noncomputable def gk(b t i:Nat)(m:Value):List (List String)->List Obj
 |[]=>[]
 |V::l=>g b t (cJ i) (sq i) V vn m++gk (b+7) (t+6+V.length) (i+1) m l
noncomputable def gm(b t i j:Nat)(m:Value):List (List String)->List Obj
 |[]=>[]
 |V::l=>g b t (fu i j) (mq i j) V vn m++gm (b+7) (t+6+V.length) i (j+1) m l
def kA(P:Params)(b t:Nat)(nm:String)(l:Int)(m:Value)(ms:List DictEntry)(f:List Value)(x a:Nat):List Obj:=[tp [],bf [bi "type.__prepare__",vt "type"],
 di (ms.length+4) ([e P "__module__" (t+7) m,e P "__qualname__" (t+9) (vS nm (t+8)),e P "__firstlineno__" (t+11) (vi l (t+10))]++ms++[e P "__static_attributes__" x (r a)]),tp [],fl f,
 co [vS nm (t+2),vS nm (t+3),cp (t+4),i0 l,i0 0,i0 0,i0 0,i0 0,r (b+3),vb false,i0 181,r (b+4),vn,vn,vn,vn,i0 (t+5:Nat),i0 l,cp (t+6)],
 fm [some (r (b+5)),some (r 3),some (r (b+2)),none,some m,none,some (r 0)]]
def kB(P:Params)(a t:Nat)(nm:String)(l:Int)(m:Value)(n:Nat)(ms:List DictEntry)(V:List String)(x:Nat):List Obj:=[tp (Qp V (x-V.length)),
 di n ([e P "__module__" (t+7) m,e P "__firstlineno__" (t+11) (vi l (t+10))]++ms++[e P "__static_attributes__" x (r (a-2)),e P "__dict__" (x+2) (r (a+1)),e P "__weakref__" (x+4) (r (a+2)),e P "__doc__" (x+5) vn]),
 ⟨vt "type",none,.cls {name:=Str.ofString nm,bases:=[vt "object"],mro:=[r a,vt "object"],ns:=a-1,qualname:=Str.ofString nm,hasDict:=true,slotNames:=[],subclasses:=[],abstract:=false,collection:=none,hasDel:=false},[none,none,some (vS nm t),some (vS nm (t+8)),some (bi "object.__new__"),some (vb true)].toArray⟩,
 gs [vS "__dict__" (x+1),r a,bi "function.__dict__",bi "function.__dict__#set"],gs [vS "__weakref__" (x+3),r a,bi "ExceptionGroup.__weakref__",vn],su [r a,r a,r a],bf [bi "object.__init_subclass__",r a]]
def kC(P:Params)(b t:Nat)(nm:String)(l:Int)(m:Value)(ms:List DictEntry)(f:List Value)(x a:Nat):List Obj:=tp [r 342]::(kA P b t nm l m ms f x a).tail
def kZ(P:Params)(a b t:Nat)(nm:String)(l:Int)(m:Value)(ms:List DictEntry)(V:List String)(x:Nat):List Obj:=[tp (Qp V (x-V.length)),
 di 2 ([e P "__module__" (t+7) m,e P "__firstlineno__" (t+11) (vi l (t+10))]++ms++[e P "__static_attributes__" x (r (a-2)),e P "__doc__" (x+1) vn]),
 ⟨vt "type",none,.cls {name:=Str.ofString nm,bases:=[r 342],mro:=[r a,r 342,vt "Exception",vt "BaseException",vt "object"],ns:=a-1,qualname:=Str.ofString nm,hasDict:=true,slotNames:=[],subclasses:=[],abstract:=false,collection:=none,hasDel:=false},[some (r b),none,some (vS nm t),some (vS nm (t+8)),some (bi "Exception.__new__"),some (vb true)].toArray⟩,su [r a,r a,r a],bf [bi "object.__init_subclass__",r a]]
noncomputable def q0(P:Params):List Obj:=
let e:=e P
[co [(vS "<module>" 182),(vS "<module>" 183),(cp 184),(i0 1),(i0 0),(i0 0),(i0 0),(i0 0),(r 11),(vb false),(i0 181),(r 12),vn,vn,vn,vn,(i0 185),(i0 1),(cp 186)],
fm [some (r 13),some (r 3),some (r 3),none,some m2,none,some (r 0)]]++
gk 15 187 0 m2 [["k"]]++
kA P 22 196 "Null" 5 m3 [e "__init__" 214 (r 35)] [(i0 7),(i0 4),(r 34)] 217 36++
gm 29 208 2 0 m3 [["self"]]++
kB P 38 196 "Null" 5 m3 4 [e "__init__" 214 (r 35)] ["attrs","kind"] 217++
kA P 43 225 "Vector" 10 m3 [e "__init__" 246 (r 57),e "copy" 253 (r 64)] [(i0 12),(i0 4),(r 56),(i0 19),(i0 4),(r 63)] 259 65++
[tp [vn]]++
g 51 237 (fu 3 0) (mq 3 0) ["self","kind","items","attrs"] (r 50) m3++
gm 58 247 3 1 m3 [["self"]]++
kB P 67 225 "Vector" 10 m3 4 [e "__init__" 246 (r 57),e "copy" 253 (r 64)] ["attrs","items","kind","loose","shared"] 259++
kA P 72 267 "Symbol" 21 m3 [e "__init__" 286 (r 85)] [(i0 23),(i0 4),(r 84)] 290 86++
gm 79 279 4 0 m3 [["self","name"]]++
kB P 88 267 "Symbol" 21 m3 4 [e "__init__" 286 (r 85)] ["attrs","kind","name"] 290++
kA P 93 298 "Call" 27 m3 [e "__init__" 319 (r 107)] [(i0 29),(i0 4),(r 106)] 325 108++
[tp [vn]]++
g 101 310 (fu 5 0) (mq 5 0) ["self","items","tags","attrs"] (r 100) m3++
[tp [(vS "attrs" 320),(vS "code" 321),(vS "items" 322),(vS "kind" 323),(vS "tags" 324)]]
noncomputable def q1(P:Params):List Obj:=
let e:=e P
[di 4 [e "__module__" 305 m3,e "__firstlineno__" 309 (vi 27 308),e "__init__" 319 (r 107),e "__static_attributes__" 325 (r 108),e "__dict__" 327 (r 111),e "__weakref__" 329 (r 112),e "__doc__" 330 vn],
⟨(vt "type"),none,(.cls {name:="Call",bases:=[(vt "object")],mro:=[(r 110),(vt "object")],ns:=109,qualname:="Call",hasDict:=true,slotNames:=[],subclasses:=[],abstract:=false,collection:=none,hasDel:=false}),[none,none,some (vS "Call" 298),some (vS "Call" 306),some (bi "object.__new__"),some (vb true)].toArray⟩,
gs [(vS "__dict__" 326),(r 110),(bi "function.__dict__"),(bi "function.__dict__#set")],
gs [(vS "__weakref__" 328),(r 110),(bi "ExceptionGroup.__weakref__"),vn],
su [(r 110),(r 110),(r 110)],
bf [(bi "object.__init_subclass__"),(r 110)]]++
kA P 115 333 "Builtin" 35 m3 [e "__init__" 355 (r 128)] [(i0 37),(i0 4),(r 127)] 362 129++
gm 122 345 6 0 m3 [["self","name","special","fn","group"]]++
kB P 131 333 "Builtin" 35 m3 4 [e "__init__" 355 (r 128)] ["attrs","fn","group","kind","name","special"] 362++
kA P 136 370 "Environment" 44 m3 [e "__init__" 391 (r 150)] [(i0 46),(i0 4),(r 149)] 399 151++
[tp [vn]]++
g 144 382 (fu 7 0) (mq 7 0) ["self","number","parent","attrs"] (r 143) m3++
kB P 153 370 "Environment" 44 m3 4 [e "__init__" 391 (r 150)] ["attrs","frame","kind","locked","locks","number","parent"] 399++
kA P 158 407 "Promise" 54 m3 [e "__init__" 427 (r 171)] [(i0 56),(i0 4),(r 170)] 434 172++
gm 165 419 8 0 m3 [["self","expr","env"]]++
kB P 174 407 "Promise" 54 m3 4 [e "__init__" 427 (r 171)] ["attrs","env","expr","kind","state","value"] 434++
kA P 179 442 "Dots" 63 m3 [e "__init__" 461 (r 192)] [(i0 65),(i0 4),(r 191)] 465 193++
gm 186 454 9 0 m3 [["self","args"]]
noncomputable def q2(P:Params):List Obj:=
let e:=e P
kB P 195 442 "Dots" 63 m3 4 [e "__init__" 461 (r 192)] ["args","attrs","kind"] 465++
gk 200 473 10 m3 [[],["items"],["items"],["items"],["v","names"]]++
[tp [vn]]++
h5 236 508 (cJ 15) (sq 15) (r 235) m3++
gk 241 514 16 m3 [["s"],["v","kind"],["v"],["v"],["v"],["v"]]++
gk 283 559 23 m4 [["v","name"],["v","name"],["v","name","value"]]++
h5 304 584 (cJ 26) (sq 26) vn m4++
h5 309 590 (cJ 27) (sq 27) vn m4++
gk 314 596 28 m4 [["v","dims"]]++
h5 321 604 (cJ 29) (sq 29) vn m4++
gk 326 610 30 m4 [["v","found"]]++
[tp [(vt "Exception")],
bf [(bi "type.__prepare__"),(vt "type")],
di 4 [e "__module__" 627 m5,e "__qualname__" 629 (vS "CoveError" 628),e "__firstlineno__" 631 (vi 170 630),e "__static_attributes__" 632 (r 340)],
tp [],
fl [],
co [(vS "CoveError" 622),(vS "CoveError" 623),(cp 624),(i0 170),(i0 0),(i0 0),(i0 0),(i0 0),(r 336),(vb false),(i0 181),(r 337),vn,vn,vn,vn,(i0 625),(i0 170),(cp 626)],
fm [some (r 338),some (r 3),some (r 335),none,some m5,none,some (r 0)],
tp [],
di 3 [e "__module__" 627 m5,e "__firstlineno__" 631 (vi 170 630),e "__static_attributes__" 632 (r 340),e "__weakref__" 634 (r 343),e "__doc__" 635 vn],
⟨(vt "type"),none,(.cls {name:="CoveError",bases:=[(vt "Exception")],mro:=[(r 342),(vt "Exception"),(vt "BaseException"),(vt "object")],ns:=341,qualname:="CoveError",hasDict:=true,slotNames:=[],subclasses:=[(r 362),(r 381),(r 400),(r 419),(r 438)],abstract:=false,collection:=none,hasDel:=false}),[some (r 333),none,some (vS "CoveError" 620),some (vS "CoveError" 628),some (bi "Exception.__new__"),some (vb true)].toArray⟩,
gs [(vS "__weakref__" 633),(r 342),(bi "ExceptionGroup.__weakref__"),vn],
su [(r 342),(r 342),(r 342)],
bf [(bi "object.__init_subclass__"),(r 342)],
tp [(r 342)],
bf [(bi "type.__prepare__"),(vt "type")],
di 5 [e "__module__" 647 m5,e "__qualname__" 649 (vS "Refusal" 648),e "__firstlineno__" 651 (vi 172 650),e "__init__" 659 (r 359),e "__static_attributes__" 661 (r 360)]]
noncomputable def q3(P:Params):List Obj:=
let e:=e P
[tp [],
fl [(i0 174),(i0 4),(r 358)],
co [(vS "Refusal" 642),(vS "Refusal" 643),(cp 644),(i0 172),(i0 0),(i0 0),(i0 0),(i0 0),(r 349),(vb false),(i0 181),(r 350),vn,vn,vn,vn,(i0 645),(i0 172),(cp 646)],
fm [some (r 351),some (r 3),some (r 348),none,some m5,none,some (r 0)]]++
gm 353 652 33 0 m5 [["self","message"]]++
kZ P 362 346 640 "Refusal" 172 m5 [e "__init__" 659 (r 359)] ["message"] 661++
kC P 365 665 "RError" 176 m5 [e "__init__" 686 (r 378)] [(i0 178),(i0 4),(r 377)] 690 379++
gm 372 677 34 0 m5 [["self","message","call","condition"]]++
kZ P 381 365 665 "RError" 176 m5 [e "__init__" 686 (r 378)] ["call","condition","message"] 690++
kC P 384 694 "LimitReached" 182 m5 [e "__init__" 713 (r 397)] [(i0 184),(i0 4),(r 396)] 715 398++
gm 391 706 35 0 m5 [["self","what"]]++
kZ P 400 384 694 "LimitReached" 182 m5 [e "__init__" 713 (r 397)] ["what"] 715++
kC P 403 719 "ReturnSignal" 186 m5 [e "__init__" 739 (r 416)] [(i0 188),(i0 4),(r 415)] 742 417++
gm 410 731 36 0 m5 [["self","number","value"]]++
kZ P 419 403 719 "ReturnSignal" 186 m5 [e "__init__" 739 (r 416)] ["number","value"] 742++
kC P 422 746 "LoopSignal" 191 m5 [e "__init__" 766 (r 435)] [(i0 193),(i0 4),(r 434)] 769 436++
gm 429 758 37 0 m5 [["self","number","again"]]++
[tp [(vS "again" 767),(vS "number" 768)],
di 2 [e "__module__" 753 m5,e "__firstlineno__" 757 (vi 191 756),e "__init__" 766 (r 435),e "__static_attributes__" 769 (r 436),e "__doc__" 770 vn],
⟨(vt "type"),none,(.cls {name:="LoopSignal",bases:=[(r 342)],mro:=[(r 438),(r 342),(vt "Exception"),(vt "BaseException"),(vt "object")],ns:=437,qualname:="LoopSignal",hasDict:=true,slotNames:=[],subclasses:=[],abstract:=false,collection:=none,hasDel:=false}),[some (r 422),none,some (vS "LoopSignal" 746),some (vS "LoopSignal" 754),some (bi "Exception.__new__"),some (vb true)].toArray⟩]
noncomputable def q4(P:Params):List Obj:=
let e:=e P
[su [(r 438),(r 438),(r 438)],
bf [(bi "object.__init_subclass__"),(r 438)]]++
kA P 441 775 "Matching" 197 m6 [e "__init__" 795 (r 454),e "exact" 804 (r 461),e "partial" 812 (r 468),e "partial_of" 822 (r 475),e "positional" 831 (r 482),e "is_free" 839 (r 489),e "rest" 845 (r 494)] [(i0 199),(i0 4),(r 453),(i0 205),(i0 4),(r 460),(i0 215),(i0 4),(r 467),(i0 222),(i0 4),(r 474),(i0 233),(i0 4),(r 481),(i0 245),(i0 4),(r 488),(i0 248),(i0 4),(r 493)] 850 495++
gm 448 787 39 0 m6 [["self","formals","tags"],["self","name","place"],["self","name"],["self","name","place","tag"],["self","place","name"],["self","place"]]++
h5 490 840 (fu 39 6) (mq 39 6) vn m6++
[tp [(vS "formals" 846),(vS "places" 847),(vS "tags" 848),(vS "used" 849)],
di 4 [e "__module__" 782 m6,e "__firstlineno__" 786 (vi 197 785),e "__init__" 795 (r 454),e "exact" 804 (r 461),e "partial" 812 (r 468),e "partial_of" 822 (r 475),e "positional" 831 (r 482),e "is_free" 839 (r 489),e "rest" 845 (r 494),e "__static_attributes__" 850 (r 495),e "__dict__" 852 (r 498),e "__weakref__" 854 (r 499),e "__doc__" 855 vn],
⟨(vt "type"),none,(.cls {name:="Matching",bases:=[(vt "object")],mro:=[(r 497),(vt "object")],ns:=496,qualname:="Matching",hasDict:=true,slotNames:=[],subclasses:=[],abstract:=false,collection:=none,hasDel:=false}),[none,none,some (vS "Matching" 775),some (vS "Matching" 783),some (bi "object.__new__"),some (vb true)].toArray⟩,
gs [(vS "__dict__" 851),(r 497),(bi "function.__dict__"),(bi "function.__dict__#set")],
gs [(vS "__weakref__" 853),(r 497),(bi "ExceptionGroup.__weakref__"),vn],
su [(r 497),(r 497),(r 497)],
bf [(bi "object.__init_subclass__"),(r 497)]]++
gk 502 858 40 m6 [["name"],["args","place","show","tag","value"]]++
h5 516 876 (cJ 42) (sq 42) vn m6++
[tp [vn]]++
h5 522 882 (cJ 43) (sq 43) (r 521) m6++
[tp [vn]]++
h5 528 888 (cJ 44) (sq 44) (r 527) m6++
gk 533 896 46 m7 [["v"]]++
h5 540 903 (cJ 47) (sq 47) vn m7++
h5 545 909 (cJ 48) (sq 48) vn m7++
gk 550 917 50 m8 [["interp","f","env"]]++
[tp [],
fl []]
noncomputable def q5(P:Params):List Obj:=
let e:=e P
[⟨vn,none,(.func (vW (cJ 51) "item_values" 0 vn vn vn 0)),[].toArray⟩,
co [(vS "item_values" 926),(vS "item_values" 927),(cp 928),(i0 321),(i0 1),(i0 0),(i0 0),(i0 3),(r 557),(vb true),(i0 181),(r 558),vn,vn,vn,(r 559),(i0 929),(i0 321),(cp 930)],
⟨(vt "function"),none,(.func (vW (cJ 51) "item_values" 3 vn m8 (r 560) 0)),[].toArray⟩]++
gk 562 932 52 m8 [["v"],["interp","f","values","rest","env","found","value"],["v","wanted","names"],["rows","parts","row"]]++
[tp [(vi 0 972),(vi 0 973)],
tp [(vi 1 975),(vi 0 976)],
tp [(vi 0 978),(vi 1 979)]]++
gk 593 981 60 m9 [["a","b"],["n","d","common"],["n"],["x"],["x"],["x"],["x","found"],["n","d","low","rest"],["x","n","d","e"]]++
gk 656 1058 71 QB [["n","rest","row","part"],["x"],["x","e","digits","shift"],["x","digits","e","n"],["text","end"],["x","digits","side","text","e","row"],["x","places","n","text"],["x","digits","side","text","e","count","left"],["xs","digits","count","left","places","wide","minus","x","row","fixed_width","scientific_width"],["x","form","text"]]++
h5 726 1164 (cJ 81) (sq 81) vn QB++
[tp [(vi 7 1170)]]++
g 732 1171 (cJ 82) (sq 82) ["x","digits"] (r 731) QB++
gk 739 1179 83 QB [["text","base","value","char"],["text","at","digits"],["text","start","value"],["n","base","e"],["text","base","digits","mark","scale","end","before","behind","start","e","ok","n","found"],["text","body","negative","small","found","ok"]]++
gk 781 1251 91 uj [["kind","kinds"],["kinds","names","most","kind"],["notes","message"],["s"],["x","notes","found"],["s","notes","ok","found"],["kind","item"],["kind","item","notes"],["kind","item","notes"],["kind","item"],["kind","item","to","notes"],["kind"],["kind","item","to","notes"],["v","kind"]]++
[tp [],
fl [],
⟨vn,none,(.func (vW (cJ 105) "as_vector_kind" 0 vn vn vn 0)),[].toArray⟩,
co [(vS "as_vector_kind" 1372),(vS "as_vector_kind" 1373),(cp 1374),(i0 675),(i0 2),(i0 0),(i0 0),(i0 3),(r 879),(vb true),(i0 181),(r 880),vn,vn,vn,(r 881),(i0 1375),(i0 675),(cp 1376)]]
noncomputable def q6(P:Params):List Obj:=
let e:=e P
[⟨(vt "function"),none,(.func (vW (cJ 105) "as_vector_kind" 3 vn uj (r 882) 0)),[].toArray⟩]++
gk 884 1378 106 uj [["v","names"]]++
h5 891 1386 (cJ 107) (sq 107) vn uj++
gk 896 1392 108 uj [["v","count","found"]]++
gk 903 1403 110 Ro [["v","name"],["v","default","item"]]++
gk 917 1422 113 CZ [["outer","inner"]]++
h5 924 1430 (cJ 114) (sq 114) vn CZ++
h5 929 1436 (cJ 115) (sq 115) vn CZ++
gk 934 1442 116 CZ [["values","shared","value"],["values","value"],["values","names","count"]]++
gk 955 1470 120 oJ [["interp","args","env","v","f","rest"],["interp","args","env","v","f","rest","simplify","named","found","names"],["value","form","place","fits"]]++
h5 976 1508 (cJ 123) (sq 123) vn oJ++
gk 981 1514 124 oJ [["found","form","names","items","value","result","rows"]]++
h5 988 1527 (cJ 125) (sq 125) vn oJ++
gk 993 1533 126 oJ [["rows","named"],["interp","args","env","f","rows","found","names"],["interp","f","values","right","env","walked","kept","value","pair"],["interp","args","env","f","v","init","right","accumulate","simplify","backwards","values","every","kept"],["interp","f","v","env","found","value"]]++
h5 1028 1600 (cJ 131) (sq 131) vn oJ++
gk 1033 1606 132 oJ [["interp","args","env","f","v","right","other","values","places","taken","place"],["interp","args","env","values","place","other"],["interp","args","env","values","place","other"]]++
gk 1054 1649 136 Yk [["env","name"],["env","name","found"]]++
gk 1068 1668 139 Rn [["expr","value","promise"],["value"],["arg","tag","value"],["default","env"]]++
[tp [vn],
tp [],
fl []]
noncomputable def q7(P:Params):List Obj:=
let e:=e P
[⟨vn,none,(.func (vW (cJ 143) "bind_formals" 0 vn vn vn 0)),[].toArray⟩,
co [(vS "bind_formals" 1701),(vS "bind_formals" 1702),(cp 1703),(i0 959),(i0 4),(i0 0),(i0 0),(i0 3),(r 1097),(vb true),(i0 181),(r 1098),vn,vn,vn,(r 1099),(i0 1704),(i0 959),(cp 1705)],
⟨(vt "function"),none,(.func (vW (cJ 143) "bind_formals" 3 (r 1096) Rn (r 1100) 0)),[].toArray⟩]++
gk 1102 1707 144 Rn [["env","found"],["name"],["env","name","dots","place","word"],["e","env","bound"]]++
kA P 1130 1744 "Frame" 994 lQ [e "__init__" 1767 (r 1143)] [(i0 996),(i0 4),(r 1142)] 1775 1144++
gm 1137 1756 149 0 lQ [["self","call","function","env","caller","args"]]++
kB P 1146 1744 "Frame" 994 lQ 4 [e "__init__" 1767 (r 1143)] ["args","call","caller","dispatch","env","function","on_exit"] 1775++
kA P 1151 1783 "Evaluator" 1004 lQ [e "__init__" 1805 (r 1165),e "new_env" 1814 (r 1172),e "define" 1826 (r 1180),e "tick" 1833 (r 1187),e "signal_error" 1842 (r 1194),e "warn_all" 1851 (r 1202),e "running_call" 1858 (r 1209),e "eval" 1868 (r 1216),e "variable" 1879 (r 1223),e "dots_value" 1889 (r 1230),e "force" 1897 (r 1237),e "find_function" 1908 (r 1245),e "function_of" 1919 (r 1252),e "eval_call" 1928 (r 1259),e "plain_call" 1939 (r 1266),e "spread_dots" 1948 (r 1273),e "promise_args" 1961 (r 1280),e "eager_args" 1977 (r 1288),e "empty_arg" 1987 (r 1295),e "call_special" 1999 (r 1302),e "call_builtin" 2015 (r 1309),e "apply_closure" 2034 (r 1317),e "leave" 2045 (r 1324),e "run_exits" 2054 (r 1331),e "shower" 2063 (r 1338),e "call_value" 2074 (r 1346),e "run" 2084 (r 1353)] [(i0 1006),(i0 4),(r 1164),(i0 1027),(i0 4),(r 1171),(i0 1032),(i0 4),(r 1179),(i0 1035),(i0 4),(r 1186),(i0 1040),(i0 4),(r 1193),(i0 1045),(i0 4),(r 1201),(i0 1048),(i0 4),(r 1208),(i0 1053),(i0 4),(r 1215),(i0 1064),(i0 4),(r 1222),(i0 1080),(i0 4),(r 1229),(i0 1086),(i0 4),(r 1236),(i0 1100),(i0 4),(r 1244),(i0 1113),(i0 4),(r 1251),(i0 1124),(i0 4),(r 1258),(i0 1127),(i0 4),(r 1265),(i0 1137),(i0 4),(r 1272),(i0 1143),(i0 4),(r 1279),(i0 1155),(i0 4),(r 1287),(i0 1173),(i0 4),(r 1294),(i0 1178),(i0 4),(r 1301),(i0 1186),(i0 4),(r 1308),(i0 1202),(i0 4),(r 1316),(i0 1236),(i0 4),(r 1323),(i0 1249),(i0 4),(r 1330),(i0 1257),(i0 4),(r 1337),(i0 1268),(i0 4),(r 1345),(i0 1279),(i0 4),(r 1352)] 2104 1354++
[tp [(vi 20000 1795),(vi 40 1796)]]++
g 1159 1797 (fu 150 0) (mq 150 0) ["self","limit","most_frames"] (r 1158) lQ++
gm 1166 1806 150 1 lQ [["self","parent","env"]]++
[tp [(vS "" 1815)]]++
g 1174 1816 (fu 150 2) (mq 150 2) ["self","name","special","fn","group"] (r 1173) lQ++
gm 1181 1827 150 3 lQ [["self"],["self","message","call"]]++
[tp [vn]]++
g 1196 1843 (fu 150 5) (mq 150 5) ["self","notes","call"] (r 1195) lQ++
gm 1203 1852 150 6 lQ [["self"],["self","e","env","kind"],["self","name","env","found","message"],["self","name","env","refusal"],["self","promise"]]++
[tp [vn]]++
g 1239 1898 (fu 150 11) (mq 150 11) ["self","name","env","call","found"] (r 1238) lQ++
gm 1246 1909 150 12 lQ [["self","call","env","head","found"],["self","call","env"],["self","call","env","f","args"],["self","env","dots"],["self","items","tags","env","args","place","item"]]++
[tp [(vb false)]]++
g 1282 1962 (fu 150 17) (mq 150 17) ["self","items","tags","env","keep","args","place","item","tag","value"] (r 1281) lQ++
gm 1289 1978 150 18 lQ [["self","item","keep","place"],["self","f","call","env","refusal","message"],["self","builtin","call","args","env","saved","found","value","refusal","message"]]++
[tp [vn]]++
g 1311 2016 (fu 150 21) (mq 150 21) ["self","closure","args","call","caller","dispatch","env","message","refusal","frame","value","lost","signal"] (r 1310) lQ++
gm 1318 2035 150 22 lQ [["self","frame","value","visible","signal"],["self","frame","first"]]++
[tp []]
noncomputable def q8(P:Params):List Obj:=
let e:=e P
[fl [],
tp [(vS "self" 2058),(vS "show" 2059)],
tp [(vS "deparser" 2060)],
⟨vn,none,(.func (vW (fu 150 24) "Evaluator.shower" 0 vn vn vn 0)),[].toArray⟩,
co [(vS "shower" 2055),(vS "Evaluator.shower" 2056),(cp 2057),(i0 1257),(i0 1),(i0 0),(i0 0),(i0 3),(r 1332),(vb true),(i0 181),(r 1333),vn,(r 1334),(r 1335),(r 1336),(i0 2061),(i0 1257),(cp 2062)],
⟨(vt "function"),none,(.func (vW (fu 150 24) "Evaluator.shower" 3 vn lQ (r 1337) 0)),[].toArray⟩,
tp [vn]]++
g 1340 2064 (fu 150 25) (mq 150 25) ["self","f","args","env","call"] (r 1339) lQ++
gm 1347 2075 150 26 lQ [["self","program","value","e"]]++
kB P 1356 1783 "Evaluator" 1004 lQ 4 [e "__init__" 1805 (r 1165),e "new_env" 1814 (r 1172),e "define" 1826 (r 1180),e "tick" 1833 (r 1187),e "signal_error" 1842 (r 1194),e "warn_all" 1851 (r 1202),e "running_call" 1858 (r 1209),e "eval" 1868 (r 1216),e "variable" 1879 (r 1223),e "dots_value" 1889 (r 1230),e "force" 1897 (r 1237),e "find_function" 1908 (r 1245),e "function_of" 1919 (r 1252),e "eval_call" 1928 (r 1259),e "plain_call" 1939 (r 1266),e "spread_dots" 1948 (r 1273),e "promise_args" 1961 (r 1280),e "eager_args" 1977 (r 1288),e "empty_arg" 1987 (r 1295),e "call_special" 1999 (r 1302),e "call_builtin" 2015 (r 1309),e "apply_closure" 2034 (r 1317),e "leave" 2045 (r 1324),e "run_exits" 2054 (r 1331),e "shower" 2063 (r 1338),e "call_value" 2074 (r 1346),e "run" 2084 (r 1353)] ["base","current","deparser","dispatcher","frames","globals","handlers","limit","most_frames","next_number","out","restarts","s4","signaller","steps","targets","visible","warner","warnings"] 2104++
gk 1361 2112 151 lQ [["f","args","items","tags","tag","value"]]++
gk 1368 2126 153 m1 [["hand","limit","figure","digit"],["value"],["form","x"],["v"]]++
h5 1396 2158 (cJ 157) (sq 157) vn m1++
h5 1401 2164 (cJ 158) (sq 158) vn m1++
gk 1406 2170 159 m1 [["pure","interp","args","error"]]++
h5 1413 2180 (cJ 160) (sq 160) vn m1
noncomputable def qs(P:Params):List Obj:=q0 P++(q1 P++(q2 P++(q3 P++(q4 P++(q5 P++(q6 P++(q7 P++(q8 P))))))))
noncomputable def e3(P:Params):List DictEntry:=
let e:=e P
[e "__name__" 165 m1,e "__doc__" 166 vn,e "__package__" 167 vn,e "__loader__" 168 (bi "__main__.__loader__#opaque"),e "__spec__" 169 vn,e "__annotations__" 170 (r 6),e "__builtins__" 171 (r 4),e "__file__" 173 (cp 172),e "__cached__" 174 vn,e "_wall" 193 (r 21),e "Null" 224 (r 38),e "Vector" 266 (r 67),e "Symbol" 297 (r 88),e "Call" 332 (r 110),e "Builtin" 369 (r 131),e "Environment" 406 (r 153),e "Promise" 441 (r 174),e "Dots" 472 (r 195),e "null" 478 (r 206),e "logical" 485 (r 213),e "integer" 492 (r 220),e "character" 499 (r 227),e "named" 507 (r 234),e "list_of" 513 (r 240),e "text" 520 (r 247),e "length" 528 (r 254),e "is_vector" 535 (r 261),e "is_atomic" 542 (r 268),e "is_function" 549 (r 275),e "share" 556 (r 282),e "get_attr" 566 (r 289),e "drop_attr" 574 (r 296),e "put_attr" 583 (r 303),e "set_names" 589 (r 308),e "names_of" 595 (r 313),e "dim_of" 603 (r 320),e "dimnames_of" 609 (r 325),e "class_attr" 617 (r 332),e "CoveError" 639 (r 342),e "Refusal" 664 (r 362),e "RError" 693 (r 381),e "LimitReached" 718 (r 400),e "ReturnSignal" 745 (r 419),e "LoopSignal" 772 (r 438),e "Matching" 857 (r 497),e "doubled_text" 864 (r 508),e "argument_text" 875 (r 515),e "unused_text" 881 (r 520),e "match_names" 887 (r 526),e "take" 893 (r 532),e "is_factor" 902 (r 539),e "pick" 908 (r 544),e "which_true" 914 (r 549),e "function_arg" 925 (r 556),e "item_values" 931 (r 561),e "value_names" 938 (r 568),e "call_each" 951 (r 575),e "use_names" 960 (r 582),e "dimnames_value" 969 (r 589),e "NAN" 974 (r 590),e "INF" 977 (r 591),e "ZERO" 980 (r 592),e "gcd" 988 (r 599),e "make" 997 (r 606),e "from_int" 1004 (r 613),e "is_na" 1011 (r 620),e "is_finite" 1018 (r 627),e "neg" 1025 (r 634),e "to_whole" 1033 (r 641),e "nearest_whole" 1043 (r 648),e "exponent" 1053 (r 655),e "MOST_EXPONENT" 1057 (vi 4096 1056),e "whole_text" 1067 (r 662),e "special_text" 1074 (r 669),e "scaled" 1084 (r 676),e "significant" 1094 (r 683),e "without_tail" 1102 (r 690),e "scientific_text" 1114 (r 697),e "fixed_text" 1124 (r 704),e "measures" 1137 (r 711),e "chosen_form" 1154 (r 718),e "formed" 1163 (r 725),e "common_texts" 1169 (r 730),e "number_text" 1178 (r 738),e "digits_value" 1188 (r 745),e "digit_run" 1197 (r 752),e "exponent_value" 1206 (r 759),e "powered" 1215 (r 766),e "unsigned_number" 1234 (r 773),e "parse_number" 1246 (r 780),e "MOST_INTEGER" 1250 (vi 2147483647 1249),e "kind_order" 1258 (r 787),e "common_kind" 1268 (r 794),e "note" 1276 (r 801),e "as_logical_text" 1283 (r 808),e "double_to_integer" 1292 (r 815),e "text_to_double" 1302 (r 822),e "to_logical" 1310 (r 829),e "to_integer" 1319 (r 836),e "to_double" 1328 (r 843),e "to_text" 1336 (r 850),e "item_as" 1346 (r 857),e "is_atomic_kind" 1353 (r 864),e "list_item_as" 1363 (r 871),e "refuse_type" 1371 (r 878),e "as_vector_kind" 1377 (r 883),e "with_names" 1385 (r 890),e "as_kind" 1391 (r 895),e "condition" 1400 (r 902),e "needed_arg" 1410 (r 909),e "flag_arg" 1419 (r 916),e "joined_name" 1429 (r 923),e "combine_ones" 1435 (r 928),e "as_columns" 1441 (r 933),e "common_length" 1450 (r 940),e "all_ones" 1458 (r 947),e "simplified" 1467 (r 954),e "b_lapply" 1481 (r 961),e "b_sapply" 1497 (r 968),e "check_form" 1507 (r 975),e "b_vapply" 1513 (r 980),e "form_matrix" 1526 (r 987),e "walk_together" 1532 (r 992),e "together_names" 1540 (r 999),e "b_map" 1553 (r 1006),e "reduce_steps" 1568 (r 1013),e "b_reduce" 1587 (r 1020),e "test_each" 1599 (r 1027),e "b_filter" 1605 (r 1032),e "found_place" 1622 (r 1039),e "b_position" 1634 (r 1046),e "b_find" 1646 (r 1053),e "lookup_here" 1656 (r 1060),e "lookup" 1665 (r 1067),e "done_promise" 1676 (r 1074),e "bound_argument" 1683 (r 1081),e "dots_argument" 1692 (r 1088),e "default_binding" 1700 (r 1095),e "bind_formals" 1706 (r 1101),e "dots_of" 1714 (r 1108),e "is_dots_place" 1721 (r 1115),e "dots_place" 1732 (r 1122),e "is_empty_name" 1741 (r 1129),e "Frame" 1782 (r 1146),e "Evaluator" 2111 (r 1356),e "quoted_call" 2123 (r 1367),e "_law_pick" 2135 (r 1374),e "_law_figure" 2142 (r 1381),e "_law_value" 2150 (r 1388),e "_law_names" 2157 (r 1395),e "_law_same" 2163 (r 1400),e "_law_simple" 2169 (r 1405),e "_law_told" 2179 (r 1412),e "law" 2185 (r 1417)]
noncomputable def K2:List Value:=[(i0 1),(i0 0),(r 20),(i0 5),(i0 0),(r 27),(i0 10),(i0 0),(r 48),(i0 21),(i0 0),(r 77),(i0 27),(i0 0),(r 98),(i0 35),(i0 0),(r 120),(i0 44),(i0 0),(r 141),(i0 54),(i0 0),(r 163),(i0 63),(i0 0),(r 184),(i0 69),(i0 0),(r 205),(i0 71),(i0 0),(r 212),(i0 73),(i0 0),(r 219),(i0 75),(i0 0),(r 226),(i0 77),(i0 0),(r 233),(i0 81),(i0 0),(r 239),(i0 83),(i0 0),(r 246),(i0 85),(i0 0),(r 253),(i0 96),(i0 0),(r 260),(i0 98),(i0 0),(r 267),(i0 100),(i0 0),(r 274),(i0 102),(i0 0),(r 281),(i0 107),(i0 0),(r 288),(i0 111),(i0 0),(r 295),(i0 116),(i0 0),(r 302),(i0 120),(i0 0),(r 307),(i0 138),(i0 0),(r 312),(i0 154),(i0 0),(r 319),(i0 159),(i0 0),(r 324),(i0 164),(i0 0),(r 331),(i0 170),(i0 0),(r 338),(i0 172),(i0 0),(r 351),(i0 176),(i0 0),(r 370),(i0 182),(i0 0),(r 389),(i0 186),(i0 0),(r 408),(i0 191),(i0 0),(r 427),(i0 197),(i0 0),(r 446),(i0 250),(i0 0),(r 507),(i0 252),(i0 0),(r 514),(i0 261),(i0 0),(r 519),(i0 267),(i0 0),(r 525),(i0 276),(i0 0),(r 531),(i0 288),(i0 0),(r 538),(i0 290),(i0 0),(r 543),(i0 301),(i0 0),(r 548),(i0 311),(i0 0),(r 555),(i0 321),(i0 0),(r 560),(i0 336),(i0 0),(r 567),(i0 340),(i0 0),(r 574),(i0 346),(i0 0),(r 581),(i0 353),(i0 0),(r 588),(i0 362),(i0 0),(r 598),(i0 366),(i0 0),(r 605),(i0 376),(i0 0),(r 612),(i0 380),(i0 0),(r 619),(i0 382),(i0 0),(r 626),(i0 384),(i0 0),(r 633),(i0 388),(i0 0),(r 640),(i0 393),(i0 0),(r 647),(i0 399),(i0 0),(r 654),(i0 412),(i0 0),(r 661),(i0 423),(i0 0),(r 668),(i0 431),(i0 0),(r 675),(i0 436),(i0 0),(r 682),(i0 445),(i0 0),(r 689),(i0 450),(i0 0),(r 696),(i0 457),(i0 0),(r 703),(i0 465),(i0 0),(r 710),(i0 472),(i0 0),(r 717),(i0 492),(i0 0),(r 724),(i0 499),(i0 0),(r 729),(i0 503),(i0 0),(r 737),(i0 505),(i0 0),(r 744),(i0 510),(i0 0),(r 751),(i0 514),(i0 0),(r 758),(i0 524),(i0 0),(r 765),(i0 534),(i0 0),(r 772),(i0 566),(i0 0),(r 779),(i0 585),(i0 0),(r 786),(i0 590),(i0 0),(r 793),(i0 596),(i0 0),(r 800),(i0 599),(i0 0),(r 807),(i0 605),(i0 0),(r 814),(i0 613),(i0 0),(r 821),(i0 619),(i0 0),(r 828),(i0 629),(i0 0),(r 835),(i0 637),(i0 0),(r 842),(i0 643),(i0 0),(r 849),(i0 651),(i0 0),(r 856),(i0 665),(i0 0),(r 863),(i0 667),(i0 0),(r 870),(i0 673),(i0 0),(r 877),(i0 675),(i0 0),(r 882),(i0 689),(i0 0),(r 889),(i0 693),(i0 0),(r 894),(i0 700),(i0 0),(r 901),(i0 715),(i0 0),(r 908),(i0 719),(i0 0),(r 915),(i0 729),(i0 0),(r 922),(i0 735),(i0 0),(r 927),(i0 751),(i0 0),(r 932),(i0 763),(i0 0),(r 939),(i0 772),(i0 0),(r 946),(i0 777),(i0 0),(r 953),(i0 785),(i0 0),(r 960),(i0 790),(i0 0),(r 967),(i0 799),(i0 0),(r 974),(i0 807),(i0 0),(r 979),(i0 829),(i0 0),(r 986),(i0 840),(i0 0),(r 991),(i0 854),(i0 0),(r 998),(i0 858),(i0 0),(r 1005),(i0 866),(i0 0),(r 1012),(i0 874),(i0 0),(r 1019),(i0 892),(i0 0),(r 1026),(i0 899),(i0 0),(r 1031),(i0 908),(i0 0),(r 1038),(i0 922),(i0 0),(r 1045),(i0 927),(i0 0),(r 1052),(i0 931),(i0 0),(r 1059),(i0 933),(i0 0),(r 1066),(i0 941),(i0 0),(r 1073),(i0 946),(i0 0),(r 1080),(i0 950),(i0 0),(r 1087),(i0 955),(i0 0),(r 1094),(i0 959),(i0 0),(r 1100),(i0 972),(i0 0),(r 1107),(i0 977),(i0 0),(r 1114),(i0 979),(i0 0),(r 1121),(i0 988),(i0 0),(r 1128),(i0 994),(i0 0),(r 1135),(i0 1004),(i0 0),(r 1156),(i0 1284),(i0 0),(r 1366),(i0 1294),(i0 0),(r 1373),(i0 1305),(i0 0),(r 1380),(i0 1307),(i0 0),(r 1387),(i0 1315),(i0 0),(r 1394),(i0 1317),(i0 0),(r 1399),(i0 1323),(i0 0),(r 1404),(i0 1336),(i0 0),(r 1411),(i0 1341),(i0 0),(r 1416)]
noncomputable def hs(P:Params)(a b c:Obj):List Obj:=[boot_o_0 P,boot_o_1 P,a,b,boot_o_4 P,boot_o_5 P,boot_o_6 P,boot_o_7 P,boot_o_8 P,boot_o_9 P,boot_o_10 P,tp [],c]
noncomputable def Tb(P:Params):BT:=Gl 12 (hs P (⟨vn,none,(.dict [].toArray 0),[].toArray⟩) (di 9 (e P "__name__" 165 m2::((e3 P).drop 1).take 8)) (fl (K2.take 0))++(qs P).take 2)
noncomputable def Sb(w:World)(os:OsState):SharedT:=⟨Tb w.params,15,{},Array.mk [],{},187,os⟩
noncomputable def T1(P:Params):BT:=Gl 12 (hs P (⟨vn,none,(.dict [].toArray 0),[].toArray⟩) (di 19 (e P "__name__" 165 m3::((e3 P).drop 1).take 18)) (fl (K2.take 30))++(qs P).take 194)
noncomputable def S1(w:World)(os:OsState):SharedT:=⟨T1 w.params,207,{},Array.mk [],{},479,os⟩
noncomputable def T2(P:Params):BT:=Gl 12 (hs P (⟨vn,none,(.dict [e P "type.__subclasses__.Exception.0" 636 (i0 342),e P "type.__subclasses__.Exception.n" 637 (i0 1)].toArray 2),[].toArray⟩) (di 44 (e P "__name__" 165 m5::((e3 P).drop 1).take 43)) (fl (K2.take 105))++(qs P).take 428)
noncomputable def S2(w:World)(os:OsState):SharedT:=⟨T2 w.params,441,{},Array.mk [],{},773,os⟩
noncomputable def T3(P:Params):BT:=Gl 12 (hs P (⟨vn,none,(.dict [e P "type.__subclasses__.Exception.0" 636 (i0 342),e P "type.__subclasses__.Exception.n" 637 (i0 1)].toArray 2),[].toArray⟩) (di 95 (e P "__name__" 165 uj::((e3 P).drop 1).take 94)) (fl (K2.take 243))++(qs P).take 796)
noncomputable def S3(w:World)(os:OsState):SharedT:=⟨T3 w.params,809,{},Array.mk [],{},1284,os⟩
noncomputable def T4(P:Params):BT:=Gl 12 (hs P (⟨vn,none,(.dict [e P "type.__subclasses__.Exception.0" 636 (i0 342),e P "type.__subclasses__.Exception.n" 637 (i0 1)].toArray 2),[].toArray⟩) (di 145 (e P "__name__" 165 lQ::((e3 P).drop 1).take 144)) (fl (K2.take 393))++(qs P).take 1348)
noncomputable def S4(w:World)(os:OsState):SharedT:=⟨T4 w.params,1361,{},Array.mk [],{},2112,os⟩
noncomputable def T5(P:Params):BT:=Gl 12 (hs P (⟨vn,none,(.dict [e P "type.__subclasses__.Exception.0" 636 (i0 342),e P "type.__subclasses__.Exception.n" 637 (i0 1)].toArray 2),[].toArray⟩) (di 154 (e3 P)) (fl K2)++qs P)
noncomputable def S5(w:World)(os:OsState):SharedT:=⟨T5 w.params,1418,{},Array.mk [],{},2186,os⟩
noncomputable def env:Env:={scope:=pw.main.scope,locals:=mainNs,globals:=mainNs,cells:=[],code:=(r 13),frame:=some 14}
abbrev cd:Code:=.body body env
noncomputable abbrev fr:List Frame:=[topFrame ⟨0,0,0,0⟩]
abbrev C':Option Value:=(some (r 6))
noncomputable def L1:List Stmt:=(body.drop 0).take 11
theorem JA(w:World)(os:OsState):segRunT treeTable pw w 11 C' 1 1915 (Sb w os) (piecesOf L1 env cd ⟨0,0,0,0⟩ fr)=some (.next,S1 w os,cd,⟨69,0,70,17⟩):=by
 rw[PySem.W.Fast.te10110043849684766642,PySem.W.Fast.te14364793385576792824];kernel_rfl
noncomputable def L2:List Stmt:=(body.drop 11).take 27
theorem Jz(w:World)(os:OsState):segRunT treeTable pw w 11 C' 1 1996 (S1 w os) (piecesOf L2 env cd ⟨69,0,70,17⟩ fr)=some (.next,S2 w os,cd,⟨191,0,195,26⟩):=by
 rw[PySem.W.Fast.te10110043849684766642,PySem.W.Fast.te14364793385576792824];kernel_rfl
noncomputable def L3:List Stmt:=(body.drop 38).take 57
theorem Jy(w:World)(os:OsState):segRunT treeTable pw w 11 C' 1 1909 (S2 w os) (piecesOf L3 env cd ⟨191,0,195,26⟩ fr)=some (.next,S3 w os,cd,⟨599,0,604,15⟩):=by
 rw[PySem.W.Fast.te10110043849684766642,PySem.W.Fast.te14364793385576792824];kernel_rfl
noncomputable def L4:List Stmt:=(body.drop 95).take 56
theorem Jx(w:World)(os:OsState):segRunT treeTable pw w 11 C' 1 2929 (S3 w os) (piecesOf L4 env cd ⟨599,0,604,15⟩ fr)=some (.next,S4 w os,cd,⟨1004,0,1283,20⟩):=by
 rw[PySem.W.Fast.te10110043849684766642,PySem.W.Fast.te14364793385576792824];kernel_rfl
noncomputable def L5:List Stmt:=(body.drop 151).take 10
theorem Jw(w:World)(os:OsState):segRunT treeTable pw w 11 C' 1 274 (S4 w os) (piecesOf L5 env cd ⟨1004,0,1283,20⟩ fr)=some (.next,S5 w os,cd,⟨1341,0,1437,65⟩):=by
 rw[PySem.W.Fast.te10110043849684766642,PySem.W.Fast.te14364793385576792824];kernel_rfl
theorem vq:opening pw=plainProg pw.main.scope.names:=by rfl
theorem BW(s:Shared):fenceModules? pw s=some s:=by rfl
theorem EF:∀w:World,(fencedOpening treeTable pw w 20000).map (λs=>(s.heap,s.gens,s.drawn,s.toks))=some (boot_heap w.params,Array.mk [],boot_drawn,boot_toks):=
 boot_open vq (by decide) BW
theorem En:∀w:World,((boot_heap w.params).isNs mainGlobals&&(Array.mk ([]:List GenState)).size==0,(boot_heap w.params).objs.size,(boot_heap w.params).nsMap mainGlobals "__annotations__")=(true,11,C'):=λw=>by kernel_rfl
theorem Ju(w:World)(os:OsState):topGo treeTable pw w 11 C' 12 ⟨boot_heap w.params,Array.mk [],boot_drawn,boot_toks,os⟩ (topStub pw)=
  some ((Sb w os).abs,⟨denote treeTable cd,cd,⟨0,0,0,0⟩,fr⟩):=by kernel_rfl
theorem CA(w:World)(os:OsState):segRun treeTable pw w 11 C' 1 1 (Sb w os).abs (blockOf body env cd ⟨0,0,0,0⟩ fr)=some (.next,(Sb w os).abs,cd,⟨0,0,0,0⟩):=by kernel_rfl
theorem FU:body=L1++(L2++(L3++(L4++(L5++[])))):=by kernel_rfl
theorem J7(w:World)(os:OsState):topRun treeTable pw w 11 C' 2 (S5 w os).abs ⟨doneF .next,cd,⟨1341,0,1437,65⟩,fr⟩=some (S5 w os).abs:=by kernel_rfl
def H1(P:Params):Heap:=absHeap (T5 P) 1418 {}
theorem Jq(w:World)(os:OsState):topRun treeTable pw w 11 C' (12+(1+(1915+(1996+(1909+(2929+(274+2))))))) ⟨boot_heap w.params,Array.mk [],boot_drawn,boot_toks,os⟩ (topStub pw)=
  some ⟨H1 w.params,Array.mk [],{},2186,os⟩:=by
 refine go_top (Ju w os) (piece_block (CA w os) ?_);rw[FU];refine piece_app (segRun_of (JA w os)) ?_;refine piece_app (segRun_of (Jz w os)) ?_;refine piece_app (segRun_of (Jy w os)) ?_;refine piece_app (segRun_of (Jx w os)) ?_;refine piece_app (segRun_of (Jw w os)) ?_;exact piece_nil (J7 w os)
section
open PySem.W.X
def qv:Program:={pw with main:={pw.main with body:=[cJ 160]}}
def loose:List Str:=pw.boundNames.filter λn=>n !=("law":Str)
theorem OY(w:World)(os:OsState):(staticsOk (importedModules pw.main.body) (boot_heap w.params) (H1 w.params)&&namesBound pw (H1 w.params)&&gensDone ⟨H1 w.params,Array.mk [],{},2186,os⟩&&laidKept (boot_heap w.params) (H1 w.params))=true:=by unfold namesBound;rw[PySem.W.Fast.te3471404346716756564];kernel_rfl
theorem OX(w:World)(os:OsState):openSeen qv loose (importedModules pw.main.body) (λ_=>true) true ⟨H1 w.params,Array.mk [],{},2186,os⟩=openGood qv loose:=by
 kernel_rfl
theorem ES:LeftO pw qv loose (λ_=>true) (λs=>(s.heap,s.toks)) (λw=>(H1 w.params,2186)) 20000:=
 LeftO.of_pieces EF En Jq (by decide) λw=>by
  funext os
  exact looks_pair (OY w os) (looks_pair (OX w os) rfl)
end
section
open PySem.W.X
theorem XQ:readsOut pw pw.main.body "vars"=false:=by
 rw[PySem.W.Fast.te13343964577679436407];kernel_rfl
theorem XO:readsOut pw pw.main.body "dir"=false:=by
 rw[PySem.W.Fast.te13343964577679436407];kernel_rfl
theorem XN:readsOut pw pw.main.body "locals"=false:=by
 rw[PySem.W.Fast.te13343964577679436407];kernel_rfl
theorem Uy:(importedModules pw.main.body).all cThrough.contains=true:=by kernel_rfl
theorem Xi:namesResolve pw=true:=by rw[PySem.W.Fast.te8377067652309620493];kernel_rfl
theorem R4:noRoadLSs {strict:=false,foot:=none,bare:=[]} pw.main.body=true:=by rw[PySem.W.Fast.te8326940854005059898];kernel_rfl
theorem Xh:noRoadLSs {strict:= !(importedModules pw.main.body).all cThrough.contains,foot:=none,bare:=(["vars","dir","locals"]:List Str).filter (readsOut pw pw.main.body)} pw.main.body=true:=by
 rw[Uy,List.filter_cons_of_neg (by rw[XQ];decide),List.filter_cons_of_neg (by rw[XO];decide),List.filter_cons_of_neg (by rw[XN];decide)]
 exact R4
theorem Xg:namesMeet pw pw.main.body (λ_ n=>attrL n)=true:=by rw[PySem.W.Fast.te17119622794617984870,PySem.W.Fast.te17868728402115742887];kernel_rfl
theorem R6:noRoadLSs {strict:=true,foot:=some PySem.Challenge.rw_nz0548_01.bound',writes:=PySem.Challenge.rw_nz0548_01.writes,may:=PySem.Challenge.rw_nz0548_01.may} PySem.Challenge.rw_nz0548_01.footing=true:=by rw[PySem.W.Fast.te8326940854005059898];kernel_rfl
theorem R5:namesMeet PySem.Challenge.rw_nz0548_01.prog PySem.Challenge.rw_nz0548_01.above (λ_ n=> !PySem.Challenge.rw_nz0548_01.own.contains n)=true:=by rw[PySem.W.Fast.te17119622794617984870,PySem.W.Fast.te10792542408131684335,PySem.W.Fast.te3471404346716756564];kernel_rfl
theorem vy:looksOpen pw=true:=by
 unfold looksOpen;refine look_both (look_both (look_both (look_both (look_both ?_ ?_) Xi) ?_) Xh) Xg
 all_goals kernel_rfl
theorem x7:PySem.Challenge.rw_nz0548_01.row.wellSaid=true:=by
 unfold OpenRow.wellSaid OpenRow.partSaid;rw[show looksOpen PySem.Challenge.rw_nz0548_01.row.prog=true from vy]
 kernel_rfl
noncomputable def tbG(c:Scope)(l:List Stmt):List Str:=TablesWhole.wSs TablesWhole.gather c ⟨c,[],[],[],none⟩ c l
noncomputable def tbH(c:Scope)(l:List Stmt):Bool:=TablesWhole.wSs TablesWhole.holds c ⟨c,[],[],[],none⟩ c l
theorem tbGa(c:Scope)(b:List Stmt):∀a,tbG c (a++b)=tbG c a++tbG c b:=λa=>by
 induction a with
 |nil=>rfl
 |cons s a ih=>exact (congrArg (TablesWhole.wS TablesWhole.gather c ⟨c,[],[],[],none⟩ c s++·) ih).trans (List.append_assoc ..).symm
theorem tbHa(c:Scope)(b:List Stmt):∀a,tbH c (a++b)=(tbH c a&&tbH c b):=λa=>by
 induction a with
 |nil=>rfl
 |cons s a ih=>exact (congrArg (TablesWhole.wS TablesWhole.holds c ⟨c,[],[],[],none⟩ c s&&·) ih).trans (Bool.and_assoc ..).symm
theorem tbO(p:Program)(hm:p.modules=[])(hp:p.parses=[])(hh:p.harvested=[])(n:TablesWhole.noTwice p.main.scope=true)(t:tbG p.main.scope p.main.body=[])(w:tbH p.main.scope p.main.body=true):p.tablesWhole=true:=by
 unfold tbG at t
 unfold Program.tablesWhole TablesWhole.wProgram TablesWhole.wModule
 rw[t,hm,hp,hh]
 show (true&&(TablesWhole.noTwice p.main.scope&&(tbH p.main.scope p.main.body&&true))&&true)=true
 rw[n,w];rfl
theorem tbN:TablesWhole.noTwice pw.main.scope=true:=by rw[PySem.W.Fast.te8331962902438777018];kernel_rfl
theorem tbG1:tbG pw.main.scope L1=[]:=by kernel_rfl
theorem tbG2:tbG pw.main.scope L2=[]:=by kernel_rfl
theorem tbG3:tbG pw.main.scope L3=[]:=by kernel_rfl
theorem tbG4:tbG pw.main.scope L4=[]:=by kernel_rfl
theorem tbG5:tbG pw.main.scope L5=[]:=by kernel_rfl
theorem tbH1:tbH pw.main.scope L1=true:=by kernel_rfl
theorem tbH2:tbH pw.main.scope L2=true:=by kernel_rfl
theorem tbH3:tbH pw.main.scope L3=true:=by kernel_rfl
theorem tbH4:tbH pw.main.scope L4=true:=by kernel_rfl
theorem tbH5:tbH pw.main.scope L5=true:=by kernel_rfl
theorem tbW:pw.tablesWhole=true:=
 tbO pw rfl rfl rfl tbN (by rw[show pw.main.body=_ from FU,tbGa,tbGa,tbGa,tbGa,tbGa,tbG1,tbG2,tbG3,tbG4,tbG5];rfl)
  (by rw[show pw.main.body=_ from FU,tbHa,tbHa,tbHa,tbHa,tbHa,tbH1,tbH2,tbH3,tbH4,tbH5];rfl)
theorem SM:PySem.Challenge.rw_nz0548_01.wellSaid=true:=by
 unfold OpenLaw.wellSaid;rw[x7,R6,R5,PySem.W.Fast.named_eq,PySem.W.Fast.te797321630700447069]
 kernel_rfl
end
section
open PySem.W.X
def ot:Arguments×List Stmt×Scope:=match cJ 160 with
 | .FunctionDef _ a b _ _ _ s _ _ _=>(a,b,s)
 |_=>default
def JS:Pos:=match cJ 160 with
 | .FunctionDef _ _ _ _ _ _ _ _ _ p=>p
 |_=>default
def AM:DefRec:=⟨"law",ot.1,ot.2.1,ot.2.2,JS⟩
theorem u7:PySem.Challenge.rw_nz0548_01.row.toRowW.promised:=by w_witness2
theorem BL(R':WalkX qv loose (λ_ _=>True) (λs=>(s.heap,s.toks)) (λw=>(H1 w.params,2186)) PySem.Challenge.rw_nz0548_01.row.toRowW AM [] (λf vs=>PySem.call f vs)):PySem.Challenge.rw_nz0548_01.Holds:=
 holds_law SM λk=>holds_openX (r:=PySem.Challenge.rw_nz0548_01.row) (q:=qv) (loose:=loose) (Xt:=λ_=>true) (XP:=λ_ _=>True) (d:=AM) (kwd:=[]) (N:=20000)
  ES (λ_ _=>trivial) (λ_ _ _ _ _=>trivial) (by kernel_rfl) (by kernel_rfl) (by kernel_rfl) (λ_ _=>recFacts_nil rfl) (by kernel_rfl) k (by kernel_rfl) ⟨rfl,rfl,rfl,rfl,rfl,tbW⟩ u7 R'
end
set_option tactic.hygienic false
theorem Iu(h:m<3):m=0\/m=1\/m=2:=(by decide:∀m∈List.range 3,m=0\/m=1\/m=2) m (List.mem_range.mpr h)
theorem Mf(h:m<5):m=0\/m=1\/m=2\/m=3\/m=4:=(by decide:∀m∈List.range 5,m=0\/m=1\/m=2\/m=3\/m=4) m (List.mem_range.mpr h)
theorem Um(h:m<4):m=0\/m=1\/m=2\/m=3:=(by decide:∀m∈List.range 4,m=0\/m=1\/m=2\/m=3) m (List.mem_range.mpr h)
theorem Ir(h:m<6):m=0\/m=1\/m=2\/m=3\/m=4\/m=5:=(by decide:∀m∈List.range 6,m=0\/m=1\/m=2\/m=3\/m=4\/m=5) m (List.mem_range.mpr h)
theorem QC{P:Int->Prop}{x:Int}(k:Nat)(a:0<=x)(b:x<k)(h:∀m<k,P (m:Int)):P x:=(Int.eq_ofNat_of_zero_le a).elim λn e=>e▸h n (Int.ofNat_lt.mp (e▸b))
theorem Un{x:Int}(a:0<=x)(b:x<2):x=0\/x=1:=QC (P:=λx=>x=0\/x=1) 2 a b (by decide)
theorem Iv{x:Int}(a:0<=x)(b:x<3):x=0\/x=1\/x=2:=QC (P:=λx=>x=0\/x=1\/x=2) 3 a b (by decide)
theorem Mg{x:Int}(a:0<=x)(b:x<5):x=0\/x=1\/x=2\/x=3\/x=4:=QC (P:=λx=>x=0\/x=1\/x=2\/x=3\/x=4) 5 a b (by decide)
theorem Ul{x:Int}(a:0<=x)(b:x<6):x=0\/x=1\/x=2\/x=3\/x=4\/x=5:=QC (P:=λx=>x=0\/x=1\/x=2\/x=3\/x=4\/x=5) 6 a b (by decide)
noncomputable abbrev AP:=Addr->Prop
noncomputable abbrev QS(Z:Type):=Z->Shared->Prop
noncomputable abbrev VP:=Value->Shared->Prop
noncomputable abbrev UP:=Unit->Shared->Prop
noncomputable abbrev SV:=Str->Option Value
inductive AV where
 |none|bool (b:Bool)|int (i:Int)|str (s:Str)|ty (n:String)|bi (n:String)|ad (a:Addr)|any|seen|rng (n:Int)
 |clo (st:Stmt) (caps:List (Str×AV))
 |lst (xs:List AV)|tup (xs:List AV)|dct (es:List (Str×AV))|ins (c:Addr) (fs:List (Str×AV))
inductive OV where
 |v (a:AV)|k (a:AV)|ol (xs:List AV)|od (es:List (Str×AV))|oi (c:Addr) (fs:List (Str×OV))
noncomputable abbrev LA:=List AV
noncomputable abbrev OA:=Option (List AV)
noncomputable abbrev LO:=List (Str×OV)
noncomputable abbrev LE:=List (Str×AV)
noncomputable abbrev LV:=List Value
noncomputable abbrev LP:=List (Str×List AV)
structure S where
 cl:List (Str×AV)
 loc:List (Str×OV)
 ss:Option (List AV)
 dl:Option Nat
structure Cx where
 sc:Scope
 cs:Option Scope
 fx:Option Str
inductive R(Z:Type) where
 |ok (a:Z) (s:S)|exc (m:AV) (s:S)|no
namespace R
noncomputable def bind{Z β:Type}:R Z->(Z->S->R β)->R β
 | .ok a s,f=>f a s
 | .exc m s,_=>.exc m s
 | .no,_=>.no
def noExc{Z:Type}:R Z->R Z
 | .exc _ _=>.no
 |r=>r
end R
inductive C where
 |ok (v:AV) (ZH:OV) (ss:Option (List AV))|exc (m:AV) (ss:Option (List AV))|no
inductive Fl where
 |next|brk|ret (a:AV)
structure f9 where
 e:Cx->Expr->S->R OV
 b:Cx->Expr->S->R Bool
 x:Cx->List Stmt->S->R Fl
 c:Stmt->List OV->List (Str×AV)->Option (List AV)->C
 f:Addr->Stmt->List OV->Option (List AV)->C
noncomputable abbrev vX:=Addr->List OV->Option (List AV)->Option C
noncomputable def xA:List Nat->List Nat->Bool
 |[],[]=>true
 |a::x,b::y=>(match Nat.beq a b with|true=>xA x y|false=>false)
 |_,_=>false
def dM(a b:Str):Bool:=xA a.cps.toList b.cps.toList
noncomputable def bD{Z:Type}:List (Str×Z)->Str->Option Z
 |[],_=>none
 |(y,v)::l,x=>match dM y x with|true=>some v|false=>bD l x
noncomputable def dy{Z:Type}:List (Str×Z)->Str->Z->List (Str×Z)
 |[],x,v=>[(x,v)]
 |(y,w)::l,x,v=>match dM y x with|true=>(y,v)::l|false=>(y,w)::dy l x v
noncomputable def eP{Z:Type}:List (Str×Z)->Str->List (Str×Z)
 |[],_=>[]
 |(y,w)::l,x=>match dM y x with|true=>eP l x|false=>(y,w)::eP l x
noncomputable def Lq:List Str->Str->Bool
 |[],_=>false
 |y::l,x=>match dM y x with|true=>true|false=>Lq l x
noncomputable def dc{Z:Type}:List (Addr×Z)->Addr->Option Z
 |[],_=>none
 |(y,v)::l,x=>match Nat.beq y x with|true=>some v|false=>dc l x
noncomputable abbrev jE:Addr:=38
noncomputable abbrev gG:Addr:=67
noncomputable abbrev o6:Addr:=88
noncomputable abbrev jd:Addr:=110
noncomputable abbrev nI:Addr:=131
noncomputable abbrev o7:Addr:=153
noncomputable abbrev dp:Addr:=362
noncomputable abbrev qH:Addr:=497
noncomputable abbrev dD:Addr:=1356
def iW:List (Addr×List (Str×Addr)):=[(jE,[("__init__",35)]),(gG,[("__init__",57)]),(o6,[("__init__",85)]),(jd,[("__init__",107)]),(nI,[("__init__",128)]),(o7,[("__init__",150)]),
 (qH,[("__init__",454),("exact",461),("partial",468),("partial_of",475),("positional",482),("is_free",489),("rest",494)]),
 (dD,[("__init__",1165),("new_env",1172),("call_builtin",1309),("call_value",1346)])]
def gW:List (Addr×Stmt):=[(35,fu 2 0),(57,fu 3 0),(85,fu 4 0),(107,fu 5 0),(128,fu 6 0),(150,fu 7 0),(206,cJ 10),(213,cJ 11),(220,cJ 12),(227,cJ 13),(234,cJ 14),(240,cJ 15),(254,cJ 17),(261,cJ 18),(268,cJ 19),(275,cJ 20),
 (282,cJ 21),(289,cJ 23),(303,cJ 25),(308,cJ 26),(313,cJ 27),(320,cJ 28),(332,cJ 30),(359,fu 33 0),(454,fu 39 0),(461,fu 39 1),(468,fu 39 2),(475,fu 39 3),(482,fu 39 4),(489,fu 39 5),(494,fu 39 6),(526,cJ 43),(532,cJ 44),
 (539,cJ 46),(544,cJ 47),(549,cJ 48),(556,cJ 50),(561,cJ 51),(568,cJ 52),(575,cJ 53),(582,cJ 54),(589,cJ 55),(787,cJ 91),(794,cJ 92),(829,cJ 97),(850,cJ 100),(857,cJ 101),(864,cJ 102),(890,cJ 106),(895,cJ 107),(902,cJ 108),
 (909,cJ 110),(916,cJ 111),(923,cJ 113),(928,cJ 114),(933,cJ 115),(940,cJ 116),(947,cJ 117),(954,cJ 118),(961,cJ 120),(968,cJ 121),(975,cJ 122),(980,cJ 123),(987,cJ 124),(992,cJ 125),(999,cJ 126),(1006,cJ 127),(1013,cJ 128),(1020,cJ 129),
 (1027,cJ 130),(1032,cJ 131),(1039,cJ 132),(1046,cJ 133),(1053,cJ 134),(1165,fu 150 0),(1172,fu 150 1),(1309,fu 150 20),(1346,fu 150 25),(1374,cJ 153),(1381,cJ 154),(1388,cJ 155),(1395,cJ 156),(1400,cJ 157),(1405,cJ 158),(1412,cJ 159),(1417,cJ 160)]
def YO:List (String×AV):=[("Null",.ad jE),("Vector",.ad gG),("Symbol",.ad o6),("Call",.ad jd),("Builtin",.ad nI),("Environment",.ad o7),("Refusal",.ad dp),("Matching",.ad qH),("Evaluator",.ad dD),
 ("null",.ad 206),("logical",.ad 213),("integer",.ad 220),("character",.ad 227),("named",.ad 234),("list_of",.ad 240),("length",.ad 254),("is_vector",.ad 261),("is_atomic",.ad 268),("is_function",.ad 275),("share",.ad 282),("get_attr",.ad 289),("put_attr",.ad 303),
 ("set_names",.ad 308),("names_of",.ad 313),("dim_of",.ad 320),("class_attr",.ad 332),("match_names",.ad 526),("take",.ad 532),("is_factor",.ad 539),("pick",.ad 544),("which_true",.ad 549),("function_arg",.ad 556),("item_values",.ad 561),("value_names",.ad 568),
 ("call_each",.ad 575),("use_names",.ad 582),("dimnames_value",.ad 589),("kind_order",.ad 787),("common_kind",.ad 794),("to_logical",.ad 829),("to_text",.ad 850),("item_as",.ad 857),("is_atomic_kind",.ad 864),("with_names",.ad 890),("as_kind",.ad 895),("condition",.ad 902),
 ("needed_arg",.ad 909),("flag_arg",.ad 916),("joined_name",.ad 923),("combine_ones",.ad 928),("as_columns",.ad 933),("common_length",.ad 940),("all_ones",.ad 947),("simplified",.ad 954),("b_lapply",.ad 961),("b_sapply",.ad 968),("check_form",.ad 975),("b_vapply",.ad 980),
 ("form_matrix",.ad 987),("walk_together",.ad 992),("together_names",.ad 999),("b_map",.ad 1006),("reduce_steps",.ad 1013),("b_reduce",.ad 1020),("test_each",.ad 1027),("b_filter",.ad 1032),("found_place",.ad 1039),("b_position",.ad 1046),("b_find",.ad 1053),
 ("_law_pick",.ad 1374),("_law_figure",.ad 1381),("_law_value",.ad 1388),("_law_names",.ad 1395),("_law_same",.ad 1400),("_law_simple",.ad 1405),("_law_told",.ad 1412),
 ("len",.bi "len"),("isinstance",.bi "isinstance"),("max",.bi "max"),("sum",.bi "sum"),("list",.ty "list"),("range",.ty "range"),("str",.ty "str"),("int",.ty "int")]
def gl:List (Str×AV):=YO.map λp=>(Str.ofString p.1,p.2)
noncomputable def vV:List Addr:=[234,890,320,289,308,303,1374,461,468,475,482,489,494,1172,35,57,85,107,128,150,454,1165]
noncomputable def eQ:List Addr->Addr->Bool
 |[],_=>false
 |y::l,x=>match Nat.beq y x with|true=>true|false=>eQ l x
def ef(n:Str):Bool:=Lq ["shared","loose","visible","current"] n
def jF:List (Addr×List Str):=[(jE,["kind","attrs"]),(gG,["kind","items","attrs","shared","loose"]),(o6,["kind","name","attrs"]),(jd,["kind","items","tags","attrs","code"]),(nI,["kind","name","special","fn","group","attrs"]),
 (o7,["kind","number","parent","attrs","frame","locked","locks"]),(qH,["formals","tags","used","places"]),
 (dD,["limit","most_frames","steps","next_number","base","globals","frames","out","warnings","handlers","restarts","targets","visible","current","dispatcher","signaller","warner","deparser","s4"])]
def hU(c:Addr)(n:Str):Bool:=match dc jF c with
 |some l=>Lq l n
 |none=>false
def AJ(c:Addr)(fs:List (Str×OV)):Bool:=match Nat.beq c dD with
 |true=>(bD fs "current").isSome
 |false=>true
noncomputable def mG:OV->Option AV
 | .v a=>some a
 | .k a=>some a
 | .ol xs=>some (.lst xs)
 | .od es=>some (.dct es)
 | .oi _ _=>none
noncomputable def nE:List (Str×OV)->Option (List (Str×AV))
 |[]=>some []
 |(x,o)::l=>match bD l x with
  |some _=>none
  |none=>match ef x with
   |true=>nE l
   |false=>match mG o,nE l with
    |some a,some r=>some ((x,a)::r)
    |_,_=>none
def uq:OV->Option AV
 | .oi c fs=>(match AJ c fs,nE fs with|true,some l=>some (.ins c l)|_,_=>none)
 |o=>mG o
def Ls:OV->Option OV
 | .oi c fs=>(uq (.oi c fs)).map .v
 | .k a=>some (.v a)
 |o=>some o
inductive Wh where
 |comp|frame|top|no
def cN(cx:Cx)(x:Str):Wh:=match cx.cs with
 |some c=>(match bD c.names x with
  |some .local=>.comp
  |some .free=>.frame
  |some .cell=>.frame
  |some .globalImplicit=>.top
  |_=>.no)
 |none=>(match bD cx.sc.names x with
  |some .local=>.frame
  |some .cell=>.frame
  |some .free=>.frame
  |some .globalImplicit=>.top
  |_=>.no)
def S.set(s:S)(x:Str)(o:OV):S:={s with loc:=dy s.loc x o}
noncomputable def dP(x:Str):Bool:=match x.cps.toList with
 |a::b::_=>(match Nat.beq a 95 with|true=>Nat.beq b 95|false=>false)
 |_=>false
def jP(cx:Cx)(x:Str)(s:S):R OV:=match dP x with
 |true=>.no
 |false=>match cN cx x with
 | .comp=>(match bD s.cl x with|some a=>.ok (.v a) s|none=>.no)
 | .frame=>(match bD s.loc x with
  |some (.v a)=>.ok (.v a) s
  |some (.k a)=>.ok (.v a) s
  |some o=>(match uq o with|some a=>.ok (.v a) (s.set x (.v a))|none=>.no)
  |none=>.no)
 | .top=>(match bD gl x with|some a=>.ok (.v a) s|none=>.no)
 | .no=>.no
def bQ(cx:Cx)(e:Expr)(s:S):Option (Str×OV):=match e with
 | .Name x _=>(match dP x with
  |true=>none
  |false=>(match cN cx x with
   | .frame=>(match bD s.loc x with
    |some (.v _)=>none
    |some (.k _)=>none
    |some o=>some (x,o)
    |none=>none)
   |_=>none))
 |_=>none
def vl(r:R OV):R AV:=r.bind λo s=>match uq o with|some a=>.ok a s|none=>.no
noncomputable def gZ:AV->Option Bool
 | .none=>some false
 | .bool b=>some b
 |_=>none
mutual
noncomputable def i6:Nat->AV->Option PyData
 |_,.none=>some .none
 |_,.bool b=>some (.bool b)
 |_,.int i=>some (.int i)
 |_,.str x=>some (.str x)
 |n+1,.lst xs=>(match gD n xs with|some l=>some (.list l)|none=>none)
 |n+1,.tup xs=>(match gD n xs with|some l=>some (.tuple l)|none=>none)
 |_,_=>none
noncomputable def gD:Nat->List AV->Option (List PyData)
 |_,[]=>some []
 |n,a::l=>(match i6 n a with
  |some x=>(match gD n l with|some r=>some (x::r)|none=>none)
  |none=>none)
end
mutual
noncomputable def xn:PyData->PyData->Bool
 | .none,.none=>true
 | .bool a,.bool b=>a==b
 | .int i,.int j=>decide (i=j)
 | .str x,.str y=>dM x y
 | .list xs,.list ys=>rR xs ys
 | .tuple xs,.tuple ys=>rR xs ys
 | .bool a,.int j=>PyData.eqv (.bool a) (.int j)
 | .int j,.bool a=>PyData.eqv (.int j) (.bool a)
 |_,_=>false
noncomputable def rR:List PyData->List PyData->Bool
 |[],[]=>true
 |a::x,b::y=>(match xn a b with
  |true=>rR x y
  |false=>false)
 |_,_=>false
end
def eK(a b:AV):Option Bool:=match i6 4 a,i6 4 b with
 |some x,some y=>some (xn x y)
 |_,_=>none
def DU(a b:AV):Option Bool:=match a,b with
 | .lst xs,.lst ys=>(match Nat.beq xs.length ys.length with|true=>eK a b|false=>some false)
 |a,b=>eK a b
noncomputable def uo(x:Str):List AV->Option Bool
 |[]=>some false
 | .str y::l=>(match uo x l with|some b=>(match dM y x with|true=>some true|false=>some b)|none=>none)
 |_::_=>none
noncomputable def uD(x:Str):Nat->List AV->Option Nat
 |_,[]=>none
 |n,.str y::l=>(match dM y x with|true=>some n|false=>uD x (n+1) l)
 |_,_::_=>none
noncomputable def o5(i:Int):List AV->Option Nat
 |[]=>some 0
 | .int j::l=>(match o5 i l with|some n=>some (if j=i then n+1 else n)|none=>none)
 |_::_=>none
noncomputable def rO:Int->List AV->Option Int
 |a,[]=>some a
 |a,.int j::l=>rO (a+j) l
 |_,_::_=>none
noncomputable def dF(n:Nat):Bool:=Nat.ble n 4000
noncomputable def fg(n:Nat):Bool:=Nat.ble n 100000
noncomputable def nt(x:Str):Nat->Str
 |0=>⟨#[]⟩
 |n+1=>x++nt x n
noncomputable def k7{Z:Type}(xs:List Z):Nat->List Z
 |0=>[]
 |n+1=>xs++k7 xs n
noncomputable def cZ(a:AV)(s:S):R OV:=.ok (.v a) s
noncomputable def et(i:Int):Bool:=match i with
 | .ofNat n=>Nat.blt n 9223372036854775808
 | .negSucc n=>Nat.blt n 9223372036854775808
def kl(op:Operator)(a b:AV)(s:S):R OV:=match op,a,b with
 | .Add,.int i,.int j=>cZ (.int (i+j)) s
 | .Sub,.int i,.int j=>cZ (.int (i-j)) s
 | .Mult,.int i,.int j=>(match et j with|true=>cZ (.int (i*j)) s|false=>(match et i with|true=>cZ (.int (i*j)) s|false=>.no))
 | .FloorDiv,.int i,.int (.ofNat (n+1))=>(match Nat.blt n 1000000 with|true=>cZ (.int (Int.fdiv i (.ofNat (n+1)))) s|false=>.no)
 | .Mod,.int i,.int (.ofNat (n+1))=>cZ (.int (Int.fmod i (.ofNat (n+1)))) s
 | .Add,.str x,.str y=>(match fg (x.cps.size+y.cps.size)with|true=>cZ (.str (x++y)) s|false=>.no)
 | .Mult,.str x,.int (.ofNat n)=>(match fg n,fg (x.cps.size*n)with|true,true=>cZ (.str (nt x n)) s|_,_=>.no)
 | .Add,.lst x,.lst y=>(match dF (x.length+y.length)with|true=>.ok (.ol (x++y)) s|false=>.no)
 | .Mult,.lst x,.int (.ofNat n)=>(match dF n,dF (x.length*n)with|true,true=>.ok (.ol (k7 x n)) s|_,_=>.no)
 |_,_,_=>.no
def qw(op:CmpOp)(a b:AV):Option Bool:=match op with
 | .Eq=>DU a b
 | .NotEq=>(eK a b).map not
 | .Lt=>(match a,b with| .int i,.int j=>some (decide (i<j))|_,_=>none)
 | .LtE=>none
 | .Gt=>(match a,b with| .int i,.int j=>some (decide (j<i))|_,_=>none)
 | .GtE=>(match a,b with| .int i,.int j=>some (decide (j<=i))|_,_=>none)
 | .Is=>(match b with| .none=>(match a with| .none=>some true| .any=>none|_=>some false)|_=>none)
 | .IsNot=>(match b with| .none=>(match a with| .none=>some false| .any=>none|_=>some true)|_=>none)
 | .In=>(match a,b with
  | .str x,.lst l=>uo x l
  | .str x,.tup l=>uo x l
  | .str x,.dct es=>some (bD es x).isSome
  |_,_=>none)
 | .NotIn=>(match a,b with
  | .str x,.lst l=>(uo x l).map not
  | .str x,.dct es=>some (!(bD es x).isSome)
  |_,_=>none)
noncomputable def xl(xs:List AV)(i:Int):Option AV:=match i with
 | .ofNat n=>xs[n]?
 | .negSucc n=>xs.reverse[n]?
noncomputable def cG(e:Expr):Bool:= !(Nat.beq e.ctorIdx 22||Nat.beq e.ctorIdx 7)
noncomputable def eu:Expr->Bool
 | .Call (.Name _ _) [] [] _=>false
 |_=>true
noncomputable def oM(rc:f9)(cx:Cx):List Expr->S->R (List AV)
 |[],s=>.ok [] s
 |e::l,s=>match cG e with
  |false=>.no
  |true=>(vl (rc.e cx e s)).bind λa s=>(oM rc cx l s).bind λas s=>.ok (a::as) s
def uY(rc:f9)(cx:Cx)(o:Expr)(n:Str)(s:S):R OV:=match eu o with
 |false=>.no
 |true=>match bQ cx o s with
 |some (x,.oi c fs)=>(match hU c n,bD fs n with
  |true,some (.v a)=>.ok (.v a) s
  |true,some w=>(match mG w with|some a=>.ok (.v a) (s.set x (.oi c (dy fs n (.v a))))|none=>.no)
  |_,_=>.no)
 |_=>(vl (rc.e cx o s)).bind λa s=>match a with
  | .ins c fs=>(match hU c n with
   |true=>(match ef n with
    |true=>(match Nat.beq c dD,dM n "current" with|true,true=>cZ .any s|_,_=>.no)
    |false=>(match bD fs n with|some a=>cZ a s|none=>.no))
   |false=>.no)
  |_=>.no
def nA(cx:Cx)(e:Expr)(s:S):Option OV:=match e with
 | .Attribute o n _=>(match eu o,bQ cx o s with
  |true,some (_,.oi c fs)=>(match hU c n,bD fs n with
   |true,some (.od es)=>some (.od es)
   |_,_=>none)
  |_,_=>none)
 |e=>(bQ cx e s).map (·.2)
def uB(rc:f9)(cx:Cx):Option Expr->S->R (Option Int)
 |none,s=>.ok none s
 |some e,s=>(vl (rc.e cx e s)).bind λa s=>match a with| .int i=>.ok (some i) s|_=>.no
noncomputable def lj(xs:List AV)(l u st:Option Int):Option (List AV):=match l,u,st with
 |none,none,some (.negSucc 0)=>some xs.reverse
 |some (.ofNat n),none,none=>some (xs.drop n)
 |some (.negSucc 0),none,none=>some (match xs.reverse with|[]=>[]|a::_=>[a])
 |none,some (.ofNat n),none=>some (xs.take n)
 |_,_,_=>none
def fw(a k:AV)(s:S):R OV:=match a,k with
 | .lst xs,.int k=>(match xl xs k with|some a=>cZ a s|none=>.no)
 | .tup xs,.int k=>(match xl xs k with|some a=>cZ a s|none=>.no)
 | .dct es,.str x=>(match bD es x with|some a=>cZ a s|none=>.no)
 |_,_=>.no
def gu(cx:Cx)(e:Expr)(s:S):Option (Str×Addr×List (Str×OV)×OV):=match e with
 | .Attribute o n _=>(match eu o,bQ cx o s with
  |true,some (x,.oi c fs)=>(match hU c n,bD fs n with
   |true,some w=>some (x,c,fs,w)
   |_,_=>none)
  |_,_=>none)
 |_=>none
def Hm(rc:f9)(cx:Cx)(b i:Expr)(s:S):R OV:=match i with
 | .Slice l u st _=>(vl (rc.e cx b s)).bind λa s=>(uB rc cx l s).bind λl s=>(uB rc cx u s).bind λu s=>(uB rc cx st s).bind λst s=>match a with
  | .lst xs=>(match lj xs l u st with|some ys=>.ok (.ol ys) s|none=>.no)
  |_=>.no
 |i=>match bQ cx b s with
  |some (_,.ol _)=>(vl (rc.e cx i s)).bind λk s=>(match bQ cx b s,k with
   |some (_,.ol xs),.int k=>(match xl xs k with|some a=>cZ a s|none=>.no)
   |_,_=>.no)
  |_=>match gu cx b s with
   |some (y,c,fs,.ol xs)=>(vl (rc.e cx i {s with loc:=eP s.loc y})).bind λk s=>(match bD s.loc y,k with
    |none,.int k=>(match xl xs k with|some a=>cZ a (s.set y (.oi c fs))|none=>.no)
    |_,_=>.no)
   |_=>(vl (rc.e cx b s)).bind λa s=>(vl (rc.e cx i s)).bind λk s=>fw a k s
noncomputable def dh:AV->Option (List AV)
 | .lst xs=>some xs
 | .tup xs=>some xs
 | .rng n=>some ((List.range n.toNat).map λ(k:Nat)=>AV.int (k:Int))
 |_=>none
noncomputable def O0:AV->Option Int
 | .lst xs=>some xs.length
 | .str x=>some x.cps.size
 |_=>none
noncomputable def fj(i:Int):Str:=Str.ofString (toString i)
def IB(d c:Addr):Option Bool:=match dc jF d with
 |some _=>(match Nat.beq c gG with|true=>some (Nat.beq d c)|false=>none)
 |none=>none
def Iz(d:Addr)(t:String):Option Bool:=if t="str" then(match dc jF d with|some _=>some false|none=>none)else none
noncomputable def IA(t:String):Option Bool:=if t="str" then some true else none
def Rx(a b:AV):Option Bool:=match a with
 | .ins d _=>(match b with
  | .ad c=>IB d c
  | .ty t=>Iz d t
  |_=>none)
 | .str _=>(match b with
  | .ty t=>IA t
  |_=>none)
 |_=>none
def IJ(as:List AV)(s:S):R OV:=match as with
 |[a]=>(match O0 a with|some n=>cZ (.int n) s|none=>.no)
 |_=>.no
def QV(as:List AV)(s:S):R OV:=match as with
 |[a,b]=>(match Rx a b with|some b=>cZ (.bool b) s|none=>.no)
 |_=>.no
def HA(a b:AV)(s:S):R OV:=match a with
 | .int i=>(match b with| .int j=>cZ (.int (if i<j then j else i)) s|_=>.no)
 |_=>.no
def MG(as:List AV)(s:S):R OV:=match as with
 |[a,b]=>HA a b s
 |_=>.no
def Hz(a:AV)(s:S):R OV:=match a with
 | .lst xs=>(match rO 0 xs with|some n=>cZ (.int n) s|none=>.no)
 |_=>.no
def MF(as:List AV)(s:S):R OV:=match as with
 |[a]=>Hz a s
 |_=>.no
def wk(n:String)(as:List AV)(s:S):R OV:=if n="len" then IJ as s else if n="isinstance" then QV as s else if n="max" then MG as s else if n="sum" then MF as s else .no
def GR(a:AV)(s:S):R OV:=match a with
 | .lst xs=>.ok (.ol xs) s
 | .rng n=>(match dF n.toNat with|true=>.ok (.ol ((List.range n.toNat).map λ(k:Nat)=>AV.int (k:Int))) s|false=>.no)
 |_=>.no
def LS(a:AV)(s:S):R OV:=match a with
 | .int n=>(match et n with|true=>cZ (.rng n) s|false=>.no)
 |_=>.no
def LR(a:AV)(s:S):R OV:=match a with
 | .int i=>(match et i with|true=>(match fg (fj i).cps.size with|true=>cZ (.str (fj i)) s|false=>.no)|false=>.no)
 | .str x=>cZ (.str x) s
 |_=>.no
def LU(a:AV)(s:S):R OV:=match a with
 | .bool b=>cZ (.int (if b then 1 else 0)) s
 |_=>.no
def qT(n:String)(a:AV)(s:S):R OV:=if n="list" then GR a s else if n="range" then LS a s else if n="str" then LR a s else if n="int" then LU a s else .no
def lh(n:String)(as:List AV)(s:S):R OV:=match as with
 |[a]=>qT n a s
 |_=>.no
def An(rc:f9)(cx:Cx)(bA:Bool)(e:Expr)(s:S):R OV:=match bA with
 |true=>rc.e cx e s
 |false=>(vl (rc.e cx e s)).bind λa s=>.ok (.v a) s
noncomputable def bY(rc:f9)(cx:Cx)(bA:Bool):List Expr->S->R (List OV)
 |[],s=>.ok [] s
 |e::l,s=>match cG e with
  |false=>.no
  |true=>(An rc cx bA e s).bind λo s=>(bY rc cx bA l s).bind λos s=>.ok (o::os) s
noncomputable def C.toR(c:C)(s:S)(f:AV->OV->S->R OV):R OV:=match c with
 | .ok v b ss=>f v b {s with ss:=ss}
 | .exc m ss=>.exc m {s with ss:=ss}
 | .no=>.no
def C.toL(c:C)(x:Str)(s:S):R OV:=match c with
 | .ok v b ss=>.ok (.v v) {s.set x b with ss:=ss}
 | .exc m ss=>.exc m {s with ss:=ss,loc:=eP s.loc x}
 | .no=>.no
def lz(rc:f9)(cx:Cx)(f:Addr)(ei:List AV)(args:List Expr)(s:S):R OV:=match dc gW f with
 |none=>.no
 |some st=>match eQ vV f,ei,args with
  |true,[],e::l=>(match bQ cx e s with
   |some (x,_)=>(bY rc cx true l s).bind λos s=>(match bQ cx e s with
    |some (_,o)=>(rc.f f st (o::os) s.ss).toL x s
    |none=>.no)
   |none=>(bY rc cx true (e::l) s).bind λos s=>(rc.f f st (([]:List AV).map OV.v++os) s.ss).toR s λv Y s=>cZ v s)
  |_,ei,args=>(bY rc cx false args s).bind λos s=>(rc.f f st (ei.map OV.v++os) s.ss).toR s λv Y s=>cZ v s
def DH(rc:f9)(cx:Cx)(c:Addr)(args:List Expr)(s:S):R OV:=match dc iW c with
 |none=>.no
 |some ms=>match bD ms "__init__" with
  |none=>.no
  |some f=>match dc gW f with
   |none=>.no
   |some st=>(bY rc cx true args s).bind λos s=>(rc.f f st (.oi c []::os) s.ss).toR s λv b s=>(match v with| .none=>.ok b s|_=>.no)
def jD(rc:f9)(cx:Cx)(f:AV)(args:List Expr)(s:S):R OV:=match f with
 | .bi n=>(oM rc cx args s).bind λas s=>wk n as s
 | .ty n=>(oM rc cx args s).bind λas s=>lh n as s
 | .ad a=>(match dc iW a with
  |some _=>DH rc cx a args s
  |none=>lz rc cx a [] args s)
 | .clo st caps=>(bY rc cx false args s).bind λos s=>(rc.c st os caps s.ss).toR s λv Y s=>cZ v s
 |_=>.no
def wi(rc:f9)(cx:Cx)(o:Expr)(m:Str)(args:List Expr)(s:S):R OV:=match eu o with
 |false=>.no
 |true=>match bQ cx o s with
 |some (x,.ol xs)=>(match args with
  |[e]=>(match dM m "append" with
   |true=>(vl (rc.e cx e s)).bind λa s=>(match bQ cx o s with
    |some (_,.ol xs)=>(match dF (xs.length+1)with|true=>cZ .none (s.set x (.ol (xs++[a])))|false=>.no)
    |_=>.no)
   |false=>(match dM m "extend" with
    |true=>(vl (rc.e cx e s)).bind λa s=>(match a with
     | .lst ys=>(match bQ cx o s with
      |some (_,.ol xs)=>(match dF (xs.length+ys.length)with|true=>cZ .none (s.set x (.ol (xs++ys)))|false=>.no)
      |_=>.no)
     |_=>.no)
    |false=>.no))
  |_=>.no)
 |some (x,.oi c fs)=>(match dc iW c with
  |none=>.no
  |some ms=>match bD ms m with
   |none=>.no
   |some f=>match dc gW f,eQ vV f,bD fs m with
    |some st,true,none=>(bY rc cx true args s).bind λos s=>(match bQ cx o s with
     |some (_,.oi c fs)=>(rc.f f st (.oi c fs::os) s.ss).toL x s
     |_=>.no)
    |_,_,_=>.no)
 |_=>(vl (rc.e cx o s)).bind λa s=>match a with
  | .seen=>(match args,dM m "append" with
   |[e],true=>(vl (rc.e cx e s)).bind λa s=>(match s.ss with
    |some l=>(match dF (l.length+1)with|true=>cZ .none {s with ss:=some (l++[a])}|false=>.no)
    |none=>.no)
   |_,_=>.no)
  | .lst xs=>(match args,dM m "count" with
   |[e],true=>(vl (rc.e cx e s)).bind λa s=>(match a with
    | .int i=>(match o5 i xs with|some n=>cZ (.int n) s|none=>.no)
    |_=>.no)
   |_,_=>.no)
  | .tup xs=>(match args,dM m "index" with
   |[e],true=>(vl (rc.e cx e s)).bind λa s=>(match a with
    | .str x=>(match uD x 0 xs with|some n=>cZ (.int n) s|none=>.no)
    |_=>.no)
   |_,_=>.no)
  | .dct es=>(match args,dM m "get" with
   |[e],true=>(vl (rc.e cx e s)).bind λa s=>(match a with
    | .str x=>cZ (match bD es x with|some a=>a|none=>.none) s
    |_=>.no)
   |_,_=>.no)
  | .ins c fs=>(match bD fs m with
   |some f=>(match hU c m with|true=>jD rc cx f args s|false=>.no)
   |none=>(match dc iW c with
    |none=>.no
    |some ms=>match bD ms m with
     |none=>.no
     |some f=>lz rc cx f [.ins c fs] args s))
  |_=>.no
noncomputable def c9:List Expr->Bool
 |[]=>true
 |e::l=>cG e&&c9 l
def Hw(rc:f9)(cx:Cx)(n:String)(args:List Expr)(s:S):R OV:=match args with
 |[e]=>if n="len" then(match nA cx e s with
  |some (.ol xs)=>cZ (.int xs.length) s
  |_=>jD rc cx (.bi n) args s)else jD rc cx (.bi n) args s
 |_=>jD rc cx (.bi n) args s
def uX(rc:f9)(cx:Cx)(f:Expr)(args:List Expr)(pos:Pos)(s:S):R OV:=match c9 args,f with
 |false,_=>.no
 |true,.Attribute o m ap=>(match Nat.beq ap.endLine pos.line,Nat.blt args.length 30,eu o with
  |true,true,true=>wi rc cx o m args s
  |_,_,_=>.no)
 |true,.Name x p=>(vl (rc.e cx (.Name x p) s)).bind λfv s=>match fv with
  | .bi n=>Hw rc cx n args s
  |_=>jD rc cx fv args s
 |true,_=>.no
def km(t:Expr)(a:AV)(cl:List (Str×AV)):Option (List (Str×AV)):=match t with
 | .Name x _=>some (dy cl x a)
 | .Tuple [.Name x _,.Name y _] _ _=>(match a with| .tup [u,v]=>some (dy (dy cl x u) y v)|_=>none)
 |_=>none
noncomputable def zD(rc:f9)(cx:Cx):List Expr->S->R Bool
 |[],s=>.ok true s
 |c::l,s=>(rc.b cx c s).bind λb s=>match b with|true=>zD rc cx l s|false=>.ok false s
def fD(ys:List AV)(s:S):R OV:=match dF ys.length with|true=>.ok (.v (.lst ys)) {s with cl:=[]}|false=>.no
noncomputable def dU(f:S->R (List AV))(t:Expr)(g:S->R Bool):List AV->S->R (List AV)
 |[],s=>.ok [] s
 |a::l,s=>match km t a s.cl with
  |none=>.no
  |some cl=>(g {s with cl:=cl}).bind λb s=>match b with
   |false=>dU f t g l s
   |true=>(f s).bind λxs s=>(dU f t g l s).bind λys s=>.ok (xs++ys) s
noncomputable def dJ(cx:Cx):List (Str×NameKind)->Bool
 |[]=>true
 |(x,.free)::l=>(match bD cx.sc.names x with|some .cell=>dJ cx l|_=>false)
 |(_,.local)::l=>dJ cx l
 |(_,.globalImplicit)::l=>dJ cx l
 |_=>false
def gP(sc:Scope)(x:Str):Bool:=match bD sc.names x with
 |some .local=>true
 |_=>false
def g7(sc:Scope):Expr->Bool
 | .Name x _=>gP sc x
 | .Tuple [.Name x _,.Name y _] _ _=>(match gP sc x with|true=>gP sc y|false=>false)
 |_=>false
noncomputable def iD(sc:Scope):List Comprehension->Bool
 |[]=>true
 |⟨t,_,_,_⟩::l=>(match g7 sc t with|true=>iD sc l|false=>false)
noncomputable def fU(sc:Scope):List (Str×NameKind)->Bool
 |[]=>true
 |(x,.local)::l=>(match gP sc x with|true=>fU sc l|false=>false)
 |_::l=>fU sc l
noncomputable def Dp(sc:Scope):Bool:=match sc.kind with
 | .function=>true
 |_=>false
def hJ(rc:f9)(cx:Cx)(elt:Expr)(gens:List Comprehension)(sc:Scope)(s:S):R (List AV):=match cx.cs,gens with
 |none,[⟨t,it,iS,0⟩]=>match cG it with
  |false=>.no
  |true=>(vl (rc.e cx it s)).bind λa s=>(match dh a with
  |none=>.no
  |some xs=>dU (λs=>(vl (rc.e ⟨cx.sc,some sc,cx.fx⟩ elt s)).bind λa s=>.ok [a] s) t (zD rc ⟨cx.sc,some sc,cx.fx⟩ iS) xs {s with cl:=[]})
 |none,[⟨t,it,[],0⟩,⟨t2,iO,[],0⟩]=>match cG it,cG iO with
  |true,true=>(vl (rc.e cx it s)).bind λa s=>(match dh a with
  |none=>.no
  |some xs=>dU (λs=>(vl (rc.e ⟨cx.sc,some sc,cx.fx⟩ iO s)).bind λa s=>(match dh a with
    |none=>.no
    |some ys=>dU (λs=>(vl (rc.e ⟨cx.sc,some sc,cx.fx⟩ elt s)).bind λa s=>.ok [a] s) t2 (λs=>.ok true s) ys s)) t (λs=>.ok true s) xs {s with cl:=[]})
  |_,_=>.no
 |_,_=>.no
def iE(rc:f9)(cx:Cx)(elt:Expr)(gens:List Comprehension)(sc:Scope)(s:S):R OV:=match dJ cx sc.names,iD sc gens,fU sc sc.names,Dp sc with
 |true,true,true,true=>(hJ rc cx elt gens sc s).bind fD
 |_,_,_,_=>.no
noncomputable def fW(rc:f9)(cx:Cx)(out:Str):List Expr->S->R OV
 |[],s=>cZ (.str out) s
 | .Constant (.str x) _ _::l,s=>(match fg (out.cps.size+x.cps.size),PyData.strOk x with|true,true=>fW rc cx (out++x) l s|_,_=>.no)
 | .FormattedValue v (.negSucc 0) none _::l,s=>(vl (rc.e cx v s)).bind λa s=>(match a with
  | .int i=>(match et i,fg (out.cps.size+(fj i).cps.size)with|true,true=>fW rc cx (out++fj i) l s|_,_=>.no)
  | .str x=>(match fg (out.cps.size+x.cps.size)with|true=>fW rc cx (out++x) l s|false=>.no)
  |_=>.no)
 |_,_=>.no
noncomputable def lx(rc:f9)(cx:Cx)(op:BoolOp):List Expr->S->R AV
 |[],_=>.no
 |[e],s=>vl (rc.e cx e s)
 |e::l,s=>(vl (rc.e cx e s)).bind λa s=>match op,gZ a with
  | .And,some false=>.ok a s
  | .Or,some true=>.ok a s
  |_,some _=>lx rc cx op l s
  |_,none=>.no
noncomputable def jR(rc:f9)(cx:Cx):List (Option Expr)->List Expr->S->R (List (Str×AV))
 |[],[],s=>.ok [] s
 |some (.Constant (.str k) _ _)::ks,e::es,s=>(vl (rc.e cx e s)).bind λa s=>(jR rc cx ks es s).bind λl s=>(match bD l k with|none=>.ok ((k,a)::l) s|some _=>.no)
 |_,_,_=>.no
noncomputable def nZ:List (Option Expr)->List Expr->Bool
 |[],[]=>true
 |some (.Constant (.str _) _ _)::ks,_::es=>nZ ks es
 |_,_=>false
def nS(rc:f9)(cx:Cx)(l:Expr)(op:CmpOp)(r:Expr)(s:S):R Bool:=match cG r with
 |false=>.no
 |true=>(vl (rc.e cx l s)).bind λa s=>match op,nA cx r s with
 | .In,some (.od es)=>(match a with| .str x=>.ok (bD es x).isSome s|_=>.no)
 | .NotIn,some (.od es)=>(match a with| .str x=>.ok (!(bD es x).isSome) s|_=>.no)
 |op,_=>(vl (rc.e cx r s)).bind λb s=>match a,b,op with
  | .seen,.lst ys,.NotEq=>(match s.ss with
   |some l=>(match eK (.lst l) (.lst ys)with|some t=>.ok (!t) s|none=>.no)
   |none=>.no)
  |a,b,op=>(match qw op a b with|some t=>.ok t s|none=>.no)
def W2(rc:f9)(cx:Cx)(e:Expr)(s:S):R OV:=match e with
 | .Constant c _ _=>(match c with
  | .none=>cZ .none s
  | .bool b=>cZ (.bool b) s
  | .int i=>cZ (.int i) s
  | .str x=>(match fg x.cps.size,PyData.strOk x with|true,true=>cZ (.str x) s|_,_=>.no)
  |_=>.no)
 | .Name x _=>jP cx x s
 | .Attribute o n _=>uY rc cx o n s
 | .Subscript b i _=>Hm rc cx b i s
 | .List es _=>(oM rc cx es s).bind λxs s=>(match dF xs.length with|true=>.ok (.ol xs) s|false=>.no)
 | .Tuple es _ _=>(oM rc cx es s).bind λxs s=>(match dF xs.length with|true=>cZ (.tup xs) s|false=>.no)
 | .Dict ks es _=>(match Nat.ble ks.length 15,nZ ks es with|true,true=>(jR rc cx ks es s).bind λl s=>.ok (.od l) s|_,_=>.no)
 | .BoolOp op es _=>(lx rc cx op es s).bind λa s=>cZ a s
 | .UnaryOp .USub x _=>(vl (rc.e cx x s)).bind λa s=>(match a with| .int i=>cZ (.int (-i)) s|_=>.no)
 | .BinOp l op r _=>(vl (rc.e cx l s)).bind λa s=>(vl (rc.e cx r s)).bind λb s=>kl op a b s
 | .Compare l [op] [r] _=>(nS rc cx l op r s).bind λb s=>cZ (.bool b) s
 | .IfExp t a b _=>(rc.b cx t s).bind λc s=>(match c with|true=>rc.e cx a s|false=>rc.e cx b s)
 | .Call f as [] p=>uX rc cx f as p s
 | .ListComp elt gens sc _=>(iE rc cx elt gens sc s).noExc
 | .JoinedStr (p::q::ps) _=>fW rc cx ⟨#[]⟩ (p::q::ps) s
 |_=>.no
noncomputable def fy(rc:f9)(cx:Cx)(op:BoolOp):List Expr->S->R Bool
 |[],s=>.ok (match op with| .And=>true| .Or=>false) s
 |e::l,s=>(rc.b cx e s).bind λb s=>match op,b with
  | .And,false=>.ok false s
  | .Or,true=>.ok true s
  |_,_=>fy rc cx op l s
def W3(rc:f9)(cx:Cx)(e:Expr)(s:S):R Bool:=match e with
 | .UnaryOp .Not x _=>(rc.b cx x s).bind λb s=>.ok (!b) s
 | .BoolOp op es _=>fy rc cx op es s
 | .IfExp _ _ _ _=>.no
 | .Compare l [op] [r] _=>nS rc cx l op r s
 | .Compare _ _ _ _=>.no
 |e=>(vl (rc.e cx e s)).bind λa s=>(match gZ a with|some b=>.ok b s|none=>.no)
noncomputable def h9:List Expr->Option (List Str)
 |[]=>some []
 | .Name x _::l=>(match h9 l with|some xs=>some (x::xs)|none=>none)
 |_::_=>none
noncomputable def f6:List Str->List AV->S->R Fl
 |[],[],s=>.ok .next s
 |x::xs,a::as,s=>f6 xs as (s.set x (.v a))
 |_,_,_=>.no
def dQ(cx:Cx)(x:Str):Bool:=match cx.fx with
 |some y=>dM y x
 |none=>false
def cn(cx:Cx)(x:Str)(s:S):Bool:=match cx.cs,dQ cx x with
 |some _,_=>false
 |_,true=>false
 |none,false=>(match bD cx.sc.names x with
  |some .local=>true
  |some .cell=>(match bD s.loc x with|some (.k _)=>false|_=>true)
  |_=>false)
noncomputable def fL(cx:Cx)(s:S):List Str->Bool
 |[]=>true
 |x::l=>match cn cx x s with|true=>fL cx s l|false=>false
noncomputable def jO(xs:List AV)(i:Int)(a:AV):Option (List AV):=match i with
 | .ofNat n=>(match Nat.blt n xs.length with|true=>some (xs.set n a)|false=>none)
 | .negSucc _=>none
noncomputable def kc:OV->Bool
 | .k _=>true
 |_=>false
noncomputable def Ap(e:Expr):Bool:=Nat.beq e.ctorIdx 8||(Nat.beq e.ctorIdx 9||Nat.beq e.ctorIdx 10)
noncomputable def kn(t v:Expr):Bool:= !(Nat.beq t.ctorIdx 22||(Nat.beq v.ctorIdx 9||(Nat.beq v.ctorIdx 10||(Nat.beq v.ctorIdx 25&&(Nat.beq t.ctorIdx 25||Nat.beq t.ctorIdx 24)))))
def ir(cx:Cx)(x:Str):Bool:=match cN cx x with
 | .top=>true
 |_=>false
def bR(rc:f9)(cx:Cx)(t:Expr)(o:OV)(s:S):R Fl:=match t with
 | .Name x _=>(match cn cx x s,kc o with|true,false=>.ok .next (s.set x o)|_,_=>.no)
 | .Attribute b n _=>(match bQ cx b s with
  |some (x,.oi c fs)=>(match hU c n,Ls o,Nat.ble fs.length 100 with
   |true,some o,true=>.ok .next (s.set x (.oi c (dy fs n o)))
   |_,_,_=>.no)
  |_=>(vl (rc.e cx b s)).bind λa s=>(match a with
   | .ins c fs=>(match hU c n,ef n,Nat.ble fs.length 100 with|true,true,true=>.ok .next s|_,_,_=>.no)
   |_=>.no))
 | .Subscript b i _=>(match uq o with
  |none=>.no
  |some w=>match b with
  | .Name x p=>(match bQ cx b s with
   |some (_,.ol _)=>(vl (rc.e cx i s)).bind λk s=>(match bQ cx b s,k with
    |some (x,.ol xs),.int k=>(match jO xs k w with|some ys=>.ok .next (s.set x (.ol ys))|none=>.no)
    |_,_=>.no)
   |_=>.no)
  | .Attribute _ n _=>(match gu cx b s with
   |some (y,c,fs,.ol xs)=>(vl (rc.e cx i {s with loc:=eP s.loc y})).bind λk s=>(match bD s.loc y,k with
    |none,.int k=>(match jO xs k w with|some ys=>.ok .next (s.set y (.oi c (dy fs n (.ol ys))))|none=>.no)
    |_,_=>.no)
   |some (y,c,fs,.od es)=>(vl (rc.e cx i {s with loc:=eP s.loc y})).bind λk s=>(match bD s.loc y,k,dF es.length with
    |none,.str k,true=>.ok .next (s.set y (.oi c (dy fs n (.od (dy es k w)))))
    |_,_,_=>.no)
   |_=>.no)
  |_=>.no)
 | .Tuple ts _ _=>(match h9 ts with
  |none=>.no
  |some xs=>(match fL cx s xs with
   |false=>.no
   |true=>(match uq o with
    |some (.lst as)=>f6 xs as s
    |some (.tup as)=>f6 xs as s
    |_=>.no)))
 |_=>.no
def pK(cx:Cx)(t v:Expr)(s:S):Option (Str×OV):=match t with
 | .Attribute _ _ _=>(match bQ cx v s with
  |some (x,.od es)=>some (x,.od es)
  |_=>none)
 |_=>none
noncomputable def ek(f:AV->S->R Fl):List AV->S->R Fl
 |[],s=>.ok .next s
 |a::l,s=>(f a s).bind λfl s=>match fl with
  | .next=>ek f l s
  | .brk=>.ok .next s
  | .ret v=>.ok (.ret v) s
noncomputable def qM(t:S->R Bool)(f:S->R Fl):Nat->S->R Fl
 |0,_=>.no
 |n+1,s=>(t s).bind λb s=>match b with
  |false=>.ok .next s
  |true=>(f s).bind λfl s=>match fl with
   | .next=>qM t f n s
   |_=>.no
noncomputable def gv(s:S):List (Str×NameKind)->Option (List (Str×AV))
 |[]=>some []
 |(x,.free)::l=>(match bD s.loc x,gv s l with
  |some (.v a),some r=>some ((x,a)::r)
  |some (.k a),some r=>some ((x,a)::r)
  |_,_=>none)
 |_::l=>gv s l
noncomputable def nR:List (Str×AV)->S->S
 |[],s=>s
 |(x,a)::l,s=>nR l (s.set x (.k a))
noncomputable def pJ:List Arg->Bool
 |[]=>true
 |a::l=>(match a.annotation with|none=>pJ l|some _=>false)
def sr(ar:List Arg)(b:List Stmt):Bool:=match pJ ar,docOf b with
 |true,none=>true
 |_,_=>false
def bL(rc:f9)(cx:Cx)(st:Stmt)(s:S):R Fl:=match st with
 | .Expr e _=>(match Ap e with|true=>.no|false=>(rc.e cx e s).bind λY s=>.ok .next s)
 | .Return none _=>.ok (.ret .none) s
 | .Return (some e) _=>(vl (rc.e cx e s)).bind λa s=>.ok (.ret a) s
 | .Assign [t] v _=>(match kn t v with
  |false=>.no
  |true=>(match t,v with
  | .Name x _,.List [] _=>(match dM x "seen" with
   |true=>(match cn cx x s,s.ss with|true,none=>.ok .next {s.set x (.v .seen)with ss:=some []}|_,_=>.no)
   |false=>(rc.e cx v s).bind λo s=>bR rc cx t o s)
  | .Name x p,.ListComp elt gens sc _=>(iE rc cx elt gens sc s).noExc.bind λo s=>bR rc cx (.Name x p) o s
  |_,_=>(match pK cx t v s with
   |some (x,o)=>bR rc cx t o (s.set x (.v .any))
   |none=>(rc.e cx v s).bind λo s=>bR rc cx t o s)))
 | .AugAssign (.Name x p) .Add v _=>(vl (jP cx x s)).bind λa s=>(vl (rc.e cx v s)).bind λb s=>(match a,b with
  | .int i,.int j=>bR rc cx (.Name x p) (.v (.int (i+j))) s
  |_,_=>.no)
 | .AugAssign (.Attribute (.Name x p) n q) .Add v _=>(match bQ cx (.Name x p) s with
  |some (_,.oi c fs)=>(match hU c n,bD fs n with
   |true,some (.v (.int i))=>(vl (rc.e cx v s)).bind λb s=>(match b,bQ cx (.Name x p) s with
    | .int j,some (_,.oi c' oK)=>(match hU c' n,Nat.ble oK.length 100 with|true,true=>.ok .next (s.set x (.oi c' (dy oK n (.v (.int (i+j))))))|_,_=>.no)
    |_,_=>.no)
   |_,_=>.no)
  |_=>.no)
 | .If t a b _=>(rc.b cx t s).bind λc s=>(match c with|true=>rc.x cx a s|false=>rc.x cx b s)
 | .For t it body [] _=>match cG it with
  |false=>.no
  |true=>(vl (rc.e cx it s)).bind λa s=>(match dh a with
  |none=>.no
  |some xs=>ek (λa s=>(bR rc cx t (.v a) s).bind λY s=>rc.x cx body s) xs s)
 | .While t body [] _=>(qM (rc.b cx t) (rc.x cx body) 100 s).noExc
 | .Break _=>.ok .brk s
 | .Raise (some (.Call (.Name x _) [e] [] _)) none _=>(match dM x "Refusal",ir cx x,cG e with
  |true,true,true=>(vl (rc.e cx e s)).bind λa s=>(match a with| .str m=>.exc (.str m) s|_=>.no)
  |_,_,_=>.no)
 | .Try body hs [] ey _=>(match rc.x cx body s with
  | .ok f s=>(match ey with
   |[]=>.ok f s
   |_=>((rc.x cx ey s).bind λg s=>(match g with| .next=>.ok f s|_=>.no)).noExc)
  | .exc m s=>(match ey,hs with
   |[],[.ExceptHandler (some (.Name x _)) (some y) [.Return (some (.Attribute (.Name z _) n _)) _] _]=>(match dM x "Refusal",dM z y,dM n "message",cn cx y s,dP y,ir cx x,gP cx.sc y with
    |true,true,true,true,false,true,true=>.ok (.ret m) {s with loc:=eP s.loc y}
    |_,_,_,_,_,_,_=>.no)
   |_,_=>.no)
  | .no=>.no)
 | .FunctionDef n as b ds none [] sc none bd p=>(match as,ds,s.dl with
  |⟨[],ar,none,[],[],none,[]⟩,[],some l=>(match Nat.blt l p.line,gv s sc.names,dJ cx sc.names,sr ar b with
   |true,some caps,true,true=>(match cn cx bd (nR caps s)with
    |true=>.ok .next {(nR caps s).set bd (.v (.clo (.FunctionDef n as b ds none [] sc none bd p) caps))with dl:=some p.line}
    |false=>.no)
   |_,_,_,_=>.no)
  |_,_,_=>.no)
 |_=>.no
noncomputable def bO(rc:f9)(cx:Cx):List Stmt->S->R Fl
 |[],s=>.ok .next s
 |st::l,s=>(bL rc cx st s).bind λf s=>match f with
  | .next=>bO rc cx l s
  |f=>.ok f s
noncomputable def Kf:Expr->Option AV
 | .Constant .none _ _=>some .none
 | .Constant (.int i) _ _=>some (.int i)
 |_=>none
noncomputable def iI:List Expr->Option (List OV)
 |[]=>some []
 |e::l=>(match Kf e,iI l with|some a,some as=>some (.v a::as)|_,_=>none)
noncomputable def fJ(sc:Scope):List (Str×AV)->Bool
 |[]=>true
 |(x,_)::l=>(match bD sc.names x with
  |some .free=>fJ sc l
  |_=>false)
noncomputable def hH:List Arg->List OV->Option (List (Str×OV))
 |[],[]=>some []
 |a::as,o::os=>(match hH as os,kc o with|some l,false=>(match bD l a.arg with|none=>some ((a.arg,o)::l)|some _=>none)|_,_=>none)
 |_,_=>none
noncomputable def gy:List (Str×AV)->List (Str×OV)
 |[]=>[]
 |(x,a)::l=>(x,.k a)::gy l
noncomputable def eN(caps:List (Str×AV)):List (Str×NameKind)->Bool
 |[]=>true
 |(x,.free)::l=>(match bD caps x with|some _=>eN caps l|none=>false)
 |(x,_)::l=>(match bD caps x with|some _=>false|none=>eN caps l)
noncomputable def du(sc:Scope):List (Str×OV)->Bool
 |[]=>true
 |(x,_)::l=>(match bD sc.names x with
  |some .local=>du sc l
  |some .cell=>du sc l
  |_=>false)
noncomputable def wa:List Arg->Option Str
 |[]=>none
 |a::_=>some a.arg
noncomputable def Gx(sc:Scope):Bool:=match sc.kind,sc.isGenerator,sc.isCoroutine with
 | .function,false,false=>true
 |_,_,_=>false
def jw(bA:Bool)(as:List Arg):Option Str:=match bA with
 |true=>wa as
 |false=>none
def wm(bA:Bool)(as:List Arg)(v:AV)(s:S):C:=match bA,as with
 |false,_=>.ok v (.v .none) s.ss
 |true,a::_=>(match bD s.loc a.arg with
  |some o=>(match kc o with|true=>.no|false=>.ok v o s.ss)
  |none=>.no)
 |true,[]=>.no
def fq(bA:Bool)(as:List Arg)(fl:Fl)(s:S):C:=match fl with
 | .brk=>.no
 | .next=>wm bA as .none s
 | .ret a=>wm bA as a s
def mc(rc:f9)(bA:Bool)(st:Stmt)(os:List OV)(caps:List (Str×AV))(ss:Option (List AV)):C:=match st with
 | .FunctionDef _ ⟨[],as,none,[],[],none,ds⟩ body _ _ _ sc _ _ _=>(match iI ds with
  |none=>.no
  |some dv=>(match hH as (os++dv.drop (os.length+dv.length-as.length))with
   |none=>.no
   |some l=>(match Gx sc,eN caps sc.names,fJ sc caps,du sc l,Nat.ble dv.length as.length with
    |true,true,true,true,true=>(match rc.x ⟨sc,none,jw bA as⟩ body ⟨[],l++gy caps,ss,none⟩with
     | .ok fl s=>fq bA as fl s
     | .exc m s=>.exc m s.ss
     | .no=>.no)
    |_,_,_,_,_=>.no)))
 |_=>.no
noncomputable def DP:Stmt->List Expr
 | .FunctionDef _ ⟨[],_,none,[],[],none,ds⟩ _ _ _ _ _ _ _ _=>ds
 |_=>[]
def kj(rc:f9)(st:Stmt)(os:List OV)(caps:List (Str×AV))(ss:Option (List AV)):C:=match DP st with
 |[]=>mc rc false st os caps ss
 |_=>.no
def qX(O:vX)(rc:f9):f9:=⟨W2 rc,W3 rc,bO rc,kj rc,λa st os ss=>match O a os ss with|some r=>r|none=>mc rc (eQ vV a) st os [] ss⟩
noncomputable def ev(O:vX):Nat->f9
 |0=>⟨λY Y Y=>.no,λY Y Y=>.no,λY Y Y=>.no,λY Y Y Y=>.no,λY Y Y Y=>.no⟩
 |n+1=>qX O (ev O n)
noncomputable def dH:vX:=λY Y Y=>none
def zx(rc:f9)(cells:List Int):C:=match cJ 160 with
 | .FunctionDef _ _ body _ _ _ sc _ _ _=>(match rc.x ⟨sc,none,none⟩ body ⟨[],[("script",.v (.lst (cells.map .int)))],none,some 0⟩with
  | .ok (.ret a) s=>(match s.dl with|some _=>.ok a (.v .none) s.ss|none=>.no)
  | .no=>.no
  |_=>.no)
 |_=>.no
def Xc(n:Nat)(cells:List Int):C:=zx (ev dH n) cells
section
variable{Z β:Type}{G:Prop}
theorem c8{x:Z}{P:Prop}(e:none=some x):P:=nomatch e
theorem zi{x:Z}{P:Prop}(e:some x=none):P:=nomatch e
theorem dT{P:Prop}(e:false=true):P:=nomatch e
theorem tZ{P:Prop}(e:true=false):P:=nomatch e
theorem oI{a b:Z}(e:some a=some b):a=b:=Option.some.inj e
theorem i7{P:Option Z->Prop}(x)(none:P none)(some:∀a,P (some a)):P x:=x.casesOn none some
theorem eZ{P:List Z->Prop}(x)(nil:P [])(cons:∀a l,P (a::l)):P x:=x.casesOn nil cons
theorem i8{P:Bool->Prop}(x)(false:P false)(true:P true):P x:=x.casesOn false true
theorem iw{P:R Z->Prop}(x)(ok:∀a s,P (.ok a s))(exc:∀m s,P (.exc m s))(no:P .no):P x:=x.casesOn ok exc no
theorem Rb{P:C->Prop}(x)(ok:∀v b s,P (.ok v b s))(exc:∀m s,P (.exc m s))(no:P .no):P x:=x.casesOn ok exc no
theorem rD{P:OV->Prop}(x)(v:∀a,P (.v a))(k:∀a,P (.k a))(ol:∀xs,P (.ol xs))(od:∀es,P (.od es))(oi:∀c fs,P (.oi c fs)):P x:=x.casesOn v k ol od oi
theorem Lc{P:Fl->Prop}(x)(next:P .next)(brk:P .brk)(ret:∀a,P (.ret a)):P x:=x.casesOn next brk ret
end
theorem rh{g:S->R Bool}:dU f t g (a::l) s=(match km t a s.cl with
  |none=>.no
  |some cl=>(g {s with cl:=cl}).bind λb s=>match b with
   |false=>dU f t g l s
   |true=>(f s).bind λxs s=>(dU f t g l s).bind λys s=>.ok (xs++ys) s):=rfl
theorem fM{e:Expr}:c9 (e::l)=(cG e&&c9 l):=rfl
theorem Hn{e:Expr}:oM rc cx (e::l) s=(match cG e with
  |false=>.no
  |true=>(vl (rc.e cx e s)).bind λa s=>(oM rc cx l s).bind λas s=>.ok (a::as) s):=rfl
theorem Ca{e:Expr}:bY rc cx bA (e::l) s=(match cG e with
  |false=>.no
  |true=>(An rc cx bA e s).bind λo s=>(bY rc cx bA l s).bind λos s=>.ok (o::os) s):=rfl
theorem qN:gD n (a::l)=(match i6 n a with
  |some x=>(match gD n l with|some r=>some (x::r)|none=>none)
  |none=>none):=rfl
theorem zU:i6 (n+1) (.lst xs)=(match gD n xs with|some l=>some (.list l)|none=>none):=rfl
@[elab_as_elim] theorem eE {Z:Type} {P:Option Z->Prop} (x:Option Z) (n:x=none->P none) (s:∀a,x=some a->P (some a)):P x:=x.casesOn (motive:=λy=>x=y->P y) n s rfl
@[elab_as_elim] theorem fS {P:Bool->Prop} (x:Bool) (f:x=false->P false) (t:x=true->P true):P x:=x.casesOn (motive:=λy=>x=y->P y) f t rfl
abbrev af:=@PySem.wpAny_bind
abbrev ah:=@List.length_map
abbrev aj:=@PySem.wpAny_pure
abbrev ak:=@PySem.wpAny_mono
abbrev aq:=@Nat.le_trans
abbrev au:=@if_neg
abbrev aw:=@List.length_append
abbrev ay:=@PySem.wpAny_standAt
abbrev az:=@List.getElem?_eq_getElem
abbrev aA:=@if_pos
abbrev aB:=@Nat.le_of_ble_eq_true
abbrev aC:=@Nat.le_refl
abbrev aD:=@PySem.wpAny_holding
abbrev aE:=@PySem.Heap.get?_push_size
abbrev aF:=@PySem.Heap.lt_size
abbrev aG:=@PySem.Heap.get?_push_of_some
abbrev aH:=@List.size_toArray
abbrev aI:=@PySem.Heap.SameBut.update
abbrev aJ:=@Option.some.inj
abbrev aK:=@Nat.lt_of_lt_of_le
abbrev aM:=@List.length_cons
abbrev aN:=@congrArg
abbrev aO:=@Bool.and_eq_true
abbrev aP:=@List.map_cons
abbrev aQ:=@Nat.ble_eq_true_of_le
abbrev aR:=@Nat.le_of_eq
abbrev aS:=@PySem.Heap.size_push
abbrev aT:=@List.length_singleton
abbrev aU:=@List.append_nil
abbrev aV:=@List.lookup_cons
abbrev aW:=@PySem.sizeLine_eq
abbrev aX:=@PySem.Heap.get?_update_self
abbrev aY:=@List.length_range
abbrev aZ:=@Bool.false_eq_true
abbrev bb:=@Nat.zero_le
abbrev bc:=@List.getElem?_map
abbrev bg:=@PySem.Sem.wp_bind'
abbrev bh:=@List.map_map
abbrev bj:=@List.append_assoc
abbrev bl:=@decide_eq_false
abbrev bo:=@Nat.eq_of_beq_eq_true
abbrev bp:=@Nat.lt_succ_self
abbrev bq:=@Option.bind_some
abbrev br:=@PySem.wpAny_execs_nil
abbrev bt:=@PySem.codeAny_mono
abbrev bw:=@PySem.wpAny_Name
abbrev bx:=@Nat.le_succ
abbrev bz:=@PySem.wpAny_call
section
variable{A B C D E F H I ab K:Type}{G:Prop}
theorem cH{P Q:Prop}(h:P/\Q)(k:P->Q->G):G:=k h.1 h.2
theorem fF{P Q R:Prop}(h:P/\Q/\R)(k:P->Q->R->G):G:=k h.1 h.2.1 h.2.2
theorem lg{P Q R S:Prop}(h:P/\Q/\R/\S)(k:P->Q->R->S->G):G:=k h.1 h.2.1 h.2.2.1 h.2.2.2
theorem i5{P Q R S T:Prop}(h:P/\Q/\R/\S/\T)(k:P->Q->R->S->T->G):G:=k h.1 h.2.1 h.2.2.1 h.2.2.2.1 h.2.2.2.2
theorem Nd{P Q R S T U:Prop}(h:P/\Q/\R/\S/\T/\U)(k:P->Q->R->S->T->U->G):G:=k h.1 h.2.1 h.2.2.1 h.2.2.2.1 h.2.2.2.2.1 h.2.2.2.2.2
theorem V7{P Q R S T U V:Prop}(h:P/\Q/\R/\S/\T/\U/\V)(k:P->Q->R->S->T->U->V->G):G:=k h.1 h.2.1 h.2.2.1 h.2.2.2.1 h.2.2.2.2.1 h.2.2.2.2.2.1 h.2.2.2.2.2.2
theorem cF{P:A->Prop}(h:∃a,P a)(k:∀a,P a->G):G:=h.elim λa r=>k a r
theorem bW{P Q:A->Prop}(h:∃a,P a/\Q a)(k:∀a,P a->Q a->G):G:=h.elim λa r=>k a r.1 r.2
theorem dI{P Q R:A->Prop}(h:∃a,P a/\Q a/\R a)(k:∀a,P a->Q a->R a->G):G:=h.elim λa r=>fF r (k a)
theorem nN{P Q R S:A->Prop}(h:∃a,P a/\Q a/\R a/\S a)(k:∀a,P a->Q a->R a->S a->G):G:=h.elim λa r=>lg r (k a)
theorem xM{P Q R S T U:A->Prop}(h:∃a,P a/\Q a/\R a/\S a/\T a/\U a)(k:∀a,P a->Q a->R a->S a->T a->U a->G):G:=h.elim λa r=>Nd r (k a)
theorem iA{P:A->B->Prop}(h:∃a b,P a b)(k:∀a b,P a b->G):G:=h.elim λa r=>cF r (k a)
theorem cC{P Q:A->B->Prop}(h:∃a b,P a b/\Q a b)(k:∀a b,P a b->Q a b->G):G:=h.elim λa r=>bW r (k a)
theorem dR{P Q R:A->B->Prop}(h:∃a b,P a b/\Q a b/\R a b)(k:∀a b,P a b->Q a b->R a b->G):G:=h.elim λa r=>dI r (k a)
theorem jN{P Q R S:A->B->Prop}(h:∃a b,P a b/\Q a b/\R a b/\S a b)(k:∀a b,P a b->Q a b->R a b->S a b->G):G:=h.elim λa r=>nN r (k a)
theorem mM{P Q R S T:A->B->Prop}(h:∃a b,P a b/\Q a b/\R a b/\S a b/\T a b)(k:∀a b,P a b->Q a b->R a b->S a b->T a b->G):G:=h.elim λa r=>r.elim λb r=>i5 r (k a b)
theorem iZ{P Q R S T U:A->B->Prop}(h:∃a b,P a b/\Q a b/\R a b/\S a b/\T a b/\U a b)(k:∀a b,P a b->Q a b->R a b->S a b->T a b->U a b->G):G:=h.elim λa r=>xM r (k a)
theorem pd{P Q R S T U V W:A->B->Prop}(h:∃a b,P a b/\Q a b/\R a b/\S a b/\T a b/\U a b/\V a b/\W a b)(k:∀a b,P a b->Q a b->R a b->S a b->T a b->U a b->V a b->W a b->G):G:=h.elim λa r=>r.elim λb r=>k a b r.1 r.2.1 r.2.2.1 r.2.2.2.1 r.2.2.2.2.1 r.2.2.2.2.2.1 r.2.2.2.2.2.2.1 r.2.2.2.2.2.2.2
theorem Nc{P Q R S T U V W X:A->B->Prop}(h:∃a b,P a b/\Q a b/\R a b/\S a b/\T a b/\U a b/\V a b/\W a b/\X a b)(k:∀a b,P a b->Q a b->R a b->S a b->T a b->U a b->V a b->W a b->X a b->G):G:=h.elim λa r=>r.elim λb r=>k a b r.1 r.2.1 r.2.2.1 r.2.2.2.1 r.2.2.2.2.1 r.2.2.2.2.2.1 r.2.2.2.2.2.2.1 r.2.2.2.2.2.2.2.1 r.2.2.2.2.2.2.2.2
theorem D5{P:A->B->C->Prop}(h:∃a b c,P a b c)(k:∀a b c,P a b c->G):G:=h.elim λa r=>iA r (k a)
theorem D4{P Q:A->B->C->Prop}(h:∃a b c,P a b c/\Q a b c)(k:∀a b c,P a b c->Q a b c->G):G:=h.elim λa r=>cC r (k a)
theorem jM{P Q R:A->B->C->Prop}(h:∃a b c,P a b c/\Q a b c/\R a b c)(k:∀a b c,P a b c->Q a b c->R a b c->G):G:=h.elim λa r=>dR r (k a)
theorem uH{P Q R S:A->B->C->Prop}(h:∃a b c,P a b c/\Q a b c/\R a b c/\S a b c)(k:∀a b c,P a b c->Q a b c->R a b c->S a b c->G):G:=h.elim λa r=>jN r (k a)
theorem rY{P Q R S T:A->B->C->Prop}(h:∃a b c,P a b c/\Q a b c/\R a b c/\S a b c/\T a b c)(k:∀a b c,P a b c->Q a b c->R a b c->S a b c->T a b c->G):G:=h.elim λa r=>mM r (k a)
theorem nM{P Q R S T U:A->B->C->Prop}(h:∃a b c,P a b c/\Q a b c/\R a b c/\S a b c/\T a b c/\U a b c)(k:∀a b c,P a b c->Q a b c->R a b c->S a b c->T a b c->U a b c->G):G:=h.elim λa r=>iZ r (k a)
theorem zS{P:A->B->C->D->Prop}(h:∃a b c d,P a b c d)(k:∀a b c d,P a b c d->G):G:=h.elim λa r=>D5 r (k a)
theorem Nb{P Q R:A->B->C->D->Prop}(h:∃a b c d,P a b c d/\Q a b c d/\R a b c d)(k:∀a b c d,P a b c d->Q a b c d->R a b c d->G):G:=h.elim λa r=>jM r (k a)
theorem Na{P Q R S:A->B->C->D->Prop}(h:∃a b c d,P a b c d/\Q a b c d/\R a b c d/\S a b c d)(k:∀a b c d,P a b c d->Q a b c d->R a b c d->S a b c d->G):G:=h.elim λa r=>uH r (k a)
theorem IX{P Q R S T:A->B->C->D->Prop}(h:∃a b c d,P a b c d/\Q a b c d/\R a b c d/\S a b c d/\T a b c d)(k:∀a b c d,P a b c d->Q a b c d->R a b c d->S a b c d->T a b c d->G):G:=h.elim λa r=>rY r (k a)
theorem V6{P Q R S T U V W X:A->B->C->D->Prop}(h:∃a b c d,P a b c d/\Q a b c d/\R a b c d/\S a b c d/\T a b c d/\U a b c d/\V a b c d/\W a b c d/\X a b c d)(k:∀a b c d,P a b c d->Q a b c d->R a b c d->S a b c d->T a b c d->U a b c d->V a b c d->W a b c d->X a b c d->G):G:=h.elim λa r=>r.elim λb r=>Nc r (k a b)
theorem Aw{P Q R S T U V W X Y ae:A->B->C->D->Prop}(h:∃a b c d,P a b c d/\Q a b c d/\R a b c d/\S a b c d/\T a b c d/\U a b c d/\V a b c d/\W a b c d/\X a b c d/\Y a b c d/\ae a b c d)(k:∀a b c d,P a b c d->Q a b c d->R a b c d->S a b c d->T a b c d->U a b c d->V a b c d->W a b c d->X a b c d->Y a b c d->ae a b c d->G):G:=h.elim λa r=>r.elim λb r=>r.elim λc r=>r.elim λd r=>k a b c d r.1 r.2.1 r.2.2.1 r.2.2.2.1 r.2.2.2.2.1 r.2.2.2.2.2.1 r.2.2.2.2.2.2.1 r.2.2.2.2.2.2.2.1 r.2.2.2.2.2.2.2.2.1 r.2.2.2.2.2.2.2.2.2.1 r.2.2.2.2.2.2.2.2.2.2
theorem M9{P:A->B->C->D->E->Prop}(h:∃a b c d e,P a b c d e)(k:∀a b c d e,P a b c d e->G):G:=h.elim λa r=>zS r (k a)
theorem M8{P Q R:A->B->C->D->E->Prop}(h:∃a b c d e,P a b c d e/\Q a b c d e/\R a b c d e)(k:∀a b c d e,P a b c d e->Q a b c d e->R a b c d e->G):G:=h.elim λa r=>Nb r (k a)
theorem IW{P Q R S T:A->B->C->D->E->Prop}(h:∃a b c d e,P a b c d e/\Q a b c d e/\R a b c d e/\S a b c d e/\T a b c d e)(k:∀a b c d e,P a b c d e->Q a b c d e->R a b c d e->S a b c d e->T a b c d e->G):G:=h.elim λa r=>IX r (k a)
theorem IV{P Q R:A->B->C->D->E->F->Prop}(h:∃a b c d e f,P a b c d e f/\Q a b c d e f/\R a b c d e f)(k:∀a b c d e f,P a b c d e f->Q a b c d e f->R a b c d e f->G):G:=h.elim λa r=>M8 r (k a)
theorem M7{P Q R S T:A->B->C->D->E->F->Prop}(h:∃a b c d e f,P a b c d e f/\Q a b c d e f/\R a b c d e f/\S a b c d e f/\T a b c d e f)(k:∀a b c d e f,P a b c d e f->Q a b c d e f->R a b c d e f->S a b c d e f->T a b c d e f->G):G:=h.elim λa r=>IW r (k a)
theorem Qj{P Q R S T U V W X Y ae M N:A->B->C->D->E->F->Prop}(h:∃a b c d e f,P a b c d e f/\Q a b c d e f/\R a b c d e f/\S a b c d e f/\T a b c d e f/\U a b c d e f/\V a b c d e f/\W a b c d e f/\X a b c d e f/\Y a b c d e f/\ae a b c d e f/\M a b c d e f/\N a b c d e f)(k:∀a b c d e f,P a b c d e f->Q a b c d e f->R a b c d e f->S a b c d e f->T a b c d e f->U a b c d e f->V a b c d e f->W a b c d e f->X a b c d e f->Y a b c d e f->ae a b c d e f->M a b c d e f->N a b c d e f->G):G:=h.elim λa r=>r.elim λb r=>r.elim λc r=>r.elim λd r=>r.elim λe r=>r.elim λf r=>k a b c d e f r.1 r.2.1 r.2.2.1 r.2.2.2.1 r.2.2.2.2.1 r.2.2.2.2.2.1 r.2.2.2.2.2.2.1 r.2.2.2.2.2.2.2.1 r.2.2.2.2.2.2.2.2.1 r.2.2.2.2.2.2.2.2.2.1 r.2.2.2.2.2.2.2.2.2.2.1 r.2.2.2.2.2.2.2.2.2.2.2.1 r.2.2.2.2.2.2.2.2.2.2.2.2
theorem V5{P Q R S T:A->B->C->D->E->F->H->I->ab->Prop}(h:∃a b c d e f g i j,P a b c d e f g i j/\Q a b c d e f g i j/\R a b c d e f g i j/\S a b c d e f g i j/\T a b c d e f g i j)(k:∀a b c d e f g i j,P a b c d e f g i j->Q a b c d e f g i j->R a b c d e f g i j->S a b c d e f g i j->T a b c d e f g i j->G):G:=h.elim λa r=>r.elim λb r=>r.elim λc r=>M7 r (k a b c)
theorem M6{P Q R S T U V W:A->B->C->D->E->F->H->I->ab->Prop}(h:∃a b c d e f g i j,P a b c d e f g i j/\Q a b c d e f g i j/\R a b c d e f g i j/\S a b c d e f g i j/\T a b c d e f g i j/\U a b c d e f g i j/\V a b c d e f g i j/\W a b c d e f g i j)(k:∀a b c d e f g i j,P a b c d e f g i j->Q a b c d e f g i j->R a b c d e f g i j->S a b c d e f g i j->T a b c d e f g i j->U a b c d e f g i j->V a b c d e f g i j->W a b c d e f g i j->G):G:=h.elim λa r=>r.elim λb r=>r.elim λc r=>r.elim λd r=>r.elim λe r=>r.elim λf r=>r.elim λg r=>r.elim λi r=>r.elim λj r=>k a b c d e f g i j r.1 r.2.1 r.2.2.1 r.2.2.2.1 r.2.2.2.2.1 r.2.2.2.2.2.1 r.2.2.2.2.2.2.1 r.2.2.2.2.2.2.2
theorem Bc{P Q R S T U V W X Y ae:A->B->C->D->E->F->H->I->ab->K->Prop}(h:∃a b c d e f g i j l,P a b c d e f g i j l/\Q a b c d e f g i j l/\R a b c d e f g i j l/\S a b c d e f g i j l/\T a b c d e f g i j l/\U a b c d e f g i j l/\V a b c d e f g i j l/\W a b c d e f g i j l/\X a b c d e f g i j l/\Y a b c d e f g i j l/\ae a b c d e f g i j l)(k:∀a b c d e f g i j l,P a b c d e f g i j l->Q a b c d e f g i j l->R a b c d e f g i j l->S a b c d e f g i j l->T a b c d e f g i j l->U a b c d e f g i j l->V a b c d e f g i j l->W a b c d e f g i j l->X a b c d e f g i j l->Y a b c d e f g i j l->ae a b c d e f g i j l->G):G:=h.elim λa r=>r.elim λb r=>r.elim λc r=>r.elim λd r=>r.elim λe r=>r.elim λf r=>r.elim λg r=>r.elim λi r=>r.elim λj r=>r.elim λl r=>k a b c d e f g i j l r.1 r.2.1 r.2.2.1 r.2.2.2.1 r.2.2.2.2.1 r.2.2.2.2.2.1 r.2.2.2.2.2.2.1 r.2.2.2.2.2.2.2.1 r.2.2.2.2.2.2.2.2.1 r.2.2.2.2.2.2.2.2.2.1 r.2.2.2.2.2.2.2.2.2.2
end
section
variable{A B C D E F H I ab K:Type}{G:Prop}
theorem cf{P Q:A->Prop}(a:A)(p:P a)(q:Q a):∃a,P a/\Q a:=⟨a,p,q⟩
theorem ej{P Q R:A->Prop}(a:A)(p:P a)(q:Q a)(s:R a):∃a,P a/\Q a/\R a:=⟨a,p,q,s⟩
theorem IS{P Q R S:A->B->C->D->Prop}(a:A)(b:B)(c:C)(d:D)(p:P a b c d)(q:Q a b c d)(s:R a b c d)(t:S a b c d):∃a b c d,P a b c d/\Q a b c d/\R a b c d/\S a b c d:=⟨a,b,c,d,p,q,s,t⟩
theorem D0{P Q:A->B->C->Prop}(a:A)(b:B)(c:C)(p:P a b c)(q:Q a b c):∃a b c,P a b c/\Q a b c:=⟨a,b,c,p,q⟩
theorem MX{P Q R S T U:A->B->C->Prop}(a:A)(b:B)(c:C)(p:P a b c)(q:Q a b c)(s:R a b c)(t:S a b c)(u:T a b c)(v:U a b c):∃a b c,P a b c/\Q a b c/\R a b c/\S a b c/\T a b c/\U a b c:=⟨a,b,c,p,q,s,t,u,v⟩
theorem mK{P Q R:A->B->C->Prop}(a:A)(b:B)(c:C)(p:P a b c)(q:Q a b c)(s:R a b c):∃a b c,P a b c/\Q a b c/\R a b c:=⟨a,b,c,p,q,s⟩
theorem eF{P Q R:A->B->Prop}(a:A)(b:B)(p:P a b)(q:Q a b)(s:R a b):∃a b,P a b/\Q a b/\R a b:=⟨a,b,p,q,s⟩
theorem Bb{P Q R S T U V W X Y ae:A->B->C->D->E->F->H->I->ab->K->Prop}(a:A)(b:B)(c:C)(d:D)(e:E)(f:F)(g:H)(i:I)(j:ab)(l:K)(p:P a b c d e f g i j l)(q:Q a b c d e f g i j l)(s:R a b c d e f g i j l)(t:S a b c d e f g i j l)(u:T a b c d e f g i j l)(v:U a b c d e f g i j l)(w:V a b c d e f g i j l)(x:W a b c d e f g i j l)(y:X a b c d e f g i j l)(z:Y a b c d e f g i j l)(m:ae a b c d e f g i j l):∃a b c d e f g i j l,P a b c d e f g i j l/\Q a b c d e f g i j l/\R a b c d e f g i j l/\S a b c d e f g i j l/\T a b c d e f g i j l/\U a b c d e f g i j l/\V a b c d e f g i j l/\W a b c d e f g i j l/\X a b c d e f g i j l/\Y a b c d e f g i j l/\ae a b c d e f g i j l:=⟨a,b,c,d,e,f,g,i,j,l,p,q,s,t,u,v,w,x,y,z,m⟩
theorem cz{P Q:A->B->Prop}(a:A)(b:B)(p:P a b)(q:Q a b):∃a b,P a b/\Q a b:=⟨a,b,p,q⟩
theorem kf{P Q R S:A->B->Prop}(a:A)(b:B)(p:P a b)(q:Q a b)(s:R a b)(t:S a b):∃a b,P a b/\Q a b/\R a b/\S a b:=⟨a,b,p,q,s,t⟩
theorem IT{P Q R S T U:A->Prop}(a:A)(p:P a)(q:Q a)(s:R a)(t:S a)(u:T a)(v:U a):∃a,P a/\Q a/\R a/\S a/\T a/\U a:=⟨a,p,q,s,t,u,v⟩
theorem mL{P Q R S T:Prop}(p:P)(q:Q)(s:R)(t:S)(u:T):P/\Q/\R/\S/\T:=⟨p,q,s,t,u⟩
theorem xI{P Q R S T U:A->B->Prop}(a:A)(b:B)(p:P a b)(q:Q a b)(s:R a b)(t:S a b)(u:T a b)(v:U a b):∃a b,P a b/\Q a b/\R a b/\S a b/\T a b/\U a b:=⟨a,b,p,q,s,t,u,v⟩
theorem xG{P Q R S T:A->B->C->Prop}(a:A)(b:B)(c:C)(p:P a b c)(q:Q a b c)(s:R a b c)(t:S a b c)(u:T a b c):∃a b c,P a b c/\Q a b c/\R a b c/\S a b c/\T a b c:=⟨a,b,c,p,q,s,t,u⟩
theorem iY{P:A->B->Prop}(a:A)(b:B)(p:P a b):∃a b,P a b:=⟨a,b,p⟩
theorem M1{P Q R S T:A->B->Prop}(a:A)(b:B)(p:P a b)(q:Q a b)(s:R a b)(t:S a b)(u:T a b):∃a b,P a b/\Q a b/\R a b/\S a b/\T a b:=⟨a,b,p,q,s,t,u⟩
theorem uG{P Q R S:A->Prop}(a:A)(p:P a)(q:Q a)(s:R a)(t:S a):∃a,P a/\Q a/\R a/\S a:=⟨a,p,q,s,t⟩
theorem MZ{P Q R S T U V W:A->B->Prop}(a:A)(b:B)(p:P a b)(q:Q a b)(s:R a b)(t:S a b)(u:T a b)(v:U a b)(w:V a b)(x:W a b):∃a b,P a b/\Q a b/\R a b/\S a b/\T a b/\U a b/\V a b/\W a b:=⟨a,b,p,q,s,t,u,v,w,x⟩
theorem VX{P Q R S T:A->B->C->D->E->Prop}(a:A)(b:B)(c:C)(d:D)(e:E)(p:P a b c d e)(q:Q a b c d e)(s:R a b c d e)(t:S a b c d e)(u:T a b c d e):∃a b c d e,P a b c d e/\Q a b c d e/\R a b c d e/\S a b c d e/\T a b c d e:=⟨a,b,c,d,e,p,q,s,t,u⟩
theorem VZ{P Q R S T U V:A->B->C->Prop}(a:A)(b:B)(c:C)(p:P a b c)(q:Q a b c)(s:R a b c)(t:S a b c)(u:T a b c)(v:U a b c)(w:V a b c):∃a b c,P a b c/\Q a b c/\R a b c/\S a b c/\T a b c/\U a b c/\V a b c:=⟨a,b,c,p,q,s,t,u,v,w⟩
theorem xH{P Q R S:A->B->C->Prop}(a:A)(b:B)(c:C)(p:P a b c)(q:Q a b c)(s:R a b c)(t:S a b c):∃a b c,P a b c/\Q a b c/\R a b c/\S a b c:=⟨a,b,c,p,q,s,t⟩
theorem VY{P Q R S T U V W X:A->B->C->D->Prop}(a:A)(b:B)(c:C)(d:D)(p:P a b c d)(q:Q a b c d)(s:R a b c d)(t:S a b c d)(u:T a b c d)(v:U a b c d)(w:V a b c d)(x:W a b c d)(y:X a b c d):∃a b c d,P a b c d/\Q a b c d/\R a b c d/\S a b c d/\T a b c d/\U a b c d/\V a b c d/\W a b c d/\X a b c d:=⟨a,b,c,d,p,q,s,t,u,v,w,x,y⟩
theorem HN{P Q R S T U V W X Y ae M N:A->B->C->D->E->F->Prop}(a:A)(b:B)(c:C)(d:D)(e:E)(f:F)(p:P a b c d e f)(q:Q a b c d e f)(s:R a b c d e f)(t:S a b c d e f)(u:T a b c d e f)(v:U a b c d e f)(w:V a b c d e f)(x:W a b c d e f)(y:X a b c d e f)(z:Y a b c d e f)(m:ae a b c d e f)(n:M a b c d e f)(o:N a b c d e f):∃a b c d e f,P a b c d e f/\Q a b c d e f/\R a b c d e f/\S a b c d e f/\T a b c d e f/\U a b c d e f/\V a b c d e f/\W a b c d e f/\X a b c d e f/\Y a b c d e f/\ae a b c d e f/\M a b c d e f/\N a b c d e f:=⟨a,b,c,d,e,f,p,q,s,t,u,v,w,x,y,z,m,n,o⟩
theorem qL{P Q R S:Prop}(p:P)(q:Q)(s:R)(t:S):P/\Q/\R/\S:=⟨p,q,s,t⟩
theorem D1{P Q R S T U:Prop}(p:P)(q:Q)(s:R)(t:S)(u:T)(v:U):P/\Q/\R/\S/\T/\U:=⟨p,q,s,t,u,v⟩
theorem IQ{P Q R S T U V W:A->B->C->D->E->F->H->I->ab->Prop}(a:A)(b:B)(c:C)(d:D)(e:E)(f:F)(g:H)(i:I)(j:ab)(p:P a b c d e f g i j)(q:Q a b c d e f g i j)(s:R a b c d e f g i j)(t:S a b c d e f g i j)(u:T a b c d e f g i j)(v:U a b c d e f g i j)(w:V a b c d e f g i j)(x:W a b c d e f g i j):∃a b c d e f g i j,P a b c d e f g i j/\Q a b c d e f g i j/\R a b c d e f g i j/\S a b c d e f g i j/\T a b c d e f g i j/\U a b c d e f g i j/\V a b c d e f g i j/\W a b c d e f g i j:=⟨a,b,c,d,e,f,g,i,j,p,q,s,t,u,v,w,x⟩
theorem MY{P Q R S T U V W X:A->B->Prop}(a:A)(b:B)(p:P a b)(q:Q a b)(s:R a b)(t:S a b)(u:T a b)(v:U a b)(w:V a b)(x:W a b)(y:X a b):∃a b,P a b/\Q a b/\R a b/\S a b/\T a b/\U a b/\V a b/\W a b/\X a b:=⟨a,b,p,q,s,t,u,v,w,x,y⟩
theorem V0{P Q R S T U V W:Prop}(p:P)(q:Q)(s:R)(t:S)(u:T)(v:U)(w:V)(x:W):P/\Q/\R/\S/\T/\U/\V/\W:=⟨p,q,s,t,u,v,w,x⟩
theorem VV{P Q R:A->B->C->D->E->F->H->I->Prop}(a:A)(b:B)(c:C)(d:D)(e:E)(f:F)(g:H)(i:I)(p:P a b c d e f g i)(q:Q a b c d e f g i)(s:R a b c d e f g i):∃a b c d e f g i,P a b c d e f g i/\Q a b c d e f g i/\R a b c d e f g i:=⟨a,b,c,d,e,f,g,i,p,q,s⟩
theorem V1{P Q R S T U V:Prop}(p:P)(q:Q)(s:R)(t:S)(u:T)(v:U)(w:V):P/\Q/\R/\S/\T/\U/\V:=⟨p,q,s,t,u,v,w⟩
theorem DZ{P Q R S T:A->B->C->D->Prop}(a:A)(b:B)(c:C)(d:D)(p:P a b c d)(q:Q a b c d)(s:R a b c d)(t:S a b c d)(u:T a b c d):∃a b c d,P a b c d/\Q a b c d/\R a b c d/\S a b c d/\T a b c d:=⟨a,b,c,d,p,q,s,t,u⟩
theorem VW{P Q R S T:A->B->C->D->E->F->Prop}(a:A)(b:B)(c:C)(d:D)(e:E)(f:F)(p:P a b c d e f)(q:Q a b c d e f)(s:R a b c d e f)(t:S a b c d e f)(u:T a b c d e f):∃a b c d e f,P a b c d e f/\Q a b c d e f/\R a b c d e f/\S a b c d e f/\T a b c d e f:=⟨a,b,c,d,e,f,p,q,s,t,u⟩
theorem rX{P:A->B->C->Prop}(a:A)(b:B)(c:C)(p:P a b c):∃a b c,P a b c:=⟨a,b,c,p⟩
theorem xF{P:A->B->C->D->Prop}(a:A)(b:B)(c:C)(d:D)(p:P a b c d):∃a b c d,P a b c d:=⟨a,b,c,d,p⟩
theorem xK{P Q R S T U V W X:A->B->C->D->E->Prop}(h:∃a b c d e,P a b c d e/\Q a b c d e/\R a b c d e/\S a b c d e/\T a b c d e/\U a b c d e/\V a b c d e/\W a b c d e/\X a b c d e)(k:∀a b c d e,P a b c d e->Q a b c d e->R a b c d e->S a b c d e->T a b c d e->U a b c d e->V a b c d e->W a b c d e->X a b c d e->G):G:=h.elim λa r=>r.elim λb r=>r.elim λc r=>r.elim λd r=>r.elim λe r=>k a b c d e r.1 r.2.1 r.2.2.1 r.2.2.2.1 r.2.2.2.2.1 r.2.2.2.2.2.1 r.2.2.2.2.2.2.1 r.2.2.2.2.2.2.2.1 r.2.2.2.2.2.2.2.2
end
section
theorem EL:∀a b,xA a b=true->a=b:=by
 intro a;induction a with
 |nil=>intro b h;obtain _|_:=b;rfl;exact dT h
 |cons x a ih=>
  intro b h;obtain _|⟨y,b⟩:=b
  ·exact dT h
  have h:(match Nat.beq x y with|true=>xA a b|false=>false)=true:=h
  rcases e:Nat.beq x y with _|_<;>rw[e]at h
  ·exact dT h
  ·rw[bo e,ih b h]
theorem yf:∀a,xA a a=true:=by
 intro a;induction a with
 |nil=>rfl
 |cons x a ih=>
  show(match Nat.beq x x with|true=>xA a a|false=>false)=true
  rw[Nat.beq_refl];exact ih
theorem cR{a b:Str}:dM a b=true↔a=b:=by
 refine⟨λh=>?_,λh=>h▸yf _⟩
 obtain⟨⟨a⟩⟩:=a;obtain⟨⟨b⟩⟩:=b;exact aN (λl=>Str.mk ⟨l⟩) (EL _ _ h)
theorem iC{a b:Str}:dM a b=false↔a≠b:=by
 rw[<-Bool.not_eq_true,cR]
theorem Qm(a):dM a a=true:=cR.mpr rfl
theorem cO{Z:Type}{x n:Str}{a:Z}{l:List (Str×Z)}:bD ((x,a)::l) n=if x=n then some a else bD l n:=by
 show(match dM x n with|true=>some a|false=>bD l n)=_
 rcases e:dM x n with _|_
 ·exact(au (iC.mp e)).symm
 ·exact(aA (cR.mp e)).symm
theorem gc{Z:Type}{l:List (Str×Z)}{x:Str}{v:Z}(h:bD l x=some v):(x,v)∈l:=by
 induction l with
 |nil=>exact c8 h
 |cons p l ih=>
  obtain⟨y,u⟩:=p;rw[cO]at h;by_cases e:y=x
  ·rw[aA e]at h;rw[e,oI h];exact .head _
  ·rw[au e]at h;exact .tail _ (ih h)
theorem yh{Z:Type}(x)(v:Z)(y)(l):bD (dy l x v) y=if x=y then some v else bD l y:=by
 induction l with
 |nil=>exact cO
 |cons p l ih=>
  obtain⟨z,u⟩:=p;show bD (match dM z x with|true=>(z,v)::l|false=>(z,u)::dy l x v) y=_
  rcases e:dM z x with _|_
  ·have ne:=iC.mp e
   rw[cO,cO,ih];by_cases q:z=y
   ·subst q;rw[aA rfl,aA rfl,au λq=>ne q.symm]
   ·rw[au q,au q]
  ·obtain rfl:=cR.mp e
   rw[cO,cO];by_cases q:z=y
   ·rw[aA q,aA q]
   ·rw[au q,au q,au q]
structure Fz where
 z:Addr->Prop
 y:Addr->Prop
 sn:Addr->Prop
abbrev QT(Z β:Type):=Z->β->Heap->Fz->AP->Prop
structure Fz.Le(f g:Fz):Prop where
 z:∀a,f.z a->g.z a
 y:∀a,f.y a->g.y a
 sn:∀a,f.sn a->g.sn a
structure Fz.Ok(f:Fz):Prop where
 zy:∀a,f.z a->¬f.y a
 zs:∀a,f.z a->¬f.sn a
 ys:∀a,f.y a->¬f.sn a
theorem Fz.Le.refl(f:Fz):f.Le f:=⟨λY x=>x,λY x=>x,λY x=>x⟩
theorem Fz.Le.trans{f g k:Fz}(x:f.Le g)(y:g.Le k):f.Le k:=⟨λa q=>y.z a (x.z a q),λa q=>y.y a (x.y a q),λa q=>y.sn a (x.sn a q)⟩
def ed(h h':Heap)(a:Addr):Prop:=∀o,h.get? a=some o->h'.get? a=some o\/(o.cls=.type "frame"/\∃sl,h'.get? a=some {o with slots:=sl})
def jx(h h':Heap)(a:Addr):Prop:=∀m,h.Ns1 a m->∃m',h'.Ns1 a m'/\(∀n,ef n=false->m' n=m n)/\(∀n v,m n=some v->PySem.W.handedIn v=true->∃v',m' n=some v'/\PySem.W.handedIn v'=true)
def Kp(f:Fz)(h h':Heap)(a:Addr):Prop:=(f.y a->jx h h' a)/\(¬f.y a->¬f.sn a->ed h h' a)
theorem ed.refl(h)(a):ed h h a:=λY e=>.inl e
theorem ed.trans{h h' qu:Heap}{a:Addr}(x:ed h h' a)(y:ed h' qu a):ed h qu a:=λo e=>by
 obtain e1|⟨c,sl,e1⟩:=x o e
 ·exact y o e1
 ·obtain e2|⟨_,Xw,e2⟩:=y _ e1
  ·exact .inr ⟨c,sl,e2⟩
  ·exact .inr ⟨c,Xw,e2⟩
theorem ed.exact{h h':Heap}{a:Addr}{o:Obj}(x:ed h h' a)(e:h.get? a=some o)(c:o.cls≠.type "frame"):h'.get? a=some o:=by
 obtain e1|⟨q,_⟩:=x o e
 ·exact e1
 ·exact absurd q c
theorem jx.trans{h h' qu:Heap}{a:Addr}(x:jx h h' a)(y:jx h' qu a):jx h qu a:=λm e=>by
 refine dI (x m e) λm' e1 k1 s1=>dI (y m' e1) λYl e2 k2 s2=>⟨Yl,e2,λn q=>(k2 n q).trans (k1 n q),λn v q r=>let⟨v',q',r'⟩:=s1 n v q r;s2 n v' q' r'⟩
theorem jx.of_keep{h h':Heap}{a:Addr}(k:∀o,h.get? a=some o->h'.get? a=some o):jx h h' a:=λm e=>(ej m (e.at k) (λY Y=>rfl) (λY v q r=>(cf v q r)))
theorem Kp.of_keep{f:Fz}{h h':Heap}{a:Addr}(k:∀o,h.get? a=some o->h'.get? a=some o):Kp f h h' a:=⟨λY=>.of_keep k,λY Y o e=>.inl (k o e)⟩
def xJ(st:Stmt)(fd:FuncData):Prop:=match st with
 | .FunctionDef _ as b _ _ _ sc _ _ _=>fd.params=as/\fd.body=.stmts b/\fd.scope=sc/\fd.globals=mainNs/\fd.defaults=.none/\fd.kwdefaults=.none/\fd.builtins=builtinsNs
 |_=>False
def fG(h:Heap)(a:Addr)(vs:List Value):Prop:=∃n,h.get? a=some {cls:=.type "list",dict:=none,data:=.seq vs.toArray n,slots:= #[]}
def qJ(h:Heap)(a:Addr)(vs:List Value):Prop:=∃n,h.get? a=some {cls:=.type "tuple",dict:=none,data:=.seq vs.toArray n,slots:= #[]}
theorem fG.list{h:Heap}{a:Addr}{vs:List Value}(x:fG h a vs):h.IsList a vs.toArray:=let⟨n,e⟩:=x;⟨_,e,rfl,n,rfl⟩
theorem qJ.tup{h:Heap}{a:Addr}{vs:List Value}(x:qJ h a vs):PyProof.Rows.IsTup h a vs.toArray:=let⟨n,e⟩:=x;⟨_,e,rfl,n,rfl⟩
theorem fG.hard{h h':Heap}{a:Addr}{vs:List Value}(k:ed h h' a)(x:fG h a vs):fG h' a vs:=let⟨n,e⟩:=x;⟨n,k.exact e (show Value.type "list"≠.type "frame" by decide)⟩
theorem qJ.hard{h h':Heap}{a:Addr}{vs:List Value}(k:ed h h' a)(x:qJ h a vs):qJ h' a vs:=let⟨n,e⟩:=x;⟨n,k.exact e (show Value.type "tuple"≠.type "frame" by decide)⟩
section
variable(w:World)(h:Heap)(f:Fz)
mutual
inductive VR:AV->Value->Prop
 |none:VR .none .none
 |bool (b:Bool):VR (.bool b) (.bool b)
 |int (i:Int) (t:Tok):VR (.int i) (.int i t)
 |str (s:Str) (t:Tok):s.cps.size<=100000->PyData.strOk s=true->VR (.str s) (.str s t)
 |ty (n:String):VR (.ty n) (.type n)
 |bi (n:String):PySem.W.handedIn (.builtin n)=true->VR (.bi n) (.builtin n)
 |ad (a:Addr):VR (.ad a) (.ref a)
 |any (v:Value):PySem.W.handedIn v=true->VR .any v
 |seen {a:Addr}:f.sn a->VR .seen (.ref a)
 |rng {n:Int} {a:Addr} {t u v:Tok}:f.z a->IsRange h a 0 n 1 t u v->et n=true->VR (.rng n) (.ref a)
 |clo {st:Stmt} {caps:List (Str×AV)} {a:Addr} {o:Obj} {fd:FuncData}:f.z a->h.get? a=some o->o.cls=.type "function"->o.data=.func fd->xJ st fd->h.CodeRec fd.code fd.qualname->(∀c o,fd.code=.ref c->h.get? c=some o->f.z c/\o.cls≠.type "frame")->(∀x c,fd.closure.lookup x=some c->f.z c)->ue caps fd.closure->VR (.clo st caps) (.ref a)
 |lst {xs:List AV} {a:Addr} {vs:List Value}:f.z a->fG h a vs->dw xs vs->xs.length<=4000->VR (.lst xs) (.ref a)
 |tup {xs:List AV} {a:Addr} {vs:List Value}:f.z a->qJ h a vs->dw xs vs->xs.length<=4000->VR (.tup xs) (.ref a)
 |dct {es:List (Str×AV)} {a:Addr} {m:Str->Option Value}:f.z a->a≠sysModules->h.MapOf (strKind pw w) a m->ix false es m->(∀k,bD es k=none->m k=none)->VR (.dct es) (.ref a)
 |ins {c:Addr} {fs:List (Str×AV)} {x d:Addr} {m:Str->Option Value} {ox:Obj}:f.z x->f.y d->h.get? x=some ox->ox.cls=.ref c->ox.dict=some d->PySem.W.notCls ox=true->h.Ns1 d m->(c=dD->∃v,m ("current":Str)=some v/\PySem.W.handedIn v=true)->ix true fs m->(∀k,ef k=false->bD fs k=none->m k=none)->VR (.ins c fs) (.ref x)
inductive dw:List AV->List Value->Prop
 |nil:dw [] []
 |cons {a:AV} {v:Value} {xs:List AV} {vs:List Value}:VR a v->dw xs vs->dw (a::xs) (v::vs)
inductive ix:Bool->List (Str×AV)->(Str->Option Value)->Prop
 |nil {b:Bool} {m:Str->Option Value}:ix b [] m
 |cons {b:Bool} {n:Str} {a:AV} {v:Value} {l:List (Str×AV)} {m:Str->Option Value}:(b=true->ef n=false)->m n=some v->VR a v->ix b l m->ix b ((n,a)::l) m
inductive ue:List (Str×AV)->List (Str×Addr)->Prop
 |nil {l:List (Str×Addr)}:ue [] l
 |cons {x:Str} {a:AV} {v:Value} {e:Addr} {l:List (Str×AV)} {cl:List (Str×Addr)} {o:Obj}:cl.lookup x=some e->f.z e->h.get? e=some o->o.cls=.type "cell"->o.data=.cell (some v)->VR a v->ue l cl->ue ((x,a)::l) cl
end
end
theorem wN{l:List Str}{x:Str}(h:Lq l x=true):x∈l:=by
 induction l with
 |nil=>exact dT h
 |cons y l ih=>
  have h:(match dM y x with|true=>true|false=>Lq l x)=true:=h
  rcases e:dM y x with _|_<;>rw[e]at h
  ·exact .tail _ (ih h)
  ·rw[cR.mp e];exact .head _
theorem fY{Z:Type}{l:List (Addr×Z)}{x:Addr}{v:Z}(h:dc l x=some v):(x,v)∈l:=by
 induction l with
 |nil=>exact c8 h
 |cons p l ih=>
  obtain⟨y,u⟩:=p;have h:(match Nat.beq y x with|true=>some u|false=>dc l x)=some v:=h
  rcases e:Nat.beq y x with _|_<;>rw[e]at h
  ·exact .tail _ (ih h)
  ·rw[bo e,oI h];exact .head _
section
variable{w:World}{h h':Heap}{f f':Fz}
theorem ed.code{fd:FuncData}(hk:∀a,f.z a->ed h h' a)(cr:h.CodeRec fd.code fd.qualname)(zc:∀c o,fd.code=.ref c->h.get? c=some o->f.z c/\o.cls≠.type "frame"):
  h'.CodeRec fd.code fd.qualname/\∀c o,fd.code=.ref c->h'.get? c=some o->f.z c/\o.cls≠.type "frame":=by
 refine Na cr λq o' vs t e1 e2 e3 e4=>cH (zc q o' e1 e2) λz1 z2=>?_
 have W6:=(hk q z1).exact e2 z2
 refine⟨(IS q o' vs t e1 W6 e3 e4),λc o hc ho=>?_⟩;rw[e1]at hc;cases hc;rw[W6]at ho;cases ho;exact⟨z1,z2⟩
theorem VR.mono(hk:∀a,f.z a->ed h h' a)(hy:∀a,f.y a->jx h h' a)(le:f.Le f'){a:AV}{v:Value}(r:VR w h f a v):VR w h' f' a v:=by
 refine VR.rec (motive_2:=λxs vs Y=>dw w h' f' xs vs) (motive_3:=λb l m Y=>∀m',(∀n,(b=true->ef n=false)->m' n=m n)->ix w h' f' b l m') (motive_4:=λl cl Y=>ue w h' f' l cl) .none .bool .int .str .ty .bi .ad .any (λq=>.seen (le.sn _ q)) ?_ ?_ ?_ ?_ ?_ ?_ .nil (λY Y i1 i2=>.cons i1 i2) (λY Y=>.nil) ?_ .nil ?_ r
 ·intro n a t u v z r k
  exact .rng (le.z a z) ((hk a z).exact r (show Value.type "range"≠.type "frame" by decide)) k
 ·intro st caps a o fd z e c d q cr zc zl cp ih
  exact .clo (le.z a z) ((hk a z).exact e (by rw[c];decide)) c d q (ed.code hk cr zc).1 (λc o hc ho=>⟨le.z c ((ed.code hk cr zc).2 c o hc ho).1,((ed.code hk cr zc).2 c o hc ho).2⟩) (λx c q=>le.z c (zl x c q)) ih
 ·intro xs a vs z q l k ih
  exact .lst (le.z a z) (q.hard (hk a z)) ih k
 ·intro xs a vs z q l k ih
  exact .tup (le.z a z) (q.hard (hk a z)) ih k
 ·intro es a m z ne mo l k ih
  refine D4 mo λo es ep e r=>?_;exact .dct (le.z a z) ne (D0 o es ep ((hk a z).exact e (by rw[r.1.1];decide)) r) (ih _ λY Y=>rfl) k
 ·intro c fs x d m ox z1 z2 e1 e2 e3 e4 hm mk l k ih
  refine dI (hy d z2 _ hm) λm' q1 q2 q3=>?_;exact .ins (le.z x z1) (le.y d z2) ((hk x z1).exact e1 (by rw[e2];exact λq=>nomatch q)) e2 e3 e4 q1 (λc=>by refine bW (mk c) λv q r=>?_;exact q3 _ v q r) (ih _ λn hn=>q2 n (hn rfl)) (λn hn q=>(q2 n hn).trans (k n hn q))
 ·intro b n a v l m hc hn _ _ i1 i2 m' e
  exact .cons hc ((e _ hc).trans hn) i1 (i2 m' e)
 ·intro x a v e l cl o q z g c d _ _ i1 i2
  exact .cons q (le.z _ z) ((hk _ z).exact g (by rw[c];decide)) c d i1 i2
end
section
variable{w:World}{h h':Heap}{f f':Fz}
theorem dw.inv_nil{u:List Value}(r:dw w h f [] u):u=[]:=by cases r;rfl
inductive MN(w:World)(h:Heap)(f:Fz)(a:AV)(l:List AV)(u:List Value):Prop
 |mk (v:Value) (vs:List Value):u=v::vs->VR w h f a v->dw w h f l vs->MN w h f a l u
theorem dw.inv_cons{a:AV}{l:List AV}{u:List Value}(r:dw w h f (a::l) u):MN w h f a l u:=by
 cases r with|cons r rs=>exact⟨_,_,rfl,r,rs⟩
inductive MO(w:World)(h:Heap)(f:Fz)(b:Bool)(n:Str)(a:AV)(l:List (Str×AV))(m:Str->Option Value):Prop
 |mk (v:Value):(b=true->ef n=false)->m n=some v->VR w h f a v->ix w h f b l m->MO w h f b n a l m
theorem ix.inv_cons{b:Bool}{n:Str}{a:AV}{l:List (Str×AV)}{m:SV}(r:ix w h f b ((n,a)::l) m):MO w h f b n a l m:=by
 cases r with|cons c q r rs=>exact⟨_,c,q,r,rs⟩
theorem dw.mono(hk:∀a,f.z a->ed h h' a)(hy:∀a,f.y a->jx h h' a)(le:f.Le f'){xs:List AV}:∀{vs},dw w h f xs vs->dw w h' f' xs vs:=by
 induction xs with
 |nil=>intro vs r;rw[r.inv_nil];exact .nil
 |cons a l ih=>intro vs r;obtain⟨v,us,rfl,q,r2⟩:=r.inv_cons;exact .cons (q.mono hk hy le) (ih r2)
theorem ix.mono(hk:∀a,f.z a->ed h h' a)(hy:∀a,f.y a->jx h h' a)(le:f.Le f'){b:Bool}{l:List (Str×AV)}{m m':SV}(r:ix w h f b l m)(e:∀n,(b=true->ef n=false)->m' n=m n):ix w h' f' b l m':=by
 induction l with
 |nil=>exact .nil
 |cons p l ih=>obtain⟨v,hc,hn,q,r⟩:=ix.inv_cons r;exact .cons hc ((e _ hc).trans hn) (q.mono hk hy le) (ih r)
end
theorem VR.handed{w:World}{h:Heap}{f:Fz}{a:AV}{v:Value}(r:VR w h f a v):PySem.W.handedIn v=true:=by
 cases r<;>first|rfl|assumption
theorem dw.length{w:World}{h:Heap}{f:Fz}{xs:List AV}:∀{vs},dw w h f xs vs->xs.length=vs.length:=by
 induction xs with
 |nil=>intro vs r;rw[r.inv_nil];rfl
 |cons a l ih=>intro vs r;obtain⟨v,us,rfl,_,r2⟩:=r.inv_cons;exact aN _ (ih r2)
theorem dw.append{w:World}{h:Heap}{f:Fz}{xs ys:List AV}{vs us:List Value}(r:dw w h f xs vs)(q:dw w h f ys us):dw w h f (xs++ys) (vs++us):=by
 induction xs generalizing vs with
 |nil=>rw[r.inv_nil];exact q
 |cons a l ih=>obtain⟨v,ts,rfl,k,r2⟩:=r.inv_cons;exact .cons k (ih r2)
theorem dw.get{w:World}{h:Heap}{f:Fz}{xs:List AV}:∀{vs} {n:Nat} {a},dw w h f xs vs->xs[n]? =some a->∃v,vs[n]? =some v/\VR w h f a v:=by
 induction xs with
 |nil=>intro vs n a r e;exact nomatch e
 |cons b l ih=>
  intro vs n a r e;obtain⟨v,ts,rfl,k,r2⟩:=r.inv_cons;cases n with
  |zero=>exact(cf v rfl (aJ e▸k))
  |succ n=>exact ih (n:=n) r2 e
theorem wK{Z:Type}{k n:Str}{x a:Z}{l:List (Str×Z)}(e:bD ((k,x)::l) n=some a):(k=n/\x=a)\/bD l n=some a:=by
 rw[cO]at e;by_cases s:k=n
 ·rw[aA s]at e;exact .inl ⟨s,oI e⟩
 ·rw[au s]at e;exact .inr e
theorem ix.get{w:World}{h:Heap}{f:Fz}{b:Bool}{l:List (Str×AV)}{m:SV}{n:Str}{a:AV}(r:ix w h f b l m)(e:bD l n=some a):∃v,m n=some v/\VR w h f a v:=by
 induction l with
 |nil=>exact nomatch e
 |cons p l ih=>
  obtain⟨v,_,hn,q,r⟩:=ix.inv_cons r;obtain⟨rfl,rfl⟩|e:=wK e
  ·exact(cf _ hn q)
  ·exact ih r e
theorem ue.get{w:World}{h:Heap}{f:Fz}{l:List (Str×AV)}{cl:List (Str×Addr)}{n:Str}{a:AV}(r:ue w h f l cl)(e:bD l n=some a):∃e o v,cl.lookup n=some e/\f.z e/\h.get? e=some o/\o.cls=.type "cell"/\o.data=.cell (some v)/\VR w h f a v:=by
 induction l with
 |nil=>exact nomatch e
 |cons p l ih=>
  cases r with
  |cons q z e1 e2 e3 k r=>
   obtain⟨rfl,rfl⟩|e:=wK e
   ·exact(MX _ _ _ q z e1 e2 e3 k)
   ·exact ih r e
inductive wo(w:World)(h:Heap)(f:Fz)(P:Heap->Addr->List Value->Prop)(xs:List AV)(v:Value):Prop
 |mk (a:Addr) (vs:List Value):v=.ref a->f.z a->P h a vs->dw w h f xs vs->xs.length<=4000->wo w h f P xs v
inductive HJ(w:World)(h:Heap)(f:Fz)(es:List (Str×AV))(v:Value):Prop
 |mk (a:Addr) (m:Str->Option Value):v=.ref a->f.z a->a≠sysModules->h.MapOf (strKind pw w) a m->ix w h f false es m->(∀k,bD es k=none->m k=none)->HJ w h f es v
inductive HI(h:Heap)(f:Fz)(n:Int)(v:Value):Prop
 |mk (a:Addr) (t u x:Tok):v=.ref a->f.z a->IsRange h a 0 n 1 t u x->et n=true->HI h f n v
def VR.I(w:World)(h:Heap)(f:Fz):AV->Value->Prop
 | .none,v=>v=.none
 | .bool b,v=>v=.bool b
 | .int i,v=>∃t,v=.int i t
 | .str s,v=>∃t,v=.str s t/\s.cps.size<=100000/\PyData.strOk s=true
 | .ty n,v=>v=.type n
 | .bi n,v=>v=.builtin n/\PySem.W.handedIn (.builtin n)=true
 | .ad a,v=>v=.ref a
 | .any,v=>PySem.W.handedIn v=true
 | .seen,v=>∃a,v=.ref a/\f.sn a
 | .rng n,v=>HI h f n v
 | .lst xs,v=>wo w h f fG xs v
 | .tup xs,v=>wo w h f qJ xs v
 | .dct es,v=>HJ w h f es v
 |_,v=>∃a,v=.ref a
theorem VR.i{w:World}{h:Heap}{f:Fz}{a:AV}{v:Value}(r:VR w h f a v):VR.I w h f a v:=by
 induction r using VR.casesOn with
 |none=>rfl
 |bool b=>rfl
 |int i t=>exact⟨t,rfl⟩
 |str s t k j=>exact(ej t rfl k j)
 |ty n=>rfl
 |bi n k=>exact⟨rfl,k⟩
 |ad a=>rfl
 |any v k=>exact k
 |seen q=>exact(cf _ rfl q)
 |rng z r k=>exact⟨_,_,_,_,rfl,z,r,k⟩
 |lst z q l k=>exact⟨_,_,rfl,z,q,l,k⟩
 |tup z q l k=>exact⟨_,_,rfl,z,q,l,k⟩
 |dct z ne m l k=>exact⟨_,_,rfl,z,ne,m,l,k⟩
 |clo=>exact⟨_,rfl⟩
 |ins=>exact⟨_,rfl⟩
def DM(w:World)(h:Heap)(a:Addr)(es:List (Str×AV))(m:SV):Prop:=(∃iR,h.DictOf (strKind pw w) a iR/\m=valueAt iR)/\(es.map (·.1)).Nodup
theorem DM.mapOf{w:World}{h:Heap}{a:Addr}{es:List (Str×AV)}{m:SV}(x:DM w h a es m):h.MapOf (strKind pw w) a m:=by
 refine cH x ?_;rintro⟨iR,d,rfl⟩ _;exact d.mapOf
theorem DM.hard{w:World}{h h':Heap}{a:Addr}{es:List (Str×AV)}{m:SV}(k:ed h h' a)(x:DM w h a es m):DM w h' a es m:=by
 refine cH x ?_;rintro⟨iR,⟨o,es,ep,e,c,r⟩,q⟩ nd;exact⟨(cf iR (mK o es ep (k.exact e (by rw[c.1];decide)) c r) q),nd⟩
inductive gp(w:World)(h:Heap)(f:Fz):OV->Value->(Addr->Prop)->Prop
 |v {a:AV} {v:Value}:VR w h f a v->gp w h f (.v a) v λY=>False
 |ol {xs:List AV} {a:Addr} {vs:List Value}:fG h a vs->dw w h f xs vs->xs.length<=4000->gp w h f (.ol xs) (.ref a) λb=>b=a
 |od {es:List (Str×AV)} {a:Addr} {m:Str->Option Value}:a≠sysModules->DM w h a es m->ix w h f false es m->(∀k,bD es k=none->m k=none)->gp w h f (.od es) (.ref a) λb=>b=a
theorem gp.handed{w:World}{h:Heap}{f:Fz}{o:OV}{v:Value}{F:AP}(r:gp w h f o v F):PySem.W.handedIn v=true:=by
 induction r using gp.casesOn with
 |v r=>exact r.handed
 |_=>rfl
inductive eD(w:World)(h:Heap)(f:Fz):OV->Value->(Addr->Prop)->Prop
 |fl {o:OV} {v:Value} {F:Addr->Prop}:gp w h f o v F->eD w h f o v F
 |k {a:AV} {v:Value}:VR w h f a v->eD w h f (.k a) v λY=>False
 |oi {c:Addr} {fs:List (Str×OV)} {x d:Addr} {m:Str->Option Value} {g:Str->Value} {G:Str->Addr->Prop}:h.get? x=some (PySem.W.instObj c d)->h.Ns1 d m->d≠x->
   (∀n o,bD fs n=some o->m n=some (g n)/\gp w h f o (g n) (G n))->(∀n,bD fs n=none->m n=none)->(∀n b,G n b->b≠x/\b≠d)->(∀n k b,G n b->G k b->n=k)->eD w h f (.oi c fs) (.ref x) λb=>b=x\/b=d\/∃n,(bD fs n).isSome/\G n b
section
variable{w:World}{h h':Heap}{f f':Fz}
theorem vZ.hard{a:Addr}{m:SV}(k:ed h h' a)(l:h.Ns1 a m):h'.Ns1 a m:=by
 refine jM l λo es ep e d r=>?_;obtain q|⟨_,sl,q⟩:=k o e
 ·exact(mK o es ep q d r)
 ·exact(mK _ es ep q d r)
theorem gp.mono(hk:∀a,f.z a->ed h h' a)(hy:∀a,f.y a->jx h h' a)(le:f.Le f'){o:OV}{v:Value}{F:AP}(hF:∀a,F a->ed h h' a)(r:gp w h f o v F):gp w h' f' o v F:=by
 induction r using gp.casesOn with
 |v r=>exact .v (r.mono hk hy le)
 |ol l r n=>exact .ol (l.hard (hF _ rfl)) (r.mono hk hy le) n
 |od ne l r n=>exact .od ne (DM.hard (hF _ rfl) l) (r.mono hk hy le λY Y=>rfl) n
theorem eD.mono(hk:∀a,f.z a->ed h h' a)(hy:∀a,f.y a->jx h h' a)(le:f.Le f'){o:OV}{v:Value}{F:AP}(hF:∀a,F a->ed h h' a)(r:eD w h f o v F):eD w h' f' o v F:=by
 induction r using eD.casesOn with
 |fl r=>exact .fl (r.mono hk hy le hF)
 |k r=>exact .k (r.mono hk hy le)
 |oi e1 e2 e3 e4 e5 e6 e7=>exact .oi ((hF _ (.inl rfl)).exact e1 nofun) (vZ.hard (hF _ (.inr (.inl rfl))) e2) e3 (λn o q=>⟨(e4 n o q).1,(e4 n o q).2.mono hk hy le λa ha=>hF a (.inr (.inr (cf n (by rw[q];rfl) ha)))⟩) e5 e6 e7
theorem gp.there{o:OV}{v:Value}{F:AP}(r:gp w h f o v F):∀a,F a->a<h.objs.size:=by
 induction r using gp.casesOn with
 |v=>exact λY q=>q.elim
 |ol l r n=>exact λb q=>l.elim λY e=>q.symm▸aF e
 |od ne l r n=>
  obtain⟨⟨_,⟨_,_,_,e,_⟩,_⟩,_⟩:=l;exact λb q=>q.symm▸aF e
theorem eD.there{o:OV}{v:Value}{F:AP}(r:eD w h f o v F):∀a,F a->a<h.objs.size:=by
 induction r using eD.casesOn with
 |fl r=>exact r.there
 |k=>exact λY q=>q.elim
 |oi e1 e2 _ e4 _ _ _=>
  intro a q;obtain rfl|rfl|⟨n,hs,q⟩:=q
  ·exact aF e1
  ·exact e2.ns.lt
  ·refine cF (Option.isSome_iff_exists.mp hs) λo ho=>(e4 n o ho).2.there a q
end
end
section
variable{w:World}{h:Heap}{f:Fz}
def gp.I(w:World)(h:Heap)(f:Fz):OV->Value->AP->Prop
 | .v a,u,F=>VR w h f a u/\F=λY=>False
 | .ol xs,u,F=>∃a vs,u=.ref a/\(F=λb=>b=a)/\fG h a vs/\dw w h f xs vs/\xs.length<=4000
 | .od es,u,F=>∃a m,u=.ref a/\(F=λb=>b=a)/\a≠sysModules/\DM w h a es m/\ix w h f false es m/\∀k,bD es k=none->m k=none
 |_,_,_=>False
theorem gp.i{o:OV}{v:Value}{F:AP}(r:gp w h f o v F):gp.I w h f o v F:=by
 induction r using gp.casesOn with
 |v r=>exact⟨r,rfl⟩
 |ol l r n=>exact⟨_,_,rfl,rfl,l,r,n⟩
 |od a b c d=>exact⟨_,_,rfl,rfl,a,b,c,d⟩
def eD.I(w:World)(h:Heap)(f:Fz):OV->Value->AP->Prop
 | .k a,u,F=>VR w h f a u/\F=λY=>False
 | .oi c fs,u,F=>∃(x d:Addr) (m:SV) (g:Str->Value) (G:Str->AP),u=.ref x/\(F=λb=>b=x\/b=d\/∃n,(bD fs n).isSome/\G n b)/\h.get? x=some (PySem.W.instObj c d)/\h.Ns1 d m/\d≠x/\(∀n o,bD fs n=some o->m n=some (g n)/\gp w h f o (g n) (G n))/\(∀n,bD fs n=none->m n=none)/\(∀n b,G n b->b≠x/\b≠d)/\∀n k b,G n b->G k b->n=k
 |o,u,F=>gp w h f o u F
theorem eD.i{o:OV}{v:Value}{F:AP}(r:eD w h f o v F):eD.I w h f o v F:=by
 induction r using eD.casesOn with
 | @fl o _ _ r=>obtain _|_|_|_|_:=o<;>first|exact r|exact False.elim r.i
 |k r=>exact⟨r,rfl⟩
 |oi e1 e2 e3 e4 e5 e6 e7=>exact⟨_,_,_,_,_,rfl,rfl,e1,e2,e3,e4,e5,e6,e7⟩
end
variable {A:Around}{D d d' j k mo tk:Nat}{E:VP}{F G X X' o bA bF eM bE:AP}{I da ea fI la:Addr}{K n nm x y:Str}{M:Model}{N ss eG:OA}{O:vX}{Z β xg mO:Type}{Q:UP}{a av:AV}{iX p pos q:Pos}{ar:List Arg}{args ds iS l:List Expr}{as cq xs K6 ys:LA}{b bH bS right:Bool}{body:List Stmt}{c:Fm}{caps es:LE}{cells cl ms:List (Str × Addr)}{code fv u v:Value}{cs sc:Scope}{cx:Cx}{dl:Option Nat}{e elt ob lZ nQ:Expr}{env:Env}{f f' nD bU:Fz}{fd:FuncData}{fo i:Int}{fs:List Int}{fx:Option Str}{gens:List Comprehension}{gs:List Nat}{h h' sb:Heap}{hs:List ExceptHandler}{ks:List (Option Expr)}{iR:List (Str × Value)}{loc tl tm:LO}{m mm:SV}{names:List (Str × NameKind)}{ns:List Str}{op:CmpOp}{ord:List DictEntry -> List DictEntry}{os:List OV}{ov:OV}{ps:LP}{rc:f9}{s s' s1 bK:S}{sl:Array (Option Value)}{st:Stmt}{us vs:LV}{CX:Option (Value -> Sem Unit)}{w:World}{wh:Sem Value}{J bT eV bJ:Shared}{P:QT Z β}{g:Z -> S -> R xg}{t:Sem β}{t':Sem mO}
abbrev Pt:Addr:=1414
abbrev Md(w:World):Model:=model pw w
structure Fm where
 w:World
 sb:Heap
 cx:Cx
 A:Around
 fe:Env
 ev:Env
 out:List Env
 pin:List (Str×Value)
def uO:List Addr:=[0,2,3,4,37,38,66,67,87,88,109,110,130,131,152,153,361,362,341,342,496,497,1355,1356,50,100,143,235,521,527,1158,1339,1416,1417]++gW.map (·.1)++gW.map (·.1-1)
noncomputable def KF(P:Params):PySem.W.Frag:=uO.filterMap λa=>(T5 P).get a|>.map (a, ·)
def V8(w:World)(sb:Heap):Prop:=(KF w.params).In sb
def MS(sb h:Heap):Prop:=∀a o,a≠Pt->sb.get? a=some o->h.get? a=some o
structure Go(bA:AP)(h:Heap)(f:Fz)(bF:AP)(h':Heap)(f':Fz):Prop where
 kp:∀a,¬bA a->Kp f h h' a
 le:f.Le f'
 nz:∀a,f'.z a->f.z a\/bA a\/h.objs.size<=a
 ny:∀a,f'.y a->f.y a\/bA a\/h.objs.size<=a
 ns:∀a,f'.sn a->f.sn a\/bA a\/h.objs.size<=a
 no:∀a,bF a->bA a\/h.objs.size<=a
 size:h.objs.size<=h'.objs.size
theorem BO{a:Addr}(l:h.objs.size<=a):h.get? a=none:=eE (h.get? a) (λe=>rfl) λo e=>absurd (aF e) (Nat.not_lt.mpr l)
theorem Kp.fresh{a:Addr}(l:h.objs.size<=a):Kp f h h' a:=
 ⟨λY m e=>absurd e.ns.lt (Nat.not_lt.mpr l),λY Y o e=>by rw[BO l]at e;exact c8 e⟩
section
variable{v5:AP}{qu:Heap}{C6:Fz}
theorem Go.refl(bA)(h)(f):Go bA h f bA h f:=
 ⟨λY Y=>.of_keep λY e=>e,.refl f,λY q=>.inl q,λY q=>.inl q,λY q=>.inl q,λY q=>.inl q,aC _⟩
theorem Go.trans(x:Go bA h f bF h' f')(y:Go o h' f' v5 qu C6)(ho:∀a,o a->bA a\/h.objs.size<=a):Go bA h f v5 qu C6:=by
 have up:∀{P} {a},(P\/o a\/h'.objs.size<=a)->(P\/bA a\/h.objs.size<=a):=λ{P a} q=>by
  obtain q|q|q:=q
  ·exact .inl q
  ·obtain z|z:=ho a q
   ·exact .inr (.inl z)
   ·exact .inr (.inr z)
  ·exact .inr (.inr (aq x.size q))
 refine⟨λa na=>?_,x.le.trans y.le,λa q=>?_,λa q=>?_,λa q=>?_,λa q=>?_,aq x.size y.size⟩
 ·by_cases l:h.objs.size<=a
  ·exact .fresh l
  ·have Yc:¬o a:=λq=>by
    obtain z|z:=ho a q
    ·exact na z
    ·exact l z
   have k1:=x.kp a na
   have k2:=y.kp a Yc
   refine⟨λq=>(k1.1 q).trans (k2.1 (x.le.y a q)),λq1 q2=>(k1.2 q1 q2).trans (k2.2 (λz=>?_) λz=>?_)⟩
   ·obtain r|r|r:=x.ny a z
    ·exact q1 r
    ·exact na r
    ·exact l r
   ·obtain r|r|r:=x.ns a z
    ·exact q2 r
    ·exact na r
    ·exact l r
 ·obtain z|z:=up (y.nz a q)
  ·exact x.nz a z
  ·exact .inr z
 ·obtain z|z:=up (y.ny a q)
  ·exact x.ny a z
  ·exact .inr z
 ·obtain z|z:=up (y.ns a q)
  ·exact x.ns a z
  ·exact .inr z
 ·rcases up (P:=False) (.inr (y.no a q))with z|z
  ·exact z.elim
  ·exact z
theorem Go.more(x:Go bA h f bF h' f')(ho:∀a,bA a->o a):Go o h f bF h' f':=
 ⟨λa na=>x.kp a λq=>na (ho a q),x.le,λa q=>(x.nz a q).imp_right (.imp_left (ho a)),λa q=>(x.ny a q).imp_right (.imp_left (ho a)),λa q=>(x.ns a q).imp_right (.imp_left (ho a)),λa q=>(x.no a q).imp_left (ho a),x.size⟩
theorem Go.less(x:Go bA h f bF h' f')(ho:∀a,o a->bF a\/bA a\/h.objs.size<=a):Go bA h f o h' f':=
 ⟨x.kp,x.le,x.nz,x.ny,x.ns,λa q=>by
  obtain z|z:=ho a q
  ·exact x.no a z
  ·exact z,x.size⟩
theorem Go.keeps(k:∀b o,h.get? b=some o->h'.get? b=some o)(sz:h.objs.size<=h'.objs.size):Go bA h f bA h' f:=
 ⟨λa Y=>.of_keep (k a),.refl f,λY q=>.inl q,λY q=>.inl q,λY q=>.inl q,λY q=>.inl q,sz⟩
theorem Go.at{a:Addr}(hs:Heap.SameBut a h h')(ha:bA a):Go bA h f bA h' f:=
 ⟨λb nb=>.of_keep λo e=>(hs.2 b λq=>nb (q▸ha)).trans e,.refl f,λY q=>.inl q,λY q=>.inl q,λY q=>.inl q,λY q=>.inl q,aR hs.1.symm⟩
end
structure ni(c:Fm)(f:Fz)(a:Addr):Prop where
 z:¬f.z a
 y:¬f.y a
 sn:¬f.sn a
 sb:c.sb.objs.size<=a\/a=Pt
 out:∀e∈c.out,e.frame≠some a
def eX(c:Fm)(f:Fz)(bA F:AP):Prop:=∀a,F a->¬bA a/\ni c f a/\c.sb.objs.size<=a
noncomputable def uc:OV->Bool
 | .k _=>true
 |_=>false
def cw(loc:LO)(x:Str):Bool:=match bD loc x with|some (.k _)=>true|_=>false
def dq(e:Env)(h:Heap)(m:SV)(x:Str)(v:Value):Prop:=match e.kindOf x with
 |some .local=>m x=some v
 |some .cell=>∃c,e.cells.lookup x=some c/\h.IsCell c (some v)
 |some .free=>∃c,e.cells.lookup x=some c/\h.IsCell c (some v)
 |_=>False
def cQ(c:Fm)(h:Heap)(n:Str)(v:Value):Prop:=∃m,h.Ns1 c.fe.locals m/\dq c.fe h m n v
structure FR(c:Fm)(s:S)(h:Heap)(f:Fz)(bA:AP)(m:SV)(F:Str->AP):Prop where
 ns:h.Ns1 c.fe.locals m
 cls:∃o,h.get? c.fe.locals=some o/\o.cls=.type "frame"
 ownL:bA c.fe.locals
 cells:∀x,c.fe.kindOf x=some .cell->∃a v,c.fe.cells.lookup x=some a/\(∃o,h.get? a=some o/\o.cls=.type "cell"/\o.data=.cell v)/\(cw s.loc x=false->bA a)
 cinj:∀x y a,c.fe.cells.lookup x=some a->c.fe.cells.lookup y=some a->¬f.z a->x=y
 cL:∀x a,c.fe.cells.lookup x=some a->a≠c.fe.locals
 ck:∀x a,c.fe.cells.lookup x=some a->bA a\/f.z a
 loc:∀x o,bD s.loc x=some o->∃v,dq c.fe h m x v/\eD c.w h f o v (F x)/\(uc o=true->∀a,c.fe.cells.lookup x=some a->f.z a)
 fo:∀x a,F x a->bA a/\a≠c.fe.locals/\(∀y b,c.fe.cells.lookup y=some b->a≠b)/\(bD s.loc x).isSome/\c.sb.objs.size<=a
 fd:∀x y a,F x a->F y a->x=y
 free:∀x,c.fe.kindOf x=some .free->cw s.loc x=true
def wq(w:World)(h:Heap)(f:Fz):OA->Prop
 |none=>∀a,¬f.sn a
 |some l=>∃a vs,(∀b,f.sn b↔b=a)/\fG h a vs/\dw w h f l vs/\l.length<=4000
def FF(sb h:Heap)(f:Fz)(l:List Env):Prop:=∀e∈l,e.scope.kind=.function/\∃L o es ep,e.frame=some L/\sb.objs.size<=L/\h.get? L=some o/\o.cls=.type "frame"/\o.data=.dict es ep/\¬f.z L/\¬f.y L/\¬f.sn L
structure sC(e:Env):Prop where
 kind:e.scope.kind=.function
 glob:e.globals=mainNs
 bui:e.builtins=builtinsNs
structure pP(c:Fm)(cs:Scope)(s:S)(h:Heap)(f:Fz)(bA:AP):Prop where
 env:sC c.ev
 frame:c.ev.frame=c.fe.frame
 loc:∀x,bD cs.names x=some .local->c.ev.kindOf x=some .local
 top:∀x,bD cs.names x=some .globalImplicit->c.ev.kindOf x=some .globalImplicit
 free:∀x,bD cs.names x=some .free->(c.ev.kindOf x=some .cell\/c.ev.kindOf x=some .free)/\c.fe.kindOf x=some .cell/\c.ev.cells.lookup x=c.fe.cells.lookup x
 cell:∀x,bD cs.names x≠some .cell
 ns:∃m,h.Ns1 c.ev.locals m/\∀x a,bD s.cl x=some a->∃v,m x=some v/\VR c.w h f a v
 ownC:bA c.ev.locals
 neL:c.ev.locals≠c.fe.locals
 neC:∀y b,c.fe.cells.lookup y=some b->c.ev.locals≠b
structure Wd(w:World)(sb h:Heap)(f:Fz)(ss:Option (List AV)):Prop where
 base:V8 w sb
 stat:MS sb h
 sbz:sb.objs.size<=h.objs.size
 fok:f.Ok
 zl:∀b,f.z b\/f.y b\/f.sn b->b<h.objs.size
 snl:∀b,f.sn b\/f.y b->sb.objs.size<=b
 seen:wq w h f ss
structure St(c:Fm)(s:S)(h:Heap)(f:Fz)(bA:AP):Prop where
 wd:Wd c.w c.sb h f s.ss
 oo:∀a,bA a->ni c f a/\a<h.objs.size
 frames:c.A.frames=some (c.fe::c.out)
 ff:FF c.sb h f c.out
 fe:sC c.fe
 fsc:c.fe.scope=c.cx.sc
 ffr:c.fe.frame=some c.fe.locals/\c.sb.objs.size<=c.fe.locals
 ofr:∀e∈c.out,e.frame≠some c.fe.locals
 tab:∀l,s.dl=some l->bA Pt/\(∃o,c.sb.get? 1416=some o)/\∃ps,c.fe.code=.ref 1416/\h.IsCode 1416 Pt ps/\h.TableAt 1416 Pt ps/\∀p:Pos,l<p.line->codeAmong p ps.toList=none
 fr:∃m F,FR c s h f bA m F/\(c.cx.cs.isSome->∀x,¬F x c.ev.locals)
 comp:match c.cx.cs with
  |none=>c.ev=c.fe
  |some cs=>pP c cs s h f bA
 pin:∀p∈c.pin,cQ c h p.1 p.2
def iz(J bT:Shared):Prop:=bT.gens=J.gens/\bT.os=J.os
theorem iz.refl(J):iz J J:=⟨rfl,rfl⟩
theorem iz.trans{a b c:Shared}(x:iz a b)(y:iz b c):iz a c:=⟨y.1.trans x.1,y.2.trans x.2⟩
def eI(f:Fz)(o:AP):Prop:=∀a,o a->¬f.z a/\¬f.y a/\¬f.sn a
section
variable{o':AP}
theorem Go.hard(G:Go o h f o' h' f'){a:Addr}(n:¬o a)(ny:¬f.y a)(ns:¬f.sn a):ed h h' a:=(G.kp a n).2 ny ns
theorem Go.hz(G:Go o h f o' h' f')(ok:f.Ok)(fr:eI f o):∀a,f.z a->ed h h' a:=λa z=>G.hard (λq=>(fr a q).1 z) (ok.zy a z) (ok.zs a z)
theorem Go.sy(G:Go o h f o' h' f')(fr:eI f o):∀a,f.y a->jx h h' a:=λa y=>(G.kp a λq=>(fr a q).2.1 y).1 y
theorem VR.go(G:Go o h f o' h' f')(ok:f.Ok)(fr:eI f o)(r:VR w h f a v):VR w h' f' a v:=r.mono (G.hz ok fr) (G.sy fr) G.le
theorem dw.go(G:Go o h f o' h' f')(ok:f.Ok)(fr:eI f o){a:LA}{v:LV}(r:dw w h f a v):dw w h' f' a v:=r.mono (G.hz ok fr) (G.sy fr) G.le
theorem eD.go(G:Go o h f o' h' f')(ok:f.Ok)(fr:eI f o){a:OV}(hF:∀a,F a->¬o a/\¬f.y a/\¬f.sn a)(r:eD w h f a v F):eD w h' f' a v F:=
 r.mono (G.hz ok fr) (G.sy fr) G.le λa q=>G.hard (hF a q).1 (hF a q).2.1 (hF a q).2.2
theorem ed.data{a:Addr}{ob:Obj}(k:ed h h' a)(e:h.get? a=some ob):∃ui,h'.get? a=some ui/\ui.cls=ob.cls/\ui.data=ob.data:=by
 obtain q|⟨_,sl,q⟩:=k ob e
 ·exact(ej _ q rfl rfl)
 ·exact(ej _ q rfl rfl)
theorem KG.hard{a:Addr}{v:Option Value}(k:ed h h' a):h.IsCell a v->h'.IsCell a v:=λz=>bW z λob e d=>let⟨ui,e',_,d'⟩:=k.data e;⟨ui,e',d'.trans d⟩
theorem FF.go(G:Go o h f o' h' f'){l:List Env}(hl:∀e∈l,∀L,e.frame=some L->¬o L)(x:FF sb h f l):FF sb h' f' l:=λe he=>by
 obtain⟨k,L,ob,es,ep,q1,q2,q3,q4,q5,q6,q7,q8⟩:=x e he;refine dI ((G.hard (hl e he L q1) q7 q8).data q3) λui e' c' d'=>?_;have nl:=Nat.not_le.mpr (aF q3);refine⟨k,L,ui,es,ep,q1,q2,e',c'.trans q4,d'.trans q5,λz=>?_,λz=>?_,λz=>?_⟩
 ·obtain r|r|r:=G.nz L z
  ·exact q6 r
  ·exact hl e he L q1 r
  ·exact nl r
 ·obtain r|r|r:=G.ny L z
  ·exact q7 r
  ·exact hl e he L q1 r
  ·exact nl r
 ·obtain r|r|r:=G.ns L z
  ·exact q8 r
  ·exact hl e he L q1 r
  ·exact nl r
theorem ni.go(G:Go o h f o' h' f'){a:Addr}(n:¬o a)(l:a<h.objs.size)(x:ni c f a):ni c f' a:=
 have nl:=Nat.not_le.mpr l
 ⟨λz=>by
  obtain r|r|r:=G.nz a z
  ·exact x.z r
  ·exact n r
  ·exact nl r,λz=>by
  obtain r|r|r:=G.ny a z
  ·exact x.y r
  ·exact n r
  ·exact nl r,λz=>by
  obtain r|r|r:=G.ns a z
  ·exact x.sn r
  ·exact n r
  ·exact nl r,x.sb,x.out⟩
end
section
variable{o':AP}
theorem St.free(x:St c s h f bA):eI f bA:=λa q=>let z:=(x.oo a q).1;⟨z.z,z.y,z.sn⟩
theorem oh(e:cw loc x=true):∃a,bD loc x=some (.k a):=by
 unfold cw at e;generalize bD loc x=z at e⊢;obtain _|z:=z
 ·exact dT e
 ·induction z using rD with
  |k a=>exact⟨a,rfl⟩
  |_=>exact dT e
theorem dq.el{P:Prop}{e:Env}(r:dq e h m x v)(l:e.kindOf x=some .local->m x=some v->P)(k:∀a,(e.kindOf x=some .cell\/e.kindOf x=some .free)->e.cells.lookup x=some a->h.IsCell a (some v)->P):P:=by
 unfold dq at r;generalize q:e.kindOf x=z at r l k;obtain _|z:=z
 ·exact r.elim
 ·obtain _|_:=z<;>first|exact r.elim|exact l rfl r|exact bW r λa=>k a (.inl rfl)|exact bW r λa=>k a (.inr rfl)
theorem dq.L{e:Env}(k:e.kindOf x=some .local)(r:m x=some v):dq e h m x v:=by
 unfold dq;rw[k];exact r
theorem dq.C{e:Env}{a:Addr}(k:e.kindOf x=some .cell\/e.kindOf x=some .free)(e1:e.cells.lookup x=some a)(r:h.IsCell a (some v)):dq e h m x v:=by
 unfold dq;obtain k|k:=k<;>(rw[k];exact cf a e1 r)
theorem dq.hard{e:Env}(k:∀a,e.cells.lookup x=some a->(e.kindOf x=some .cell\/e.kindOf x=some .free)->ed h h' a)(r:dq e h m x v):dq e h' m x v:=
 r.el .L λa q e1 e2=>.C q e1 (KG.hard (k a e1 q) e2)
theorem FR.cellH{F:Str->AP}(G:Go o h f o' h' f')(ok:f.Ok)(fr:eI f o)(fo:eI f bA)(hd:∀a,bA a->¬o a)(x:FR c s h f bA m F):∀y a,c.fe.cells.lookup y=some a->(c.fe.kindOf y=some .cell\/c.fe.kindOf y=some .free)->ed h h' a:=λy a q k=>by
 have sl:=λe=>by
  refine cF (oh e) λb hb=>dI (x.loc y _ hb) λv Y Y z=>(G.hz ok fr) a (z rfl a q)
 obtain k|k:=k
 ·refine dR (x.cells y k) λa' v e1 Y e3=>?_
  rw[q]at e1;obtain rfl:=oI e1;refine fS _ (λe=>?_) (sl);exact(λa q=>G.hard (hd a q) (fo a q).2.1 (fo a q).2.2) a (e3 e)
 ·exact sl (x.free y k)
theorem FR.name{F:Str->AP}(G:Go o h f o' h' f')(ok:f.Ok)(fr:eI f o)(fo:eI f bA)(hd:∀a,bA a->¬o a)(x:FR c s h f bA m F)(r:cQ c h n v):cQ c h' n v:=bW r λm' e1 e2=>(cf m' (vZ.hard (G.hard (hd _ x.ownL) (fo _ x.ownL).2.1 (fo _ x.ownL).2.2) e1) (e2.hard (x.cellH G ok fr fo hd n)))
theorem FR.frame{F:Str->AP}(G:Go o h f o' h' f')(ok:f.Ok)(fr:eI f o)(fo:eI f bA)(hd:∀a,bA a->¬o a)(x:FR c s h f bA m F):FR c s h' f' bA m F:=by
 have ho:=λa q=>G.hard (hd a q) (fo a q).2.1 (fo a q).2.2
 have Hi:∀y a,c.fe.cells.lookup y=some a->(c.fe.kindOf y=some .cell\/c.fe.kindOf y=some .free)->ed h h' a:=λy a q k=>by
  have sl:=λe=>by
   refine cF (oh e) λb hb=>dI (x.loc y _ hb) λv Y Y z=>(G.hz ok fr) a (z rfl a q)
  obtain k|k:=k
  ·refine dR (x.cells y k) λa' v e1 Y e3=>?_
   rw[q]at e1;obtain rfl:=oI e1;refine fS _ (λe=>?_) (sl);exact ho a (e3 e)
  ·exact sl (x.free y k)
 refine⟨vZ.hard (ho _ x.ownL) x.ns,?_,x.ownL,λy k=>?_,λy z a q r nz=>x.cinj y z a q r λw=>nz (G.le.z a w),x.cL,λy a q=>(x.ck y a q).imp_right (G.le.z a),λy ob e=>?_,x.fo,x.fd,x.free⟩
 ·refine bW x.cls λob e q=>dI ((ho _ x.ownL).data e) λui e' c' Y=>(cf ui e' (c'.trans q))
 ·refine dR (x.cells y k) ?_;rintro a v e1 ⟨ob,e2,e3,e4⟩ e5
  refine dI ((Hi y a e1 (.inl k)).data e2) λui e' c' d'=>(eF a v e1 (ej ui e' (c'.trans e3) (d'.trans e4)) e5)
 ·refine dI (x.loc y ob e) λv e1 e2 e3=>(ej v (e1.hard (Hi y)) (e2.go G ok fr λa q=>?_) (λk a q=>G.le.z a (e3 k a q)))
  have:=x.fo y a q
  exact⟨hd a this.1,(fo a this.1).2⟩
theorem pP.go(G:Go o h f o' h' f')(ok:f.Ok)(fr:eI f o)(fo:eI f bA)(hd:∀a,bA a->¬o a)(x:pP c cs s h f bA):pP c cs s h' f' bA:=bW x.ns λm e1 e2=>⟨x.env,x.frame,x.loc,x.top,x.free,x.cell,⟨m,vZ.hard (G.hard (hd _ x.ownC) (fo _ x.ownC).2.1 (fo _ x.ownC).2.2) e1,λy a q=>let⟨v,r1,r2⟩:=e2 y a q;⟨v,r1,r2.go G ok fr⟩⟩,x.ownC,x.neL,x.neC⟩
theorem St.tab_go(x:St c s h f bA)(wd:Wd c.w c.sb h' f' ss)(k:bA Pt->ed h h' Pt)(ho:bA Pt->o Pt){l:Nat}(e:s.dl=some l):o Pt/\(∃o,c.sb.get? 1416=some o)/\∃ps,c.fe.code=.ref 1416/\h'.IsCode 1416 Pt ps/\h'.TableAt 1416 Pt ps/\∀p:Pos,l<p.line->codeAmong p ps.toList=none:=by
 obtain⟨q,⟨ob,qo⟩,ps,q1,q2,q3,q4⟩:=x.tab l e;have k:=k q;have e0:=x.wd.stat 1416 ob (by decide) qo
 have e1:=wd.stat 1416 ob (by decide) qo
 refine⟨ho q,⟨ob,qo⟩,ps,q1,?_,?_,q4⟩
 ·refine Bc q2 λo1 vs file tf flags tg C1 text tt op r1 r2 r3 r4 r5 r6 r7 r8 r9 XS XR=>?_
  obtain rfl:=oI (e0.symm.trans r1);refine dI (k.data r8) λX4 p1 Y p2=>(Bb _ vs file tf flags tg C1 text tt X4 e1 r2 r3 r4 r5 r6 r7 p1 (p2.trans r9) XS XR)
 ·refine cH q3 ?_;rintro⟨o1,vs,r1,r2⟩ r3
  obtain rfl:=oI (e0.symm.trans r1);exact⟨(cz _ vs e1 r2),k.exact r3 (by show Value.none≠.type "frame";decide)⟩
theorem St.frame(x:St c s h f bA)(G:Go o h f o' h' f')(fr:eI f o)(hd:∀a,bA a->¬o a)(hl:∀e∈c.out,∀L,e.frame=some L->¬o L)(wd:Wd c.w c.sb h' f' ss):St c {s with ss:=ss} h' f' bA:=by
 have ok:=x.wd.fok
 refine⟨wd,λa q=>⟨(x.oo a q).1.go G (hd a q) (x.oo a q).2,aK (x.oo a q).2 G.size⟩,x.frames,x.ff.go G hl,x.fe,x.fsc,x.ffr,x.ofr,λl e=>?_,?_,?_,?_⟩
 ·exact x.tab_go wd (λq=>G.hard (hd _ q) (x.free _ q).2.1 (x.free _ q).2.2) id e
 ·refine cC x.fr λm F q1 q2=>(cz m F ⟨(q1.frame G ok fr x.free hd).ns,(q1.frame G ok fr x.free hd).cls,q1.ownL,(q1.frame G ok fr x.free hd).cells,(q1.frame G ok fr x.free hd).cinj,q1.cL,(q1.frame G ok fr x.free hd).ck,(q1.frame G ok fr x.free hd).loc,q1.fo,q1.fd,q1.free⟩ q2)
 ·have:=x.comp
  generalize c.cx.cs=oc at this⊢;obtain _|cs:=oc
  ·exact this
  ·have z:=this.go G ok fr x.free hd
   exact⟨z.env,z.frame,z.loc,z.top,z.free,z.cell,z.ns,z.ownC,z.neL,z.neC⟩
 ·refine cC x.fr λm F q1 q2=>λp hp=>q1.name G ok fr x.free hd (x.pin p hp)
theorem Wd.keeps(x:Wd w sb h f ss)(k:∀b o,h.get? b=some o->h'.get? b=some o)(sz:h.objs.size<=h'.objs.size):Wd w sb h' f ss:=by
 refine⟨x.base,λa o p e=>k a o (x.stat a o p e),aq x.sbz sz,x.fok,λb q=>aK (x.zl b q) sz,x.snl,?_⟩
 have s:=x.seen
 induction ss using i7 with
 |none=>exact s
 |some l=>
  refine jN s ?_;rintro a vs q1 ⟨o,e⟩ q3 q4;exact(kf a vs q1 ⟨o,k _ _ e⟩ (q3.mono (λa Y o e=>.inl (k a o e)) (λa Y=>.of_keep (k a)) (.refl f)) q4)
theorem St.keeps(x:St c s h f bA)(k:∀b o,h.get? b=some o->h'.get? b=some o)(sz:h.objs.size<=h'.objs.size):St c s h' f bA:=
 x.frame (Go.keeps k sz) (λY q=>q.elim) (λY Y q=>q) (λY Y Y Y q=>q) (x.wd.keeps k sz)
theorem Wd.at(x:Wd w sb h f ss){a:Addr}(hs:Heap.SameBut a h h')(hz:¬f.z a)(hy:¬f.y a)(hn:¬f.sn a)(hb:sb.objs.size<=a\/a=Pt):Wd w sb h' f ss:=by
 have k:∀b,b≠a->∀o,h.get? b=some o->h'.get? b=some o:=λb ne o e=>(hs.2 b ne).trans e
 refine⟨x.base,λb o p e=>k b (λq=>?_) o (x.stat b o p e),aq x.sbz (aR hs.1.symm),x.fok,λb q=>hs.1.symm▸x.zl b q,x.snl,?_⟩
 ·obtain hb|hb:=hb
  ·have:=aF e;rw[q]at this;exact absurd this (Nat.not_lt.mpr hb)
  ·exact p (q.trans hb)
 ·have s:=x.seen
  induction ss using i7 with
  |none=>exact s
  |some l=>
   refine jN s ?_;rintro b vs q1 ⟨o,e⟩ q3 q4;exact(kf b vs q1 ⟨o,k _ (λq=>hn (q▸(q1 b).mpr rfl)) _ e⟩ (q3.mono (λb z o e=>.inl (k b (λq=>hz (q▸z)) o e)) (λb y=>.of_keep (k b λq=>hy (q▸y))) (.refl f)) q4)
end
def Zw(h:Heap)(vs:Array Value)(ea d:Addr)(L:Addr)(X:AP):Prop:=vs[1]? =some .none\/
 ∃T oT ts fl,vs[1]? =some (.ref T)/\h.get? T=some oT/\oT.cls=.type "traceback"/\oT.data=.fields ts/\ts[3]? =some fl/\(fl=.none\/fl=rawInt L)/\X T/\T≠ea/\T≠d
def D3(c:Fm)(h:Heap)(f:Fz)(m:AV)(e:Value)(X:AP):Prop:=
 ∃ea oe vs d mm mv,e=.ref ea/\h.get? ea=some oe/\oe.cls=.ref dp/\oe.dict=some d/\oe.data=.fields vs/\h.Ns1 d mm/\mm ("message":Str)=some mv/\VR c.w h f m mv/\(∀k,k≠("message":Str)->mm k=none)/\ea≠d/\X ea/\X d/\Zw h vs ea d c.fe.locals X
def PX(c:Fm)(o:AP)(n:Nat)(m:AV)(e:Value)(h:Heap)(f:Fz)(bA:AP):Prop:=∃X,D3 c h f m e X/\eX c f bA X/\∀a,X a->o a\/n<=a
def PV(c:Fm)(a:AV)(v:Value)(h:Heap)(f:Fz)(bA:AP):Prop:=VR c.w h f a v
def PO(c:Fm)(o:AP)(n:Nat)(a:OV)(v:Value)(h:Heap)(f:Fz)(bA:AP):Prop:=∃F,eD c.w h f a v F/\eX c f bA F/\∀a,F a->o a\/n<=a
structure cD(c:Fm)(bA:AP)(f:Fz)(J:Shared)(s:S)(f':Fz)(bF:AP)(bT:Shared):Prop where
 st:St c s bT.heap f' bF
 go:Go bA J.heap f bF bT.heap f'
 rest:iz J bT
def TQ(c:Fm)(P:QT Z β)(bA:AP)(f:Fz)(J:Shared)(s:S)(a:Z)(v:β)(bT:Shared):Prop:=∃f' bF,cD c bA f J s f' bF bT/\P a v bT.heap f' bF
def TE(c:Fm)(bA:AP)(f:Fz)(J:Shared)(s:S)(m:AV)(e:Value)(bT:Shared):Prop:=∃f' bF,cD c bA f J s f' bF bT/\PX c bA J.heap.objs.size m e bT.heap f' bF
def T(c:Fm)(P:QT Z β)(r:R Z)(t:Sem β)(bA:AP)(f:Fz)(J:Shared):Prop:=match r with
 | .ok a s=>wpAny (Md c.w) c.A t (TQ c P bA f J s a) (λY Y=>False) J
 | .exc m s=>wpAny (Md c.w) c.A t (λY Y=>False) (TE c bA f J s m) J
 | .no=>True
section
theorem PX.up{n n':Nat}(ho:∀a,o a->bA a\/n<=a)(hn:n<=n'){m:AV}{e:Value}:PX c o n' m e h f bF->PX c bA n m e h f bF:=
 λz=>dI z λX x1 x2 x3=>⟨X,x1,x2,λa q=>by
  obtain r|r:=x3 a q
  ·exact ho a r
  ·exact .inr (aq hn r)⟩
theorem PO.up{n n':Nat}(ho:∀a,o a->bA a\/n<=a)(hn:n<=n'){m:OV}{e:Value}:PO c o n' m e h f bF->PO c bA n m e h f bF:=
 λz=>dI z λX x1 x2 x3=>⟨X,x1,x2,λa q=>by
  obtain r|r:=x3 a q
  ·exact ho a r
  ·exact .inr (aq hn r)⟩
theorem cD.up(x:cD c bA f J s f' bF bT)(g:Go eM eV.heap nD o J.heap f)(ho:∀a,bA a->eM a\/eV.heap.objs.size<=a)(r:iz eV J):cD c eM nD eV s f' bF bT:=
 ⟨x.st,g.trans x.go ho,r.trans x.rest⟩
theorem T.mono{Q:QT Z β}{r:R Z}(x:T c P r t bA f J)(k:∀a v h f' bF,P a v h f' bF->Q a v h f' bF):T c Q r t bA f J:=by
 induction r using iw with
 |ok a s=>exact ak x (λv bT z=>cC z λf' o' p q=>(cz f' o' p (k _ _ _ _ _ q))) λY Y z=>z
 |exc m s=>exact x
 |no=>trivial
theorem T.up{r:R Z}(x:T c P r t bA f J)(g:Go eM eV.heap nD o J.heap f)(ho:∀a,bA a->eM a\/eV.heap.objs.size<=a)(rs:iz eV J):
  match r with
  | .ok a s=>wpAny (Md c.w) c.A t (λv bT=>∃f' bF,cD c eM nD eV s f' bF bT/\P a v bT.heap f' bF) (λY Y=>False) J
  | .exc m s=>wpAny (Md c.w) c.A t (λY Y=>False) (λe bT=>∃f' bF,cD c eM nD eV s f' bF bT/\PX c eM eV.heap.objs.size m e bT.heap f' bF) J
  | .no=>True:=by
 induction r using iw with
 |ok a s=>exact ak x (λv bT z=>cC z λf' o' p q=>(cz f' o' (p.up g ho rs) q)) λY Y z=>z
 |exc m s=>exact ak x (λY Y z=>z) λe bT z=>cC z λf' o' p q=>(cz f' o' (p.up g ho rs) (q.up ho g.size))
 |no=>trivial
theorem T.bind{Q:QT xg mO}{r:R Z}{k:β->Sem mO}(x:T c P r t bA f J)(y:∀a s v bT f' bF,r=.ok a s->cD c bA f J s f' bF bT->P a v bT.heap f' bF->∃o,(∀a,o a->bA a\/J.heap.objs.size<=a)/\T c Q (g a s) (k v) o f' bT):T c Q (r.bind g) (t>>=k) bA f J:=by
 induction r using iw with
 |ok a s=>
  show T c Q (g a s) _ _ _ _
  generalize e:g a s=zz;induction zz using iw with
  |ok b bK=>
   refine af (ak x (λv bT z=>cC z λf' o' p q=>?_) λY Y z=>z.elim)
   refine bW (y a s v bT f' o' rfl p q) λo ho z=>?_;rw[e]at z;exact z.up p.go ho p.rest
  |exc m bK=>
   refine af (ak x (λv bT z=>cC z λf' o' p q=>?_) λY Y z=>z.elim)
   refine bW (y a s v bT f' o' rfl p q) λo ho z=>?_;rw[e]at z;exact z.up p.go ho p.rest
  |no=>trivial
 |exc m s=>exact af (ak x (λY Y z=>z.elim) λY Y z=>z)
 |no=>trivial
theorem T.bindV{Q:QT xg mO}{r:R Z}{k:β->Sem mO}(x:T c P r t bA f J)(y:∀a s v bT f' bF,r=.ok a s->cD c bA f J s f' bF bT->P a v bT.heap f' bF->T c Q (g a s) (k v) bF f' bT):T c Q (r.bind g) (t>>=k) bA f J:=
 x.bind λa s v bT f' bF e p q=>(cf bF p.go.no (y a s v bT f' bF e p q))
theorem T.ret{a:Z}(x:wpAny (Md c.w) c.A t (λv bT=>∃f' bF,cD c bA f J s f' bF bT/\P a v bT.heap f' bF) (λY Y=>False) J):T c P (.ok a s) t bA f J:=x
theorem cD.refl(x:St c s J.heap f bA):cD c bA f J s f bA J:=⟨x,.refl ..,.refl _⟩
theorem T.pure{a:Z}{v:β}(x:St c s J.heap f bA)(p:P a v J.heap f bA):T c P (.ok a s) (Pure.pure v) bA f J:=aj (cz f bA (.refl x) p)
theorem T.tree{r:R Z}{t':Sem β}(x:T c P r t bA f J)(k:∀Q E,wpAny (Md c.w) c.A t Q E J->wpAny (Md c.w) c.A t' Q E J):T c P r t' bA f J:=by
 induction r using iw with
 |ok a s=>exact k _ _ x
 |exc m s=>exact k _ _ x
 |no=>trivial
theorem T.from{r:R Z}{t':Sem β}(x:T c P r t bA f J)(g:Go eM eV.heap nD o J.heap f)(ho:∀a,bA a->eM a\/eV.heap.objs.size<=a)(rs:iz eV J)(k:∀Q E,wpAny (Md c.w) c.A t Q E J->wpAny (Md c.w) c.A t' Q E eV):T c P r t' eM nD eV:=by
 have z:=x.up g ho rs
 induction r using iw with
 |ok a s=>exact k _ _ z
 |exc m s=>exact k _ _ z
 |no=>trivial
theorem T.noExc{r:R Z}(x:∀a s,r=.ok a s->T c P (.ok a s) t bA f J):T c P r.noExc t bA f J:=by
 induction r using iw with
 |ok a s=>exact x a s rfl
 |exc m s=>trivial
 |no=>trivial
end
theorem rg{o:OV}(r:gp w h f o v F)(e:mG o=some a)(f')(le:f.Le f')(hz:∀a,F a->f'.z a):VR w h f' a v:=by
 have k:∀a,f.z a->ed h h a:=λa Y=>.refl h a
 have y:∀a,f.y a->jx h h a:=λa Y=>.of_keep λY e=>e
 induction r using gp.casesOn with
 |v r=>obtain rfl:=oI e;exact r.mono k y le
 |ol l r n=>obtain rfl:=oI e;exact .lst (hz _ rfl) l (r.mono k y le) n
 |od ne l r n=>obtain rfl:=oI e;exact .dct (hz _ rfl) ne l.mapOf (r.mono k y le λY Y=>rfl) n
theorem yt{o:OV}{fs:LO}{l:LE}(e:nE ((x,o)::fs)=some l):bD fs x=none/\((ef x=true/\nE fs=some l)\/∃a r,ef x=false/\mG o=some a/\nE fs=some r/\l=(x,a)::r):=by
 have e:(match bD fs x with
  |some _=>none
  |none=>match ef x with
   |true=>nE fs
   |false=>match mG o,nE fs with
    |some a,some r=>some _
    |_,_=>none)=some l:=e
 generalize bD fs x=p at e⊢;generalize ef x=b at e⊢;generalize mG o=q at e⊢;generalize nE fs=r at e⊢;obtain _|_:=p
 ·refine⟨rfl,?_⟩
  obtain _|_:=b
  ·obtain _|a:=q
   ·exact c8 e
   obtain _|r:=r
   ·exact c8 e
   exact .inr ⟨a,r,rfl,rfl,rfl,(oI e).symm⟩
  ·exact .inl ⟨rfl,e⟩
 ·exact c8 e
theorem BP(le:f.Le f'){fs:LO}:∀{l:LE},nE fs=some l->
  (∀n o,bD fs n=some o->∃v F,m n=some v/\gp w h f o v F/\∀a,F a->f'.z a)->ix w h f' true l m/\∀k,ef k=false->bD l k=none->bD fs k=none:=by
 induction fs with
 |nil=>intro l e _;obtain rfl:=oI e;exact⟨.nil,λY Y Y=>rfl⟩
 |cons p fs ih=>
  obtain⟨x,o⟩:=p;intro l e H;refine cH (yt e) λu e=>?_;have H':∀n o,bD fs n=some o->∃v F,m n=some v/\gp w h f o v F/\∀a,F a->f'.z a:=λn o q=>H n o (by
   rw[cO,au (λz=>by rw[z,q]at u;exact zi u)];exact q)
  obtain⟨s,e⟩|⟨a,r,s,q,q2,rfl⟩:=e
  ·refine cH (ih e H') λr1 r2=>⟨r1,λk hk q=>?_⟩
   rw[cO,au (λz=>by rw[z,hk]at s;exact dT s)]
   exact r2 k hk q
  ·refine dR (H x o (by rw[cO,aA rfl])) λv F h1 h2 h3=>cH (ih q2 H') λr1 r2=>⟨.cons (λY=>s) h1 (rg h2 q f' le h3) r1,λk hk q=>?_⟩
   rw[cO]at q⊢;by_cases ne:x=k
   ·rw[aA ne]at q;exact zi q
   ·rw[au ne]at q⊢;exact r2 k hk q
theorem nX{o:OV}(r:eD w h f o v F)(hF:eI f F)(ok:f.Ok)(e:uq o=some a):
  ∃f',f.Le f'/\f'.Ok/\(∀b,f'.z b->f.z b\/F b)/\(∀b,f'.y b->f.y b\/F b)/\(∀b,f'.sn b↔f.sn b)/\VR w h f' a v:=by
 cases r with
 |k r=>obtain rfl:=oI e;exact(IT f (.refl f) ok (λY q=>.inl q) (λY q=>.inl q) (λY=>.rfl) r)
 |fl r=>
  have e':mG o=some a:=by obtain _|_:=r<;>exact e
  refine(IT ⟨λb=>f.z b\/F b,f.y,f.sn⟩ ⟨λY q=>.inl q,λY q=>q,λY q=>q⟩ ⟨λb q=>(q.elim (ok.zy b) λz=>(hF b z).2.1),λb q=>(q.elim (ok.zs b) λz=>(hF b z).2.2),ok.ys⟩ (λY q=>q) (λY q=>.inl q) (λY=>.rfl) (rg r e' _ ⟨λY q=>.inl q,λY q=>q,λY q=>q⟩ λY q=>.inr q))
 | @oi cl fs x d m g G e1 e2 e3 e4 e5 e6 e7=>
  unfold uq at e;dsimp only at e;refine fS (AJ cl fs) (λmk=>by rw[mk]at e;exact c8 e) λmk=>eE (nE fs) (λq=>by rw[mk,q]at e;exact c8 e) λl q=>?_
  rw[mk,q]at e;obtain rfl:=oI e;have hz:∀b,(b=x\/∃n,(bD fs n).isSome/\G n b)->(b=x\/b=d\/∃n,(bD fs n).isSome/\G n b)/\b≠d:=λb q=>by
   obtain rfl|⟨n,h1,h2⟩:=q
   ·exact⟨.inl rfl,λz=>e3 z.symm⟩
   ·exact⟨.inr (.inr (cf n h1 h2)),(e6 n b h2).2⟩
  have le:f.Le ⟨λb=>f.z b\/(b=x\/∃n,(bD fs n).isSome/\G n b),λb=>f.y b\/b=d,f.sn⟩:=⟨λY q=>.inl q,λY q=>.inl q,λY q=>q⟩
  refine cH (BP le q λn o ho=>(eF _ _ ((e4 n o ho).1) ((e4 n o ho).2) (λa ha=>.inr (.inr (cf n (by rw[ho];rfl) ha))))) λr1 r2=>(IT _ le ⟨λb q=>?_,λb q=>?_,λb q=>?_⟩ (λb q=>q.imp_right λz=>(hz b z).1) (λb q=>q.imp_right λz=>.inr (.inl z)) (λY=>.rfl) ?_)
  ·obtain q|q:=q
   ·exact λz=>z.elim (ok.zy b q) λz=>(hF b (.inr (.inl z))).1 q
   ·exact λz=>z.elim (hF b (hz b q).1).2.1 (hz b q).2
  ·exact q.elim (ok.zs b) λz=>(hF b (hz b z).1).2.2
  ·exact q.elim (ok.ys b) λz=>(hF b (.inr (.inl z))).2.2
  ·refine .ins (.inr (.inl rfl)) (.inr rfl) e1 rfl rfl rfl e2 (λhc=>?_) r1 λk hk z=>e5 k (r2 k hk z)
   subst hc;have:=mk;refine cF (Option.isSome_iff_exists.mp this) λo ho=>(cf _ ((e4 _ o ho).1) ((e4 _ o ho).2.handed))
section
theorem St.lay(x:St c s h f bA)(hF:eX c f bA F)(hl:∀a,F a->a<h.objs.size)(le:f.Le f')(ok:f'.Ok)(nz:∀b,f'.z b->f.z b\/F b)(ny:∀b,f'.y b->f.y b\/F b)(ns:∀b,f'.sn b↔f.sn b):Go F h f F h f'/\St c s h f' bA:=by
 have G:Go F h f F h f':=⟨λa Y=>.of_keep λY e=>e,le,λa q=>(nz a q).imp_right .inl,λa q=>(ny a q).imp_right .inl,λa q=>.inl ((ns a).mp q),λY q=>.inl q,aC _⟩
 refine⟨G,x.frame G (λa q=>⟨(hF a q).2.1.z,(hF a q).2.1.y,(hF a q).2.1.sn⟩) (λa q z=>(hF a z).1 q) (λe he L q z=>(hF L z).2.1.out e he q) ⟨x.wd.base,x.wd.stat,x.wd.sbz,ok,λb q=>by
  obtain q|q|q:=q
  ·exact(nz b q).elim (λz=>x.wd.zl b (.inl z)) (hl b)
  ·exact(ny b q).elim (λz=>x.wd.zl b (.inr (.inl z))) (hl b)
  ·exact x.wd.zl b (.inr (.inr ((ns b).mp q))),λb q=>q.elim (λq=>x.wd.snl b (.inl ((ns b).mp q))) λq=>(ny b q).elim (λq=>x.wd.snl b (.inr q)) λq=>(hF b q).2.2,?_⟩⟩
 have sn:=x.wd.seen
 refine eE s.ss (λhs=>by rw[hs]at sn;exact λa q=>sn a ((ns a).mp q)) λl hs=>?_
 rw[hs]at sn;refine jN sn λa vs q1 q2 q3 q4=>(kf a vs (λb=>(ns b).trans (q1 b)) q2 (q3.mono (λa Y=>.refl h a) (λa Y=>.of_keep λY e=>e) le) q4)
theorem cD.lay(p:cD c bA nD eV s f bF J)(hF:eX c f bF F)(hl:∀a,F a->a<J.heap.objs.size)(hn:∀a,F a->bA a\/eV.heap.objs.size<=a)(le:f.Le f')(ok:f'.Ok)(nz:∀b,f'.z b->f.z b\/F b)(ny:∀b,f'.y b->f.y b\/F b)(ns:∀b,f'.sn b↔f.sn b):cD c bA nD eV s f' bF J:=cH (p.st.lay hF hl le ok nz ny ns) λG x=>⟨x,(p.go.trans G hn).less λa q=>.inr (p.go.no a q),p.rest⟩
theorem eX.free(x:eX c f bA F):eI f F:=λa q=>⟨(x a q).2.1.z,(x a q).2.1.y,(x a q).2.1.sn⟩
theorem T.vl{r:R OV}{t:Sem Value}(x:T c (PO c bA J.heap.objs.size) r t bA f J):T c (PV c) (vl r) t bA f J:=by
 induction r using iw with
 |ok o s=>
  show T c _ (match uq o with|some a=>.ok a s|none=>.no) t bA f J
  refine eE (uq o) (λe=>by trivial) λa e=>ak x (λv bT z=>cC z λf' o' p q=>dI q λF q1 q2 q3=>?_) λY Y z=>z
  refine xM (nX q1 q2.free p.st.wd.fok e) λec le ok nz ny ns r=>(cz ec o' (p.lay q2 q1.there q3 le ok nz ny ns) r)
 |exc m s=>exact x
 |no=>trivial
protected theorem PO.v {n:Nat} (r:VR c.w h f a v):PO c o n (.v a) v h f bF:=(ej _ (.fl (.v r)) (λY q=>q.elim) (λY q=>q.elim))
theorem T.toO{n:Nat}{r:R AV}{t:Sem Value}(x:T c (PV c) r t bA f J):T c (PO c o n) (r.bind λa s=>cZ a s) t bA f J:=by
 induction r using iw with
 |ok a s=>exact ak x (λv bT z=>cC z λf' o' p q=>(cz f' o' p (.v q))) λY Y z=>z
 |exc m s=>exact x
 |no=>trivial
end
abbrev TO(c:Fm)(bA:AP)(J:Shared):=T c (PO c bA J.heap.objs.size)
abbrev wA{Z:Type}(c:Fm)(t:Sem Z):=wpAny (Md c.w) c.A t
theorem Et(a b):dM a b=(b==a):=by
 refine fS (dM a b) (λe=>?_) (λe=>by rw[cR.mp e];simp)
 have:=iC.mp e;exact(beq_eq_false_iff_ne.mpr λq=>this q.symm).symm
theorem iH:∀(l:List (Str×Z)) x,bD l x=l.lookup x:=by
 intro l;induction l with
 |nil=>intro _;exact rfl
 |cons hd l ih=>
  obtain⟨y,v⟩:=hd;intro x;show(match dM y x with|true=>some v|false=>bD l x)=_
  rw[aV,Et,ih x];cases x==y<;>rfl
theorem d7(e:dP x=false)(d:dP y=true):(x==y)=false:=by
 refine fS ((x==y)) (λq=>rfl) λq=>?_
 rw[eq_of_beq q,d]at e;exact tZ e
theorem jk:∀{l:List (Addr×Z)} {a} {o},l.lookup a=some o->(a,o)∈l:=by
 intro l;induction l with
 |nil=>exact nofun
 |cons hd l ih=>
  obtain⟨b,p⟩:=hd;intro a o e;rw[aV]at e;refine fS ((a==b)) (λq=>?_) (λq=>by rw[q]at e;obtain rfl:=oI e;rw[eq_of_beq q];exact .head _)
  rw[q]at e;exact .tail _ (ih e)
theorem yr:∀a∈uO,a≠Pt:=by decide+kernel
theorem HL{P:Params}(b:(KF P).In sb)(st:MS sb h):(KF P).In h:=λa o e=>by
 refine st a o ?_ (b a o e);have:=jk e;refine bW (List.mem_filterMap.mp this) λa' m q=>bW (Option.map_eq_some_iff.mp q) λo' Y q=>?_
 (injection q with zz yy;subst zz yy)
 exact yr _ m
section
protected theorem St.X (x:St c s h f bA):(KF c.w.params).In h:=HL x.wd.base x.wd.stat
noncomputable def zM(v:Value):AV->Bool
 | .ad a=>v==.ref a
 | .bi n=>v==.builtin n&&handedIn (.builtin n)
 | .ty n=>v==.type n
 |_=>false
def IH(P:Params)(x:Str)(a:AV):Bool:=match nsIn (KF P) 3 x with
 |some (some v)=>zM v a
 |some none=>(match nsIn (KF P) 0 x with
  |some (some v)=>zM v a
  |_=>false)
 |none=>false
theorem Pb(P):(gl.all λp=>IH P p.1 p.2)=true:=by kernel_rfl
theorem Rj(P):nsOkIn (KF P) 3=true:=by kernel_rfl
theorem Yb(P):nsOkIn (KF P) 0=true:=by kernel_rfl
set_option tactic.hygienic true in
theorem v9{K:Frag}{N:Addr}{mg:SV}(X:K.In h)(G:h.Ns N mg)(e:nsIn K N n=some (some v)):mg n=some v:=by
 refine uH G λo es ep ho hd Y hf=>?_;unfold nsIn at e;rcases q:K.lookup N with _|⟨c,d,dt,sl⟩<;>rw[q]at e
 ·exact c8 e
 obtain _|_:=dt<;>try exact c8 e
 rename_i Gy n'
 obtain rfl:=oI ((X _ _ q).symm.trans ho);injection hd with z1 z2
 subst z1 z2;have e:(match Gy.toList.find? (·.key.isStr n)with|some e=>some (some e.val)|none=>if Gy.toList.any (·.refKey)then none else some none)=some (some v):=e
 rw[<-hf];unfold nsFind findBy;rw[<-Array.find?_toList];generalize Gy.toList.find? (·.key.isStr n)=z at e⊢;obtain _|en:=z
 ·generalize Gy.toList.any (·.refKey)=b at e
  obtain _|_:=b
  ·exact c8 (oI e)
  ·exact c8 e
 ·exact oI e
theorem xb(e:zM v a=true):VR w h f a v:=by
 obtain _|_:=a<;>first|(exact dT e;done)|skip
 ·rw[eq_of_beq e];exact .ty _
 ·have e:=Bool.and_eq_true_iff.mp e;rw[eq_of_beq e.1];exact .bi _ e.2
 ·rw[eq_of_beq e];exact .ad _
theorem FK{P:Params}(h:IH P x a=true):(∃v,nsIn (KF P) 3 x=some (some v)/\zM v a=true)\/(nsIn (KF P) 3 x=some none/\∃v,nsIn (KF P) 0 x=some (some v)/\zM v a=true):=by
 unfold IH at h;generalize nsIn _ 3 x=p at h⊢;generalize nsIn _ 0 x=q at h⊢;obtain _|_|v:=p
 ·exact dT h
 ·obtain _|_|v:=q
  ·exact dT h
  ·exact dT h
  ·exact .inr ⟨rfl,v,rfl,h⟩
 ·exact .inl ⟨v,rfl,h⟩
theorem jg{Q:VP}(X:(KF w.params).In J.heap)(he:sC env)(hk:env.kindOf x=some .globalImplicit)(e:bD gl x=some a)(k:∀v,VR w J.heap f a v->Q v J):wpAny M A (loadName env x) Q E J:=by
 have h3:J.heap.Ns 3 _:=.of_isNs (isNs_of_in X (Rj _))
 have h0:J.heap.Ns 0 _:=.of_isNs (isNs_of_in X (Yb _))
 unfold loadName;simp only[Env.blockKind,he.kind,hk,ScopeKind.isAnnotationScope,Bool.false_and,aZ,if_false];unfold loadGlobal;rw[he.glob,he.bui];refine af (wpAny_nsGet h3 ?_);obtain⟨v,q,hm⟩|⟨q,v,q2,hm⟩:=FK (List.all_eq_true.mp (Pb w.params) _ (gc e))
 ·rw[v9 X h3 q]
  exact aj (k v (xb hm))
 ·rw[ns_none_of X h3 q]
  refine af (wpAny_nsGet h0 ?_);rw[v9 X h0 q2];exact aj (k v (xb hm))
end
theorem EP{Q:VP}(he:sC env)(hm:J.heap.Ns env.locals m)(dn:dP x=false)(r:dq env J.heap m x v)(k:Q v J):wpAny M A (loadName env x) Q E J:=
 r.el (λq r=>wpAny_loadName_local he.kind q hm r k) λa q e1 e2=>q.elim (λq=>wpAny_loadName_cell he.kind q e1 e2 k) λq=>wpAny_loadName_free he.kind q e1 e2 k (d7 dn (by decide+kernel))
section
theorem St.envOk(x:St c s h f bA):sC c.ev:=by
 have q:=x.comp
 split at q
 ·rw[q];exact x.fe
 ·exact q.env
theorem St.read(x:St c s J.heap f bA){o:OV}(w:cN c.cx n=.frame)(e:bD s.loc n=some o)(dn:dP n=false):∃v m F,FR c s J.heap f bA m F/\(c.cx.cs.isSome->∀x,¬F x c.ev.locals)/\dq c.fe J.heap m n v/\eD c.w J.heap f o v (F n)/\(uc o=true->∀a,c.fe.cells.lookup n=some a->f.z a)/\
  ∀{M} {A} {E:VP} {Q:VP},Q v J->wpAny M A (loadName c.ev n) Q E J:=by
 refine cC x.fr λm F q1 q2=>dI (q1.loc n o e) λv r1 r2 r3=>(MX v m F q1 q2 r1 r2 r3 (λk=>?_))
 have q:=x.comp
 split at q
 ·rw[q];exact EP x.fe q1.ns.ns dn r1 k
 ·rename_i cs dG
  have hf:=by
   unfold cN at w;rw[dG]at w;dsimp only at w
   split at w
   ·injection w
   ·rename_i z;exact z
   ·rename_i z;exact absurd z (q.cell n)
   ·injection w
   ·injection w
  refine fF (q.free n hf) λk1 k2 k3=>?_;unfold dq at r1;rw[k2]at r1;refine bW r1 λa e1 e2=>?_;obtain k1|k1:=k1
  ·exact wpAny_loadName_cell q.env.kind k1 (k3.trans e1) e2 k
  ·exact wpAny_loadName_free q.env.kind k1 (k3.trans e1) e2 k (d7 dn (by decide+kernel))
theorem dA(x)(v:Z)(y)(l):bD (dy l x v) y=if x=y then some v else bD l y:=yh x v y l
theorem iL{o:OV}:cw (dy loc n o) x=if n=x then uc o else cw loc x:=by
 unfold cw;rw[dA];by_cases e:n=x
 ·rw[aA e,aA e];obtain _|_:=o<;>rfl
 ·rw[au e,au e]
theorem FR.set{F:Str->AP}(x:FR c s h f bA m F){o:OV}(hv:dq c.fe h m n v)(r:eD c.w h f o v G)(hk:uc o=true->∀a,c.fe.cells.lookup n=some a->f.z a)(ho:∀a,bA a->¬F n a->bF a)(hG:∀a,G a->bF a/\a≠c.fe.locals/\(∀y b,c.fe.cells.lookup y=some b->a≠b)/\(∀y,y≠n->¬F y a)/\c.sb.objs.size<=a)(hs:cw s.loc n=true->uc o=true):
  FR c (s.set n o) h f bF m (λy a=>if y=n then G a else F y a):=by
 refine⟨x.ns,x.cls,(ho _ x.ownL λq=>(x.fo n _ q).2.1 rfl),λy k=>?_,x.cinj,x.cL,λy a q=>(x.ck y a q).imp_left λz=>ho a z λr=>(x.fo n a r).2.2.1 y a q rfl,λy ob e=>?_,λy a q=>?_,λy z a q1 q2=>?_,λy k=>?_⟩
 ·refine dR (x.cells y k) λa u e1 e2 e3=>(eF a u e1 e2 (λq=>ho a (e3 ?_) λz=>(x.fo n a z).2.2.1 y a e1 rfl))
  change cw (dy s.loc n o) y=false at q
  rw[iL]at q
  split at q
  ·rename_i eq;subst eq
   refine fS (cw s.loc n) (λhh=>rfl) λhh=>?_
   rw[hs hh]at q;exact tZ q
  ·exact q
 ·change bD (dy s.loc n o) y=some ob at e
  rw[dA]at e
  split at e
  ·rename_i eq;subst eq;obtain rfl:=oI e
   exact(ej v hv (by rw[show(λa=>if n=n then G a else F n a)=G from funext λa=>aA rfl];exact r) hk)
  ·rename_i ne
   refine dI (x.loc y ob e) λu r1 r2 r3=>(ej u r1 (by rw[show(λa=>if y=n then G a else F y a)=F y from funext λa=>au (Ne.symm ne)];exact r2) r3)
 ·split at q
  ·rename_i eq;subst eq
   exact(mL ((hG a q).1) ((hG a q).2.1) ((hG a q).2.2.1) (by show(bD (dy s.loc y o) y).isSome=true;rw[dA,aA rfl];rfl) ((hG a q).2.2.2.2))
  ·rename_i ne
   refine i5 (x.fo y a q) λz1 z2 z3 z4 z5=>(mL (ho a z1 λz=>ne (x.fd y n a q z)) z2 z3 ?_ z5)
   show(bD (dy s.loc n o) y).isSome=true
   rw[dA,au (Ne.symm ne)];exact z4
 ·split at q1<;>split at q2<;>rename_i e1 e2
  ·exact e1.trans e2.symm
  ·exact absurd q2 ((hG a q1).2.2.2.1 z e2)
  ·exact absurd q1 ((hG a q2).2.2.2.1 y e1)
  ·exact x.fd y z a q1 q2
 ·show cw (dy s.loc n o) y=true
  rw[iL]
  split
  ·rename_i eq;subst eq;exact hs (x.free n k)
  ·exact x.free y k
theorem FR.ext{F:Str->AP}(x:FR c s h f bA m F)(e:∀y,bD s'.loc y=bD s.loc y):FR c s' h f bA m F:=by
 have se:∀y,cw s'.loc y=cw s.loc y:=λy=>by unfold cw;rw[e y]
 exact⟨x.ns,x.cls,x.ownL,λy k=>by rw[se];exact x.cells y k,x.cinj,x.cL,x.ck,λy o q=>x.loc y o ((e y).symm.trans q),λy a q=>by rw[e y];exact x.fo y a q,x.fd,λy k=>(se y).trans (x.free y k)⟩
theorem fN(l:List (Str×Z))(x y):bD (eP l x) y=if x=y then none else bD l y:=by
 induction l with
 |nil=>by_cases q:x=y;exact(aA q).symm;exact(au q).symm
 |cons p l ih=>
  obtain⟨z,w⟩:=p;show bD (match dM z x with|true=>eP l x|false=>(z,w)::eP l x) y=_
  rcases e:dM z x with _|_
  ·rw[cO,cO,ih]
   by_cases q:z=y
   ·subst q;rw[aA rfl,aA rfl,au λq=>(iC.mp e) q.symm]
   ·rw[au q,au q]
  ·obtain rfl:=cR.mp e
   rw[cO];rw[ih];by_cases q:z=y
   ·rw[aA q,aA q]
   ·rw[au q,au q,au q]
theorem FR.drop{F:Str->AP}(x:FR c s h f bA m F)(nf:c.fe.kindOf n≠some .free)(ns:c.fe.kindOf n=some .cell->cw s.loc n=false):
  FR c {s with loc:=eP s.loc n} h f (λa=>bA a/\¬F n a) m (λy a=>y≠n/\F y a):=by
 have se:∀y,y≠n->cw _ y=cw s.loc y:=λy k=>by unfold cw;rw[fN,au (Ne.symm k)]
 refine⟨x.ns,x.cls,⟨x.ownL,λq=>(x.fo n _ q).2.1 rfl⟩,λy k=>?_,x.cinj,x.cL,λy a q=>(x.ck y a q).imp_left λz=>⟨z,λr=>(x.fo n a r).2.2.1 y a q rfl⟩,λy o q=>?_,λy a q=>?_,λy z a q1 q2=>x.fd y z a q1.2 q2.2,λy k=>?_⟩
 ·refine dR (x.cells y k) λa v e1 e2 e3=>(eF a v e1 e2 (λq=>⟨e3 ?_,λz=>(x.fo n a z).2.2.1 y a e1 rfl⟩))
  by_cases e:y=n
  ·subst e;exact ns k
  ·exact(se y e).symm.trans q
 ·change bD _ y=some o at q
  rw[fN]at q
  split at q
  ·exact c8 q
  ·rename_i ne
   refine dI (x.loc y o q) λv r1 r2 r3=>(ej v r1 ?_ r3)
   rw[show(λa=>y≠n/\F y a)=F y from funext λa=>propext ⟨λz=>z.2,λz=>⟨Ne.symm ne,z⟩⟩];exact r2
 ·refine i5 (x.fo y a q.2) λz1 z2 z3 z4 z5=>(mL ⟨z1,λz=>q.1 (x.fd y n a q.2 z)⟩ z2 z3 ?_ z5)
  rw[fN,au (Ne.symm q.1)];exact z4
 ·by_cases e:y=n
  ·subst e;exact absurd k nf
  ·exact(se y e).trans (x.free y k)
set_option tactic.hygienic true in
theorem FR.turn{m m':SV}{F:Str->AP}{h':Heap}{n:Str}{p:Addr}(x:FR c s h f bA m F)(ok:f.Ok)(fo:eI f bA)(hn:bD s.loc n=none)(hs:Heap.SameBut p h h')(hp:bA p)
  (Lk:p=c.fe.locals\/c.fe.cells.lookup n=some p) (hm:h'.Ns1 c.fe.locals m') (WN:∀y,y≠n->m' y=m y) (hL:∃o,h'.get? c.fe.locals=some o/\o.cls=.type "frame") (hc:∀a,c.fe.kindOf n=some .cell->c.fe.cells.lookup n=some a->∃v o,h'.get? a=some o/\o.cls=.type "cell"/\o.data=.cell v):FR c s h' f bA m' F:=by
 have keep:∀a,a≠p->∀o,h.get? a=some o->h'.get? a=some o:=λa ne o e=>(hs.2 a ne).trans e
 have v7:∀y a,y≠n->c.fe.cells.lookup y=some a->a≠p:=λy a ne e=>by
  obtain q|q:=Lk
  ·rw[q];exact x.cL y a e
  ·exact λz=>ne (x.cinj y n a e (z▸q) λw=>(fo p hp).1 (z▸w))
 have Uc:∀y a,F y a->a≠p:=λy a q=>by
  obtain z|z:=Lk
  ·rw[z];exact(x.fo y a q).2.1
  ·exact(x.fo y a q).2.2.1 n p z
 refine⟨hm,hL,x.ownL,λy k=>?_,x.cinj,x.cL,x.ck,λy ob e=>?_,x.fo,x.fd,x.free⟩
 ·refine dR (x.cells y k) ?_;rintro a v e1 ⟨ob,e2,e3,e4⟩ e5
  by_cases q:y=n
  ·subst q
   refine dR (hc a k e1) λv' ui r1 r2 r3=>?_;exact(eF a v' e1 (ej ui r1 r2 r3) e5)
  ·exact(eF a v e1 (ej ob (keep a (v7 y a q e1) _ e2) e3 e4) e5)
 ·have ne:y≠n:=λq=>by rw[q,hn]at e;exact c8 e
  refine dI (x.loc y ob e) λv r1 r2 r3=>?_;refine(ej v ?_ (r2.mono (λa z o e=>.inl (keep a (λq=>(fo p hp).1 (q▸z)) o e)) (λa z=>.of_keep (keep a λq=>(fo p hp).2.1 (q▸z))) (.refl f) λa z o e=>.inl (keep a (Uc y a z) o e)) r3)
  exact r1.el (λq r1=>.L q ((WN y ne).trans r1)) λa q e1 e2=>bW e2 λob e2 e3=>.C q e1 ⟨ob,keep a (v7 y a ne e1) _ e2,e3⟩
end
section
theorem vZ.agree{a:Addr}(x:h.Ns1 a m)(y:h.Ns1 a m'):m=m':=by
 refine rY x λo es ep e1 e2 Y Y e3=>rY y λo' Gy Y0 r1 r2 Y Y r3=>?_
 rw[e1]at r1;obtain rfl:=oI r1;rw[e2]at r2;(injection r2 with zz yy;subst zz yy)
 exact funext λk=>(e3 k).symm.trans (r3 k)
theorem St.re(x:St c s h f bA){F:Str->AP}(Dm:s'.ss=s.ss)(Lo:s'.dl=s.dl)(Lp:s'.cl=s.cl)(fr:FR c s' h f bF m F)(fc:c.cx.cs.isSome->∀x,¬F x c.ev.locals)(oo:∀a,bF a->ni c f a/\a<h.objs.size)(hP:bA Pt->bF Pt)(hC:c.cx.cs.isSome->bF c.ev.locals):St c s' h f bF:=by
 refine⟨by rw[Dm];exact x.wd,oo,x.frames,x.ff,x.fe,x.fsc,x.ffr,x.ofr,λl e=>?_,(cz m F fr fc),?_,x.pin⟩
 ·refine cH (x.tab l (Lo▸e)) λq r=>⟨hP q,r⟩
 ·have q:=x.comp
  generalize c.cx.cs=o at q hC⊢;obtain _|_:=o
  ·exact q
  ·exact⟨q.env,q.frame,q.loc,q.top,q.free,q.cell,by rw[Lp];exact q.ns,hC rfl,q.neL,q.neC⟩
theorem St.ownEv(x:St c s h f bA)(k:c.cx.cs.isSome):bA c.ev.locals:=by
 have q:=x.comp
 generalize c.cx.cs=o at q k;obtain _|_:=o
 ·exact dT k
 ·exact q.ownC
theorem St.ext(x:St c s h f bA)(Dm:s'.ss=s.ss)(Lo:s'.dl=s.dl)(Lp:s'.cl=s.cl)(e:∀y,bD s'.loc y=bD s.loc y):St c s' h f bA:=cC x.fr λm F q1 q2=>x.re Dm Lo Lp (q1.ext e) q2 x.oo id x.ownEv
theorem St.ptl(x:St c s h f bA):Pt<c.sb.objs.size:=by
 refine cF (Option.isSome_iff_exists.mp (by kernel_rfl:((KF c.w.params).lookup 1416).isSome=true)) λo e=>?_
 have:=aF (x.wd.base _ _ e)
 exact Nat.lt_trans (by decide) this
theorem w7{l:Option Addr}(x:∃a,l=some a/\h.IsCell a (some v))(y:∃a,l=some a/\h.IsCell a (some u)):v=u:=by
 obtain⟨a,rfl,ob,a2,a3⟩:=x;obtain⟨b,b1,ui,b2,b3⟩:=y;obtain rfl:=oI b1;obtain rfl:=oI (a2.symm.trans b2);have z:=a3.symm.trans b3;injection z with z;exact oI z
theorem dq.eq{e:Env}(x:dq e h m n v)(y:dq e h m n u):v=u:=by
 unfold dq at x y;generalize e.kindOf n=k at x y;obtain _|k:=k
 ·exact x.elim
 ·induction k using NameKind.casesOn with
  |«local»=>exact oI (x.symm.trans y)
  |cell=>exact w7 x y
  |free=>exact w7 x y
  |_=>exact x.elim
theorem St.take(x:St c s h f bA)(w:cN c.cx n=.frame)(e:bD s.loc n=some ov)(hk:uc ov=false)(dn:dP n=false):
  ∃v F,St c {s with loc:=eP s.loc n} h f (λa=>bA a/\¬F a)/\eD c.w h f ov v F/\eX c f (λa=>bA a/\¬F a) F/\(∀a,F a->bA a)/\cQ c h n v/\
   ∀{M} {A} {E:VP} {Q:VP} {J},J.heap=h->Q v J->wpAny M A (loadName c.ev n) Q E J:=by
 refine nM (St.read (J:=⟨h,#[],{},0,{}⟩) x w e dn) λv m F q1 q2 r1 r2 r3 r4=>?_;have ns:cw s.loc n=false:=by unfold cw;rw[e];obtain _|_:=ov<;>first|rfl|exact tZ hk
 have nf:c.fe.kindOf n≠some .free:=λq=>by rw[q1.free n q]at ns;exact tZ ns
 refine(xI v _ (x.re rfl rfl rfl (q1.drop nf λY=>ns) (λk y z=>q2 k y z.2) (λa q=>x.oo a q.1) (λq=>⟨q,λz=>(absurd x.ptl (Nat.not_lt.mpr (q1.fo n _ z).2.2.2.2))⟩) (λk=>⟨x.ownEv k,q2 k n⟩)) r2 (λa q=>⟨λz=>z.2 q,(x.oo a (q1.fo n a q).1).1,(q1.fo n a q).2.2.2.2⟩) (λa q=>(q1.fo n a q).1) (cf m q1.ns r1) ?_)
 ·intro M A E Q J hh k
  refine nM (St.read (hh▸x) w e dn) λv' m' F' w1 Y p1 Y Y p2=>?_;have:v'=v:=by
   subst hh;exact p1.eq (vZ.agree q1.ns w1.ns▸r1)
  exact p2 (this▸k)
theorem St.put(x:St c s h f bA)(e:bD s.loc n=none)(hv:cQ c h n v)(r:eD c.w h f ov v G)(hG:eX c f bA G)(hk:uc ov=true->∀a,c.fe.cells.lookup n=some a->f.z a):St c (s.set n ov) h f (λa=>bA a\/G a):=by
 refine cC x.fr λm F q1 q2=>bW hv λm' e1 e2=>?_
 have:=vZ.agree e1 q1.ns
 subst this;refine x.re rfl rfl rfl (q1.set e2 r hk (λa q Y=>.inl q) (λa q=>(mL (.inr q) (λz=>?_) (λy b z1 z2=>?_) (λy Y z=>?_) ((hG a q).2.2))) λz=>?_) (λk y z=>?_) (λa q=>?_) .inl λk=>.inl (x.ownEv k)
 ·exact(hG a q).1 (z▸q1.ownL)
 ·subst z2
  obtain z|z:=q1.ck y _ z1
  ·exact(hG _ q).1 z
  ·exact(hG _ q).2.1.z z
 ·exact(hG a q).1 (q1.fo y a z).1
 ·unfold cw at z;rw[e]at z;exact dT z
 ·split at z
  ·exact(hG _ z).1 (x.ownEv k)
  ·exact q2 k y z
 ·obtain q|q:=q
  ·exact x.oo a q
  ·exact⟨(hG a q).2.1,r.there a q⟩
theorem St.put'(x:St c {s with loc:=eP s.loc n} h f bA)(hv:cQ c h n v)(r:eD c.w h f ov v G)(hG:eX c f bA G)(hk:uc ov=true->∀a,c.fe.cells.lookup n=some a->f.z a):St c (s.set n ov) h f (λa=>bA a\/G a):=
 (x.put (by show bD _ n=none;rw[fN,aA rfl]) hv r hG hk).ext rfl rfl rfl λy=>by
  show bD (dy s.loc n ov) y=bD (dy (eP s.loc n) n ov) y
  rw[dA,dA,fN]
  split
  ·rfl
  ·rfl
theorem St.less(x:St c s h f bA)(ho:∀a,o a↔bA a):St c s h f o:=by
 have:=funext λa=>propext (ho a)
 rw[this];exact x
end
theorem pf(name)(hh)(qt v)(o):(Obj.putName name hh qt v o).cls=o.cls/\(Obj.putName name hh qt v o).dict=o.dict/\(Obj.putName name hh qt v o).slots=o.slots:=by
 rw[Obj.putName_eq];obtain⟨c,d,dt,sl⟩:=o;obtain _|_:=dt<;>try exact⟨rfl,rfl,rfl⟩
 unfold Obj.putNameByArray;dsimp only
 split<;>exact⟨rfl,rfl,rfl⟩
theorem gJ{s:Shared}{a:Addr}{o:Obj}(hn:s.heap.Ns1 a m)(ho:s.heap.get? a=some o)(hQ:∀h' o',h'.Ns1 a (λx=>if x=name then some v else m x)->Heap.SameBut a s.heap h'->h'.get? a=some o'->o'.cls=o.cls/\o'.dict=o.dict/\o'.slots=o.slots->Q () {s with heap:=h',toks:=s.toks+1}):wpAny M A (nsSet a name v) Q E s:=by
 refine rY (id hn) λZz es ep e1 hd hk hu hm=>?_;rw[ho]at e1;obtain rfl:=oI e1;have UO:es.any (·.refKey)=false:=by
  rw[Array.any_eq_false'];intro e he;refine iA (hk e he) λn t q=>?_;simp[DictEntry.refKey,q]
 refine af (af (wpAny_askSetting (aj ?_)));refine af (wpAny_mkText (af (wpAny_loadPart ho ?_)));rw[hd];dsimp only;rw[show aRefKeyMayBeTheName name es=false by rw[aRefKeyMayBeTheName_eq];unfold aRefKeyMayBeTheNameByArray;rw[UO,Bool.and_false]]
 refine wpAny_updatePart ho ?_;generalize hg:PyData.keyHash M.w.params name=hh;have qt:∀hh,(s.heap.update a (Obj.putName name hh (.str name s.toks) v)).Ns1 a (λx=>if x=name then some v else m x):=λhh=>by
  obtain⟨c,d,dt,sl⟩:=o;subst hd;generalize hi:es.findIdx? (·.key.isStr name)=zz;induction zz using i7 with
  |some i=>
   refine(xG _ _ ep (aX _ ho (by simp only[Obj.putName_eq,Obj.putNameByArray,hi];rfl)) (by simp only[Obj.putName_eq,Obj.putNameByArray,hi];rfl) (hk.modify _ _) (hu.modify _ _) (λx=>?_))
   show _=if x=name then some v else m x
   rw[<-hm];exact findBy_modify (λn v=>v.isStr n) Value.isStr_inj es name x v i hi
  |none=>
   refine(xG _ _ _ (aX _ ho (by simp only[Obj.putName_eq,Obj.putNameByArray,hi];rfl)) (by simp only[Obj.putName_eq,Obj.putNameByArray,hi];rfl) (hk.push _ _ _ _) (hu.push _ _ _ _ hi) (λx=>?_))
   show _=if x=name then some v else m x
   rw[<-hm];exact findBy_push (λn v=>v.isStr n) es name x _ _ v (λy=>by
    show(name==y)=decide _
    by_cases q:y=name
    ·subst q;simp
    ·have:¬name=y:=λe=>q e.symm
     simp[q,this]) hi
 exact hQ _ _ (qt _) (aI ..) (aX _ ho (by
  obtain⟨c,d,dt,sl⟩:=o;subst hd;rw[Obj.putName_eq];unfold Obj.putNameByArray;dsimp only
  split<;>rfl)) (pf ..)
theorem oB{s:Shared}{a:Addr}{o:Obj}(ho:s.heap.get? a=some o)(hd:o.data=.cell Se)(hQ:∀h',Heap.SameBut a s.heap h'->h'.get? a=some {o with data:=.cell v}->Q () {s with heap:=h'}):wpAny M A (cellSet a v) Q E s:=by
 refine af (wpAny_load ho ?_);rw[hd];exact wpAny_update ho (hQ _ (aI ..) (aX _ ho rfl))
theorem mN{s:Shared}{a:Addr}{o:Obj}(hk:env.scope.kind=.function)(hl:env.kindOf n=some .cell)(hc:env.cells.lookup n=some a)(ho:s.heap.get? a=some o)(hd:o.data=.cell Se)(hQ:∀h',Heap.SameBut a s.heap h'->h'.get? a=some {o with data:=.cell (some v)}->Q () {s with heap:=h'}):wpAny M A (storeName env n v) Q E s:=by
 unfold storeName;simp only[hl,hk];exact af (wpAny_cellOf hc (oB ho hd hQ))
section
theorem PO.of{n:Nat}{a:OV}(r:eD c.w h f a v F)(hF:eX c f bF F)(hn:∀a,F a->o a\/n<=a):PO c o n a v h f bF:=(ej F r hF hn)
theorem eD.inv_v(r:eD w h f (.v a) v F):VR w h f a v:=gp.i r.i|>.1
theorem eD.inv_k(r:eD w h f (.k a) v F):VR w h f a v:=r.i.1
theorem VR.le(r:VR w h f a v)(le:f.Le f'):VR w h f' a v:=r.mono (λa Y=>.refl h a) (λa Y=>.of_keep λY e=>e) le
theorem wt(h:cx.cs=some cs):cN cx n=(match bD cs.names n with
  |some .local=>Wh.comp|some .free=>.frame|some .cell=>.frame|some .globalImplicit=>.top|_=>.no):=by
 unfold cN;rw[h]<;>rfl
theorem wu(h:cx.cs=none):cN cx n=(match bD cx.sc.names n with
  |some .local=>Wh.frame|some .cell=>.frame|some .free=>.frame|some .globalImplicit=>.top|_=>.no):=by
 unfold cN;rw[h]<;>rfl
theorem u9(w:cN cx n=.comp):∃cs,cx.cs=some cs/\bD cs.names n=some .local:=by
 rcases h:cx.cs with _|cs
 ·rw[wu h]at w
  generalize bD cx.sc.names n=o at w;obtain _|k:=o
  ·injection w
  ·obtain _|_:=k<;>injection w
 ·rw[wt h]at w
  refine cf cs rfl ?_;generalize bD cs.names n=o at w⊢;obtain _|k:=o
  ·injection w
  ·obtain _|_:=k<;>first|rfl|injection w
theorem xP(w:cN cx n=.top):(cx.cs=none/\bD cx.sc.names n=some .globalImplicit)\/∃cs,cx.cs=some cs/\bD cs.names n=some .globalImplicit:=by
 rcases h:cx.cs with _|cs
 ·rw[wu h]at w
  refine .inl ⟨rfl,?_⟩;generalize bD cx.sc.names n=o at w⊢;obtain _|k:=o
  ·injection w
  ·obtain _|_:=k<;>first|rfl|injection w
 ·rw[wt h]at w
  refine .inr (cf cs rfl ?_);generalize bD cs.names n=o at w⊢;obtain _|k:=o
  ·injection w
  ·obtain _|_:=k<;>first|rfl|injection w
theorem qY(x:St c s J.heap f bA)(r:VR c.w J.heap f a v)(l:∀{E:VP} {Q:VP},Q v J->wA c (loadName c.ev n) Q E J):T c (PO c bA k) (.ok (.v a) s) (loadName c.ev n) bA f J:=
 l (cz f bA (.refl x) (.v r))
theorem Ex(x:St c s J.heap f bA)(w:cN c.cx n=.comp):T c (PO c bA k) (match bD s.cl n with|some a=>.ok (.v a) s|none=>.no) (loadName c.ev n) bA f J:=by
 rcases e:bD s.cl n with _|a
 ·trivial
 ·refine bW (u9 w) λcs dG hl=>?_
  have q:=x.comp
  rw[dG]at q;refine bW q.ns λm e1 e2=>bW (e2 n a e) λv e3 e4=>qY x e4 λz=>wpAny_loadName_local q.env.kind (q.loc n hl) e1.ns e3 z
theorem Jt(x:St c s J.heap f bA)(w:cN c.cx n=.frame)(dn:dP n=false){o:OV}(e:bD s.loc n=some o)(hk:uc o=false):T c (PO c bA k) (match uq o with|some a=>.ok (.v a) (s.set n (.v a))|none=>.no) (loadName c.ev n) bA f J:=by
 rcases q:uq o with _|a
 ·trivial
 ·refine iZ (x.take w e hk dn) λv F t1 t2 t3 t4 t5 t6=>xM (nX t2 t3.free x.wd.fok q) λec le ok nz ny ns r=>cH (t1.lay t3 t2.there le ok nz ny ns) λG t7=>?_
  refine t6 rfl (cz ec _ ⟨(t7.put' t5 (.fl (.v r)) (λY z=>z.elim) λz=>dT z),?_,.refl _⟩ (.v r))
  exact((Go.refl bA J.heap f).trans G λa z=>.inl (t4 a z)).less λa z=>.inr (.inl (z.elim And.left False.elim))
theorem Bu(x:St c s J.heap f bA)(w:cN c.cx n=.frame)(dn:dP n=false):T c (PO c bA k) (match bD s.loc n with
  |some (.v a)=>.ok (.v a) s
  |some (.k a)=>.ok (.v a) s
  |some o=>(match uq o with|some a=>.ok (.v a) (s.set n (.v a))|none=>.no)
  |none=>.no) (loadName c.ev n) bA f J:=by
 rcases e:bD s.loc n with _|ov
 ·trivial
 ·induction ov using rD with
  |v a=>
   refine nM (x.read w e dn) λv m F q1 q2 r1 r2 r3 r4=>qY x r2.inv_v λz=>r4 z
  |k a=>
   refine nM (x.read w e dn) λv m F q1 q2 r1 r2 r3 r4=>qY x r2.inv_k λz=>r4 z
  |_=>exact Jt x w dn e rfl
theorem GQ(x:St c s h f bA)(w:cN c.cx n=.top):c.ev.kindOf n=some .globalImplicit:=by
 have q:=x.comp
 obtain⟨dG,z⟩|⟨cs,dG,z⟩:=xP w<;>rw[dG]at q
 ·rw[q]
  unfold Env.kindOf;rw[x.fsc,<-iH];exact z
 ·exact q.top n z
theorem p8(x:St c s J.heap f bA):T c (PO c bA k) (jP c.cx n s) (loadName c.ev n) bA f J:=by
 unfold jP;rcases dn:dP n with _|_
 ·rcases w:cN c.cx n with _|_
  ·exact Ex x w
  ·exact Bu x w dn
  ·show T c _ (match bD gl n with|some a=>.ok _ s|none=>.no) _ bA f J
   rcases e:bD gl n with _|a
   ·trivial
   ·exact jg x.X x.envOk (GQ x w) e λv r=>(cz f bA (.refl x) (.v r))
  ·trivial
 ·trivial
theorem yz(x:St c s J.heap f bA):T c (PO c bA k) (jP c.cx n s) (eval (.Name n p) c.ev) bA f J:=by
 refine fS (dP n) (λdn=>?_) (λdn=>by unfold jP;rw[dn];trivial)
 exact(p8 x).tree λY Y z=>bw z (d7 dn (by decide+kernel))
theorem St.turn(x:St c s h f bA)(dG:c.cx.cs=none){F:Str->AP}{p:Addr}(fr:FR c s h' f bA m F)(hs:Heap.SameBut p h h')(hp:bA p)(np:p≠Pt\/s.dl=none)(oW:∀p∈c.pin,cQ c h' p.1 p.2):St c s h' f bA:=by
 have z:=(x.oo p hp).1
 have wd:=x.wd.at hs z.z z.y z.sn z.sb
 refine⟨wd,λa q=>⟨(x.oo a q).1,hs.1.symm▸(x.oo a q).2⟩,x.frames,x.ff.go (Go.at hs hp) λe he L q y=>(x.oo L y).1.out e he q,x.fe,x.fsc,x.ffr,x.ofr,λl e=>(x.tab_go wd (λY o e'=>.inl ((hs.2 Pt (Ne.symm (np.resolve_right λz=>c8 (z.symm.trans e)))).trans e')) id e),(cz m F fr (λk=>by rw[dG]at k;exact dT k)),?_,oW⟩
 ·have q:=x.comp
  rw[dG]at q⊢;exact q
theorem St.npt(x:St c s h f bA){p:Addr}{ob:Obj}(e:h.get? p=some ob)(hc:ob.cls≠.none)(hp:bA p):p≠Pt\/s.dl=none:=by
 refine eE s.dl (λd=>.inr rfl) λl d=>?_
 left
 intro q;obtain⟨_,_,ps,_,_,⟨_,r⟩,_⟩:=x.tab l d;rw[q,r]at e;obtain rfl:=oI e;exact hc rfl
theorem ji(hb:cn cx n s=true):cx.cs=none/\(bD cx.sc.names n=some .local\/(bD cx.sc.names n=some .cell/\cw s.loc n=false)):=by
 unfold cn at hb;generalize cx.cs=o at hb⊢;generalize dQ cx n=b at hb;obtain _|_:=o
 ·obtain _|_:=b
  ·refine⟨rfl,?_⟩
   generalize bD cx.sc.names n=o at hb⊢;obtain _|k:=o
   ·exact dT hb
   ·obtain _|_:=k<;>first|exact dT hb|exact .inl rfl|skip
    refine .inr ⟨rfl,?_⟩;unfold cw;generalize bD s.loc n=z at hb⊢;obtain _|o:=z
    ·rfl
    ·obtain _|_:=o<;>first|rfl|exact dT hb
  ·exact dT hb
 ·exact dT hb
set_option tactic.hygienic true in
theorem jU(x:St c s J.heap f bA)(oW:∀p∈c.pin,p.1≠n)(hb:cn c.cx n s=true)(r:eD c.w J.heap f ov v G)(hG:eX c f bA G)(hk:uc ov=false)(k:∀bT bF,cD c (λa=>bA a\/G a) f J (s.set n ov) f bF bT->cQ c bT.heap n v->Q () bT):wpAny M A (storeName c.ev n v) Q E J:=by
 have dG:=(ji hb).1
 have jv:c.ev=c.fe:=by
  have q:=x.comp
  rw[dG]at q;exact q
 refine cC x.fr λm F q1 q2=>?_;have Ae:c.fe.kindOf n=some .local\/(c.fe.kindOf n=some .cell/\cw s.loc n=false):=by
  unfold Env.kindOf;rw[x.fsc,<-iH];exact(ji hb).2
 have nf:c.fe.kindOf n≠some .free:=by
  obtain z|⟨z,_⟩:=Ae<;>rw[z]<;>decide
 have d:=q1.drop nf λz=>by
  obtain y|⟨_,y⟩:=Ae
  ·rw[y]at z;(injection z with zz;injection zz)
  ·exact y
 have x1:St c {s with loc:=eP s.loc n} J.heap f (λa=>bA a/\¬F n a):=x.re rfl rfl rfl d (λk y z=>q2 k y z.2) (λa q=>x.oo a q.1) (λq=>⟨q,λz=>absurd x.ptl (Nat.not_lt.mpr (q1.fo n _ z).2.2.2.2)⟩) (λk=>by rw[dG]at k;exact dT k)
 have hn:bD (eP s.loc n) n=none:=by rw[fN,aA rfl]
 have ey:∀{h':Heap} {p:Addr} {tk:Nat} {m':SV},Heap.SameBut p J.heap h'->(bA p/\¬F n p)->(p≠Pt\/s.dl=none)->FR c {s with loc:=eP s.loc n} h' f (λa=>bA a/\¬F n a) m' (λy a=>y≠n/\F y a)->dq c.fe h' m' n v->(∀q∈c.pin,cQ c h' q.1 q.2)->Q () {J with heap:=h',toks:=tk}:=by
  intro h' p tk m' hs hp np fr nm pn;have x2:=x1.turn dG fr hs hp np pn;have C2:=x1.oo p hp;have r':eD c.w h' f ov v G:=r.go (Go.at (bA:=λa=>a=p) (f:=f) hs rfl) x.wd.fok (λa q=>by subst q;exact⟨C2.1.z,C2.1.y,C2.1.sn⟩) λa q=>⟨λz=>(hG a q).1 (z▸hp.1),(hG a q).2.1.y,(hG a q).2.1.sn⟩
  have x3:=x2.put' (ov:=ov) (G:=G) (cf m' fr.ns nm) r' (λa q=>⟨λz=>(hG a q).1 z.1,(hG a q).2⟩) (λz=>by rw[hk]at z;exact dT z)
  refine k _ _ ⟨x3,(Go.at hs (.inl hp.1)).less λa q=>?_,rfl,rfl⟩ (cf m' fr.ns nm);obtain q|q:=q
  ·exact .inl (.inl q.1)
  ·exact .inl (.inr q)
 rw[jv];obtain z|⟨z,sl⟩:=Ae
 ·rw[storeName_local z (by rw[x.fe.kind];rfl)]
  refine bW q1.cls λoL e1 e2=>?_;refine gJ q1.ns e1 λh' o' rI hs rH WM=>?_;have pF:¬F n c.fe.locals:=λy=>(q1.fo n _ y).2.1 rfl
  refine ey hs ⟨q1.ownL,pF⟩ (x.npt e1 (by rw[e2];decide) q1.ownL) (d.turn x.wd.fok (λa q=>x.free a q.1) hn hs ⟨q1.ownL,pF⟩ (.inl rfl) rI (λy ne=>au ne) (cf o' rH (WM.1.trans e2)) λa k Y=>by rw[z]at k;(injection k with zz;injection zz)) ?_ ?_
  ·unfold dq;rw[z];exact aA rfl
  ·intro q hq
   refine bW (x.pin q hq) λm1 w1 w2=>?_;have:=vZ.agree w1 q1.ns;subst this;refine(cf _ rI ?_);exact w2.el (λkk w2=>.L kk ((au (oW q hq)).trans w2)) λa kk a1 a2=>.C kk a1 (a2.sameBut hs (q1.cL _ a a1))
 ·refine dR (q1.cells n z) ?_;rintro a v0 e1 ⟨ob,e2,e3,e4⟩ e5
  have pF:¬F n a:=λy=>(q1.fo n _ y).2.2.1 n a e1 rfl
  have oa:=e5 sl
  refine mN x.fe.kind z e1 e2 e4 λh' hs rH=>?_;refine bW q1.cls λoL l1 l2=>?_;have nL:c.fe.locals≠a:=Ne.symm (q1.cL n a e1);have L':=(hs.2 _ nL).trans l1;refine ey (tk:=J.toks) hs ⟨oa,pF⟩ (x.npt e2 (by rw[e3];decide) oa) (d.turn x.wd.fok (λa q=>x.free a q.1) hn hs ⟨oa,pF⟩ (.inr e1) (q1.ns.sameBut hs nL) (λY Y=>rfl) (cf oL L' l2) λb Y r=>?_) ?_ ?_
  ·rw[e1]at r;obtain rfl:=oI r
   exact(eF _ _ rH e3 rfl)
  ·unfold dq;rw[z];exact⟨a,e1,_,rH,rfl⟩
  ·intro q hq
   refine bW (x.pin q hq) λm1 w1 w2=>?_;have ne:∀b,c.fe.cells.lookup q.1=some b->b≠a:=λb hb y=>oW q hq (q1.cinj _ _ a (y▸hb) e1 (x.oo a oa).1.z)
   refine(cf m1 (w1.sameBut hs nL) ?_);exact w2.el .L λb kk a1 a2=>.C kk a1 (a2.sameBut hs (ne b a1))
theorem ju(x:St c s J.heap f bA)(oW:∀p∈c.pin,p.1≠n)(hb:cn c.cx n s=true)(r:eD c.w J.heap f ov v G)(hG:eX c f bA G)(hk:uc ov=false)(k:∀bT bF,cD c (λa=>bA a\/G a) f J (s.set n ov) f bF bT->Q () bT):wpAny M A (bindName c.ev n v) Q E J:=wpAny_bindName (jU x oW hb r hG hk λbT bF p Y=>k bT bF p)
end
structure Rm(c:Fm)(d:Nat):Prop where
 depth:c.A.depth+2*d<=980
 units:c.A.units+20*d<=9800
 hand:c.A.handled=none
theorem Rm.le(x:Rm c d')(h:d<=d'):Rm c d:=⟨aq (Nat.add_le_add_left (Nat.mul_le_mul_left _ h) _) x.depth,aq (Nat.add_le_add_left (Nat.mul_le_mul_left _ h) _) x.units,x.hand⟩
def PB(b:Bool)(v:Bool)(h:Heap)(f:Fz)(bA:AP):Prop:=v=b
def PL(c:Fm)(as:LA)(vs:LV)(h:Heap)(f:Fz)(bA:AP):Prop:=dw c.w h f as vs
structure dz(rc:f9)(d:Nat)(c:Fm):Prop where
 e:∀(e:Expr) (s:S) (bA:AP) (f:Fz) (J:Shared),St c s J.heap f bA->TO c bA J (rc.e c.cx e s) (eval e c.ev) bA f J
 b:∀(e:Expr) (s:S) (bA:AP) (f:Fz) (J:Shared),St c s J.heap f bA->T c PB (rc.b c.cx e s) (isTrue e c.ev (eval e c.ev)) bA f J
section
protected theorem dz.v (H:dz rc d c) (x:St c s J.heap f bA):T c (PV c) (vl (rc.e c.cx e s)) (eval e c.ev) bA f J:=(H.e e s bA f J x).vl
theorem T.via{Q:QT xg mO}{r:R Z}{k:β->Sem mO}(x:T c P r t bA f J)(hw:∀Q E,wA c t (λv s'=>wA c (k v) Q E s') E J->wA c t' Q E J)(y:∀a s v bT f' bF,r=.ok a s->cD c bA f J s f' bF bT->P a v bT.heap f' bF->T c Q (g a s) (k v) bF f' bT):T c Q (r.bind g) t' bA f J:=by
 induction r using iw with
 |ok a s=>
  show T c Q (g a s) _ _ _ _
  generalize e:g a s=zz;induction zz using iw with
  |ok b bK=>
   refine hw _ _ (ak x (λv bT z=>cC z λf' o' p q=>?_) λY Y z=>z.elim)
   have z:=y a s v bT f' o' rfl p q
   rw[e]at z;exact z.up p.go p.go.no p.rest
  |exc m bK=>
   refine hw _ _ (ak x (λv bT z=>cC z λf' o' p q=>?_) λY Y z=>z.elim)
   have z:=y a s v bT f' o' rfl p q
   rw[e]at z;exact z.up p.go p.go.no p.rest
  |no=>trivial
 |exc m s=>exact hw _ _ (ak x (λY Y z=>z.elim) λY Y z=>z)
 |no=>trivial
theorem T.viaO{r:R Z}{g:Z->S->R OV}{k:β->Sem Value}{t':Sem Value}(x:T c P r t bA f J)(hw:∀Q E,wpAny (Md c.w) c.A t (λv s'=>wpAny (Md c.w) c.A (k v) Q E s') E J->wpAny (Md c.w) c.A t' Q E J)(y:∀a s v bT f' bF,r=.ok a s->cD c bA f J s f' bF bT->P a v bT.heap f' bF->T c (PO c bF bT.heap.objs.size) (g a s) (k v) bF f' bT):T c (PO c bA J.heap.objs.size) (r.bind g) t' bA f J:=
 x.via hw λa s v bT f' bF e p q=>(y a s v bT f' bF e p q).mono λY Y Y Y Y z=>z.up p.go.no p.go.size
theorem oq{m:Sem Z}{g:Z->β}{Q:QS β}(z:wpAny M A (g<$>m) Q E J):wpAny M A m (λa s'=>Q (g a) s') E J:=λΓ p mZ=>by
 have:=z Γ p mZ
 rwa [Sem.wp_map]at this
theorem T.map{Q:QT xg mO}{r:R Z}{g:Z->xg}{k:β->mO}(x:T c P r t bA f J)(y:∀a s v bT f' bF,cD c bA f J s f' bF bT->P a v bT.heap f' bF->Q (g a) (k v) bT.heap f' bF):T c Q (r.bind λa s=>.ok (g a) s) (k<$>t) bA f J:=by
 induction r using iw with
 |ok a s=>exact wpAny_map (ak x (λv bT z=>cC z λf' o' p q=>(cz f' o' p (y _ _ _ _ _ _ p q))) λY Y z=>z)
 |exc m s=>exact wpAny_map (ak x (λY Y z=>z.elim) λY Y z=>z)
 |no=>trivial
theorem T.bindO{r:R Z}{g:Z->S->R OV}{k:β->Sem Value}(x:T c P r t bA f J)(y:∀a s v bT f' bF,r=.ok a s->cD c bA f J s f' bF bT->P a v bT.heap f' bF->T c (PO c bF bT.heap.objs.size) (g a s) (k v) bF f' bT):T c (PO c bA J.heap.objs.size) (r.bind g) (t>>=k) bA f J:=
 x.bindV λa s v bT f' bF e p q=>(y a s v bT f' bF e p q).mono λY Y Y Y Y z=>z.up p.go.no p.go.size
theorem Wy(x:St c s J.heap f bA)(r:VR c.w J.heap f a v):T c (PO c bA k) (cZ a s) (pure v) bA f J:=T.pure x (PO.v r)
theorem X5(x:St c s J.heap f bA):T c (PO c bA k) (cZ (.int i) s) (mkInt i) bA f J:=
 wpAny_mkInt (cz f bA ⟨x,.refl ..,rfl,rfl⟩ (.v (.int ..)))
theorem jo{n:Nat}(e:fg n=true):n<=100000:=aB e
theorem fK{n:Nat}(e:dF n=true):n<=4000:=aB e
theorem Ck{k:Const}{n:Nat}(x:St c s J.heap f bA):T c (PO c bA n) (match k with
  | .none=>cZ .none s
  | .bool b=>cZ (.bool b) s
  | .int i=>cZ (.int i) s
  | .str x=>(match fg x.cps.size,PyData.strOk x with|true,true=>cZ (.str x) s|_,_=>.no)
  |_=>.no) (constValue c.ev k) bA f J:=by
 induction k using PySem.Const.casesOn with
 |none=>exact Wy x .none
 |bool b=>exact Wy x (.bool b)
 |int i=>exact X5 x
 |str t=>
  dsimp only;refine fS (fg t.cps.size) (λq=>by trivial) λq=>fS (PyData.strOk t) (λq2=>by trivial) λq2=>wpAny_mkText (cz f bA ⟨x,.refl ..,rfl,rfl⟩ (.v (.str _ _ (jo q) q2)))
 |_=>trivial
protected theorem cD.tk (x:St c s J.heap f bA):cD c bA f J s f bA {J with toks:=tk}:=⟨x,.refl ..,rfl,rfl⟩
theorem cD.new(x:St c s J.heap f bA)(k:∀b o,J.heap.get? b=some o->h'.get? b=some o)(sz:J.heap.objs.size<=h'.objs.size):cD c bA f J s f bA {J with heap:=h',toks:=tk}:=
 ⟨x.keeps k sz,.keeps k sz,rfl,rfl⟩
theorem bZ(h:Heap)(o):∀b o',h.get? b=some o'->(h.push o).get? b=some o':=λY Y e=>aG o e
theorem de(h:Heap)(o):h.objs.size<=(h.push o).objs.size:=by rw[aS];exact bx _
theorem St.fresh1(x:St c s h f bA){a:Addr}(l:h.objs.size<=a):¬bA a/\ni c f a/\c.sb.objs.size<=a:=by
 have nl:=Nat.not_lt.mpr l
 refine⟨λq=>nl (x.oo a q).2,⟨λq=>nl (x.wd.zl a (.inl q)),λq=>nl (x.wd.zl a (.inr (.inl q))),λq=>nl (x.wd.zl a (.inr (.inr q))),.inl (aq x.wd.sbz l),λe he q=>?_⟩,aq x.wd.sbz l⟩
 obtain⟨_,L,o,_,_,q1,_,q3,_⟩:=x.ff e he;rw[q]at q1;obtain rfl:=oI q1;exact nl (aF q3)
theorem u6{t:Sem Value}{Q:VP}(z:wpAny M A t Q E J):wpAny M A (operate vs t) Q E J:=λΓ p mZ=>by
 rw[Sem.wp_operate];exact z Γ p mZ
theorem T.hold{r:R Z}(x:T c P r t bA f J):T c P r (holding vs t) bA f J:=x.tree λY Y z=>aD z
theorem T.stand{r:R Z}(x:T c P r t bA f J):T c P r (standAt p>>=λY=>t) bA f J:=x.tree λY Y z=>af (ay z)
theorem T.oper{P:QT Z Value}{r:R Z}{t:Sem Value}(x:T c P r t bA f J):T c P r (operate vs t) bA f J:=x.tree λY Y z Γ p mZ=>by
 rw[Sem.wp_operate];exact z Γ p mZ
end
section
theorem n9(r:VR c.w J.heap f a v)(q:gZ a=some b){Q:QS Bool}(k:Q b J):wpAny (Md c.w) A (truthy v) Q E J:=by
 induction r using VR.casesOn<;>first|((first|exact c8 q|obtain rfl:=oI q);done)|skip
 ·obtain rfl:=oI q;exact truthy_none k
 ·obtain rfl:=oI q;exact wpAny_truthy_bool k
theorem cY(p:cG e=true):starEach (e::l) env=(false,eval e env)::starEach l env:=by
 obtain _|_:=e<;>first|rfl|exact dT p
theorem nY(H:dz rc d c)(pos):∀l s bA f J,St c s J.heap f bA->T c (PL c) (oM rc c.cx l s) (spliced (backTo pos (starEach l c.ev))) bA f J:=by
 intro l;induction l with
 |nil=>intro s bA f J x;exact Calls.spliced_nil (cz f bA (.refl x) .nil)
 |cons e l ih=>
  intro s bA f J x;rw[Hn];refine fS (cG e) (λp=>by trivial) λp=>?_
  dsimp only;rw[cY p];refine(H.v x).via (k:=λv=>(λvs=>v::vs)<$>spliced (backTo pos (starEach l c.ev))) (λQ E z=>?_) λa bK v bJ bU bE dZ bM cj=>(ih bK bE bU bJ bM.st).map λas eS vs il ec fh eA hZ=>.cons (cj.go eA.go bM.st.wd.fok bM.st.free) hZ
  ·refine Calls.spliced_cons<|ak z (λv s' y=>oq y) λY Y y=>y
theorem St.push(x:St c s h f bA)(o):St c s (h.push o) f bA:=x.keeps (bZ h o) (de h o)
theorem vx(x:St c s J.heap f bA)(r:dw c.w J.heap f as vs)(l:as.length<=4000):TO c bA J (.ok (.ol as) s) (newList vs) bA f J:=by
 have hl:=r.length▸l
 refine wpAny_newList (cz f bA (cD.new x (bZ _ _) (de _ _)) (PO.of (.fl (.ol ⟨_,aE _ rfl⟩ (r.mono (λa Y o e=>.inl (bZ _ _ a o e)) (λa Y=>.of_keep (bZ _ _ a)) (.refl f)) l)) ?_ λa q=>.inr (aR q.symm))) (by rw[aW];lia)
 ·intro a q
  subst q;exact x.fresh1 (aC _)
theorem dw.push(r:dw c.w h f as vs)(o):dw c.w (h.push o) f as vs:=r.mono (λa Y o' e=>.inl (bZ _ _ a o' e)) (λa Y=>.of_keep (bZ _ _ a)) (.refl f)
def Fz.addz(f:Fz)(n:Addr):Fz:=⟨λb=>f.z b\/b=n,f.y,f.sn⟩
theorem rq(f:Fz)(n):f.Le (f.addz n):=⟨λY q=>.inl q,λY q=>q,λY q=>q⟩
theorem cD.newz(x:St c s J.heap f bA)(ob)(hf:ob.isFreed=false):cD c bA f J s (f.addz J.heap.objs.size) bA {J with heap:=J.heap.push ob}:=by
 have p:cD c bA f J s f bA {J with heap:=J.heap.push ob}:=cD.new x (bZ _ _) (de _ _)
 have fr:=x.fresh1 (aC _)
 refine p.lay (F:=λb=>b=J.heap.objs.size) (λa q=>q▸fr) (λa q=>?_) (λa q=>.inr (aR q.symm)) (rq f J.heap.objs.size) ⟨λb q=>?_,λb q=>?_,x.wd.fok.ys⟩ (λY q=>q) (λY q=>.inl q) λY=>.rfl
 ·show a<(J.heap.push ob).objs.size
  rw[aS,q];exact bp _
 ·exact q.elim (x.wd.fok.zy b) λz=>z▸fr.2.1.y
 ·exact q.elim (x.wd.fok.zs b) λz=>z▸fr.2.1.sn
theorem tG(x:St c s J.heap f bA)(r:dw c.w J.heap f as vs)(l:as.length<=4000):T c (PO c bA k) (.ok (.v (.tup as)) s) (newTuple vs) bA f J:=by
 have hl:=r.length▸l
 refine wpAny_newObj_type (cz _ bA (cD.newz x _ rfl) (.v (.tup (.inr rfl) ⟨_,aE _ rfl⟩ ?_ l))) (by show vs.toArray.size<=sizeLine;rw[aH,aW];lia)
 exact r.mono (λa Y o e=>.inl (bZ _ _ a o e)) (λa Y=>.of_keep (bZ _ _ a)) (rq ..)
theorem Ge(H:dz rc d c)(x:St c s J.heap f bA):TO c bA J ((oM rc c.cx l s).bind λxs s=>(match dF xs.length with|true=>.ok (.ol xs) s|false=>.no)) (eval (.List l pos) c.ev) bA f J:=(nY H pos l s bA f J x).viaO (λQ E z=>PyProof.Rows.List_ z) λas bK vs bJ bU bE dZ bM cj=>fS (dF as.length) (λq=>by trivial) λq=>vx bM.st cj (fK q)
theorem CQ(H:dz rc d c)(x:St c s J.heap f bA):TO c bA J ((oM rc c.cx l s).bind λxs s=>(match dF xs.length with|true=>cZ (.tup xs) s|false=>.no)) (eval (.Tuple l k pos) c.ev) bA f J:=(nY H pos l s bA f J x).viaO (λQ E z=>PyProof.Rows.Tuple_ z) λas bK vs bJ bU bE dZ bM cj=>fS (dF as.length) (λq=>by trivial) λq=>tG bM.st cj (fK q)
end
section
set_option backward.match.sparseCases true in
noncomputable def RK(pos:Pos)(op:BoolOp)(v:Value)(l:List (Sem Value))(t:Bool):Sem Value:=match op,t with| .And,false| .Or,true=>pure v|_,_=>boolOp pos op l
set_option backward.match.sparseCases true in
noncomputable def Zr(op:BoolOp)(l:List Expr)(env:Env)(t:Bool):Sem Bool:=match op,t with
 | .And,false=>pure false
 | .Or,true=>pure true
 |_,_=>allTrue op l env
theorem tT{op:BoolOp}{x y:Sem Value}{l:List (Sem Value)}{Q:VP}(z:wpAny M A x (λv s'=>wpAny M A (truthy v>>=RK pos op v (y::l)) Q E s') E J):wpAny M A (boolOp pos op (x::y::l)) Q E J:=by
 show wpAny M A (x>>=λv=>standAt pos>>=λY=>holding [v] _>>=RK pos op v _) Q E J
 refine af (ak z (λv s' q=>af (ay ?_)) λY Y q=>q)
 intro Γ p mZ;have:=q Γ p mZ;rw[bg]at this⊢;rw[Sem.wp_holding];exact this
theorem Fn(H:dz rc d c)(pos)(op)(l):∀e s bA f J,St c s J.heap f bA->T c (PV c) (lx rc c.cx op (e::l) s) (boolOp pos op (evalEach (e::l) c.ev)) bA f J:=by
 induction l with
 |nil=>exact λe s bA f J x=>H.v x
 |cons e' l ih=>
  refine λe s bA f J x=>(H.v x).via (k:=λv=>truthy v>>=RK pos op v (evalEach (e'::l) c.ev)) (λQ E z=>tT z) λa bK v bJ bU bE dZ bM cj=>?_
  rcases q:gZ a with _|b
  ·obtain _|_:=op<;>trivial
  ·have now:=T.pure bM.st cj
   obtain _|_:=op<;>obtain _|_:=b<;>first
    |exact now.tree λQ E z=>af (n9 cj q z)
    |exact(ih e' bK bE bU bJ bM.st).tree λQ E z=>af (n9 cj q z)
theorem yE(H:dz rc d c)(pos)(op)(l)(s)(bA)(f)(J)(x:St c s J.heap f bA):T c (PV c) (lx rc c.cx op l s) (boolOp pos op (evalEach l c.ev)) bA f J:=by
 obtain _|⟨e,l⟩:=l
 ·trivial
 ·exact Fn H pos op l e s bA f J x
theorem Dk{t:Sem Value}{n:Nat}(x:St c s J.heap f bA)(k:∀(Q:VP) (E:VP),(∀v tk,VR c.w J.heap f a v->Q v {J with toks:=tk})->wA c t Q E J):T c (PO c bA n) (cZ a s) t bA f J:=
 k _ _ λv tk r=>(cz f bA (.tk x) (.v r))
theorem CS(H:dz rc d c)(x:St c s J.heap f bA):TO c bA J ((vl (rc.e c.cx e s)).bind λa s=>(match a with| .int i=>cZ (.int (-i)) s|_=>.no)) (eval (.UnaryOp .USub e pos) c.ev) bA f J:=by
 refine(H.v x).viaO (λQ E z=>UnaryOp_ z) λa bK v bJ bU bE dZ bM cj=>?_
 clear dZ;induction a using AV.casesOn with
 |int i=>
  refine cF cj.i λt xo=>?_;subst xo;exact Dk bM.st λQ E z=>PyProof.Rows.neg_int (z _ _ (.int ..))
 |_=>trivial
theorem CU(H:dz rc d c){t a b:Expr}(x:St c s J.heap f bA):TO c bA J ((rc.b c.cx t s).bind λr s=>(match r with|true=>rc.e c.cx a s|false=>rc.e c.cx b s)) (eval (.IfExp t a b pos) c.ev) bA f J:=by
 refine(H.b t s bA f J x).viaO (k:=λv=>if v=true then eval a c.ev else eval b c.ev) (λQ E z=>IfExp_ (ak z (λv s' q=>?_) λY Y q=>q)) λr bK v bJ bU bE dZ bM cj=>?_
 ·obtain _|_:=v<;>exact q
 ·cases cj
  obtain _|_:=r
  ·exact H.e b bK bE bU bJ bM.st
  ·exact H.e a bK bE bU bJ bM.st
theorem FZ(H:dz rc d c)(x:St c s J.heap f bA):T c PB ((rc.b c.cx e s).bind λb s=>.ok (!b) s) (isTrue (.UnaryOp .Not e pos) c.ev wh) bA f J:=
 ((H.b e s bA f J x).map λb bK v bJ bU bE p q=>by cases q;exact rfl).tree λQ E z=>isTrue_not (oq z)
theorem Cc(H:dz rc d c)(op)(l):∀s bA f J,St c s J.heap f bA->T c PB (fy rc c.cx op l s) (allTrue op l c.ev) bA f J:=by
 induction l with
 |nil=>
  intro s bA f J x;obtain _|_:=op<;>exact aj (cz f bA (.refl x) rfl)
 |cons e l ih=>
  refine λs bA f J x=>T.bindV (k:=Zr op l c.ev) (H.b e s bA f J x) λr bK v bJ bU bE dZ bM cj=>?_
  clear dZ;obtain rfl:=cj;obtain _|_:=op<;>obtain _|_:=v<;>first|exact T.pure bM.st rfl|exact ih bK bE bU bJ bM.st
theorem F5(H:dz rc d c){op:BoolOp}(x:St c s J.heap f bA):T c PB (fy rc c.cx op l s) (isTrue (.BoolOp op l pos) c.ev wh) bA f J:=Cc H op l s bA f J x
theorem qp(H:dz rc d c)(x:St c s J.heap f bA)(he:isTrue e c.ev (eval e c.ev)=(do let v<-eval e c.ev;standAt e.pos;holding [v] (truthy v))):T c PB ((vl (rc.e c.cx e s)).bind λa s=>(match gZ a with|some b=>.ok b s|none=>.no)) (isTrue e c.ev (eval e c.ev)) bA f J:=(H.v x).via (λQ E z=>isTrue_plain z he) λa bK v bJ bU bE dZ bM cj=>eE (gZ a) (λq=>by trivial) λb q=>n9 cj q (cz bU bE (.refl bM.st) rfl)
end
theorem sL(e:et i=true): -(2^63)<=i/\i<2^63:=by
 cases i with
 |ofNat n=>have:=aB e;constructor<;>simp only[Int.ofNat_eq_natCast]<;>lia
 |negSucc n=>have:=aB e;constructor<;>lia
theorem om(x):∀n,(nt x n).cps=(List.replicate n x.cps).foldl (· ++ ·) #[]:=by
 intro n;induction n with
 |zero=>exact rfl
 |succ n ih=>
  have qt:∀(l:List (Array Nat)) a,l.foldl (· ++ ·) a=a++l.foldl (· ++ ·) #[]:=by
   intro l;induction l with
   |nil=>intro a;simp
   |cons b l ih=>intro a;simp only[List.foldl_cons];rw[ih _,ih (#[]++b)];simp[Array.append_assoc]
  show x.cps++(nt x n).cps=_
  rw[ih,List.replicate_succ,List.foldl_cons,qt _ (#[]++x.cps)];simp
theorem JM(x)(n:Nat):Txt.mul x (n:Int)=nt x n:=by
 unfold Txt.mul;cases n with
 |zero=>rfl
 |succ n=>
  rw[au (by lia)]
  split
  ·rename_i h
   simp only[Bool.or_eq_true,beq_iff_eq]at h;obtain h|h:=h
   ·have:n=0:=by lia
    subst this;apply Str.ext';rw[om];simp
   ·apply Str.ext'
    rw[om,(Array.eq_empty_of_size_eq_zero h)];have:∀m,(List.replicate m (#[]:Array Nat)).foldl (· ++ ·) #[]= #[]:=by
     intro m;induction m with
     |zero=>rfl
     |succ m ih=>rw[List.replicate_succ];exact ih
    exact(this _).symm
  ·apply Str.ext'
   rw[om];rfl
theorem x8(x):∀n,(nt x n).cps.size=x.cps.size*n:=by
 intro n;induction n with
 |zero=>exact rfl
 |succ n ih=>
  show(x.cps++(nt x n).cps).size=_
  rw[Array.size_append,ih,Nat.mul_succ,Nat.add_comm]
theorem Bt(vs:LV):∀n,(List.replicate n vs.toArray).foldl (λx1 x2=>x1++x2) #[]=(k7 vs n).toArray:=by
 intro n;induction n with
 |zero=>exact rfl
 |succ n ih=>
  have qt:∀(l:List (Array Value)) a,l.foldl (λx1 x2=>x1++x2) a=a++l.foldl (λx1 x2=>x1++x2) #[]:=by
   intro l;induction l with
   |nil=>intro a;simp
   |cons b l ih=>intro a;simp only[List.foldl_cons];rw[ih _,ih (#[]++b)];simp[Array.append_assoc]
  rw[List.replicate_succ,List.foldl_cons,qt,ih];show #[]++vs.toArray++(k7 vs n).toArray=(vs++k7 vs n).toArray;simp
theorem Bs(xs:List Z):∀n,(k7 xs n).length=xs.length*n:=by
 intro n;induction n with
 |zero=>exact rfl
 |succ n ih=>
  show(xs++k7 xs n).length=_
  rw[aw,ih,Nat.mul_succ,Nat.add_comm]
theorem dw.rep(r:dw w h f xs vs):∀n,dw w h f (k7 xs n) (k7 vs n)
 |0=>.nil
 |n+1=>r.append (r.rep n)
theorem Br:∀n,k7 ([]:List Z) n=[]:=by
 intro n;induction n with
 |zero=>exact rfl
 |succ n ih=>exact ih
section
theorem lF(x:St c s J.heap f bA)(r:dw c.w J.heap f as vs)(l:as.length<=4000):∃f' bF,cD c bA f J s f' bF {J with heap:=J.heap.push {cls:=.type "list",data:=.seq vs.toArray},toks:=tk}/\PO c bA J.heap.objs.size (.ol as) (.ref J.heap.objs.size) (J.heap.push {cls:=.type "list",data:=.seq vs.toArray}) f' bF:=by
 refine(cz f bA (cD.new x (bZ _ _) (de _ _)) (PO.of (.fl (.ol ⟨_,aE _ rfl⟩ (r.push _) l)) ?_ λa q=>.inr (aR q.symm)))
 intro a q;subst q;exact x.fresh1 (aC _)
theorem EM{l:Addr}{k:Int}{u:Tok}{Q:VP}(hl:fG J.heap l vs)(ZT: -(2^63:Int)<=k)(ZV:k<2^63)(hsz:vs.toArray.size*k.toNat<=2^24)(q:Q (.ref J.heap.objs.size) {J with heap:=J.heap.push {cls:=.type "list",data:=.seq (k7 vs k.toNat).toArray}}):wpAny (Md c.w) A (binaryOp .Mult (.ref l) (.int k u)) Q E J:=by
 refine cF hl λn hl=>?_;have e:(List.replicate (if vs.toArray.isEmpty=true then 0 else k.toNat) vs.toArray).foldl (λx1 x2=>x1++x2) #[]=(k7 vs k.toNat).toArray:=by
  split
  ·rename_i z
   have:vs=[]:=by simpa using z
   subst this;rw[Br];rfl
  ·exact Bt vs k.toNat
 exact wpAny_binaryOp_repeat_ref (T:="list") (U:="int") (by decide) (cf _ hl rfl) (λs'=>typeIs_int s' _ u) noFill_list_mul F.fills_int_mul F.slot_int_rmul repeat_list F.slot_int_index.lookup
  (call_meets F.slot_int_rmul (typeIs_int J _ u) F.entry_int_rmul (F.args_int_rmul_2 _ _) (int___rmul___int_list _ u l _ n)
   ⟨hl,rfl,(cf _ hl rfl),call_meets F.slot_list_mul (cf _ hl rfl) F.entry_list_mul (F.args_list_mul_2 _ _)
    (AutoListH.list___mul___list_int_3 l vs.toArray n k u (by simp[Builtin.List.listFitsIndex];lia) (by lia) (by simp[Builtin.List.listTooLong,sizeLine];simp at hsz;lia))
    ⟨hl,by rw[e];exact q⟩⟩)
theorem gK{a b:Str}(x:PyData.strOk a=true)(y:PyData.strOk b=true):PyData.strOk (a++b)=true:=by
 unfold PyData.strOk at*;rw[Str.cps_append,Array.all_append,x,y];rfl
theorem xV{a:Str}(x:PyData.strOk a=true):∀n,PyData.strOk (nt a n)=true:=by
 intro n;induction n with
 |zero=>show PyData.strOk ⟨#[]⟩=true;unfold PyData.strOk;simp
 |succ n ih=>exact gK x (ih)
theorem FV(x:St c s J.heap f bA){j:Int}{t u:Tok}:TO c bA J (match et j with|true=>cZ (.int (i*j)) s|false=>(match et i with|true=>cZ (.int (i*j)) s|false=>.no)) (binaryOp .Mult (.int i t) (.int j u)) bA f J:=by
 have qt:(et i=true\/et j=true)->IntMulOk i j:=λq=>by
  obtain q|q:=q
  ·have:=sL q;exact .of_left (intBits_le_64 (by lia) (by lia))
  ·have:=sL q;exact .of_right (intBits_le_64 (by lia) (by lia))
 refine fS (et j) (λq=>?_) (λq=>Dk x λQ E z=>PyProof.Rows.mul_int (z _ _ (.int ..)) (qt (.inr q)))
 refine fS (et i) (λq=>?_) (λq=>Dk x λQ E z=>PyProof.Rows.mul_int (z _ _ (.int ..)) (qt (.inl q)))
 trivial
theorem FW(x:St c s J.heap f bA){n:Nat}{t u:Tok}:TO c bA J (match Nat.blt n 1000000 with|true=>cZ (.int (Int.fdiv i (.ofNat (n+1)))) s|false=>.no) (binaryOp .FloorDiv (.int i t) (.int (.ofNat (n+1)) u)) bA f J:=by
 refine fS (Nat.blt n 1000000) (λq=>by trivial) λq=>?_
 have q:=aB q
 exact Dk x λQ E z=>PyProof.Rows.floordiv_int (by intro y;(injection y with zz;injection zz)) (z _ _ (.int ..)) (.inl (PyProof.noPylong_small (by show n+1<_;lia)))
theorem CG(x:St c s J.heap f bA){t u:Tok}(o1:PyData.strOk y=true)(o2:PyData.strOk z=true):TO c bA J (match fg (y.cps.size+z.cps.size)with|true=>cZ (.str (y++z)) s|false=>.no) (binaryOp .Add (.str y t) (.str z u)) bA f J:=by
 refine fS (fg _) (λq=>by trivial) λq=>?_
 have q:=jo q
 refine Dk x λQ E k=>PyProof.Rows.add_str (λt' tk=>k _ _ (.str _ _ ?_ (gK o1 o2))) (by rw[aW];show y.cps.size+z.cps.size<=_;lia)
 rw[Str.cps_append,Array.size_append];exact q
theorem CE(x:St c s J.heap f bA){n:Nat}{t u:Tok}(o1:PyData.strOk y=true):TO c bA J (match fg n,fg (y.cps.size*n)with|true,true=>cZ (.str (nt y n)) s|_,_=>.no) (binaryOp .Mult (.str y t) (.int (.ofNat n) u)) bA f J:=by
 refine fS (fg n) (λq0=>by trivial) λq0=>fS (fg _) (λq=>by trivial) λq=>?_
 have q:=jo q
 have q0:=jo q0
 refine Dk x λQ E z=>SB.mul (n:=n) ⟨?_,λh1 Y=>?_,λY Y=>?_⟩ λt' tk=>?_
 ·rw[bl (by lia),bl (by lia)];rfl
 ·intro h2
  have h3:=(Int.ediv_lt_iff_lt_mul (by lia:0<(n:Int))).mp h2
  have h4:y.length*(n:Int)<=100000:=by
   have:((y.cps.size*n:Nat):Int)<=100000:=by lia
   rw[Int.natCast_mul]at this;exact this
  lia
 ·show Builtin.Str.tooLong (y.cps.size*n)=false
  exact bl (by rw[aW];lia)
 ·rw[JM]
  exact z _ _ (.str _ _ (by rw[x8];exact q) (xV o1 _))
theorem VR.inv_lst(r:VR w h f (.lst xs) v):wo w h f fG xs v:=r.i
theorem CH(x:St c s J.heap f bA)(ra:VR c.w J.heap f (.lst xs) v)(rb:VR c.w J.heap f (.lst ys) u):TO c bA J (match dF (xs.length+ys.length)with|true=>.ok (.ol (xs++ys)) s|false=>.no) (binaryOp .Add v u) bA f J:=by
 refine fS (dF _) (λq=>by trivial) λq=>?_
 obtain⟨a1,v1,rfl,z1,⟨k1,l1⟩,r1,n1⟩:=ra.inv_lst;obtain⟨a2,v2,rfl,z2,⟨k2,l2⟩,r2,n2⟩:=rb.inv_lst;have q:=fK q;have e1:=r1.length;have e2:=r2.length;refine P.add_list l1 l2 ?_ (by rw[aH,aH,aW];lia)
 rw[List.append_toArray];exact lF x (r1.append r2) (by rw[aw];exact q)
theorem CF(x:St c s J.heap f bA){n:Nat}{u:Tok}(ra:VR c.w J.heap f (.lst xs) v):TO c bA J (match dF n,dF (xs.length*n)with|true,true=>.ok (.ol (k7 xs n)) s|_,_=>.no) (binaryOp .Mult v (.int (.ofNat n) u)) bA f J:=by
 refine fS (dF n) (λq0=>by trivial) λq0=>fS (dF _) (λq=>by trivial) λq=>?_
 have q:=fK q
 have q0:=fK q0
 obtain⟨a1,v1,rfl,z1,l1,r1,n1⟩:=ra.inv_lst;refine EM l1 (by lia) (by lia) (by rw[aH,<-r1.length];show _*n<=_;lia)<|lF x (r1.rep n) (by rw[Bs];exact q)
set_option tactic.hygienic true in
theorem CB(x:St c s J.heap f bA){b:AV}(ra:VR c.w J.heap f a v)(rb:VR c.w J.heap f b u)(op:Operator):TO c bA J (kl op a b s) (binaryOp op v u) bA f J:=by
 obtain _|_:=op<;>try trivial
 all_goals obtain _|_:=a<;>try trivial
 all_goals obtain _|_:=b<;>try trivial
 ·refine cF ra.i ?_;rintro _ rfl;refine cF rb.i ?_;rintro _ rfl;exact Dk x λQ E z=>PyProof.Rows.add_int (z _ _ (.int ..))
 ·refine bW ra.i ?_;rintro _ rfl o1;refine bW rb.i ?_;rintro _ rfl o2;exact CG x o1.2 o2.2
 ·exact CH x ra rb
 ·refine cF ra.i ?_;rintro _ rfl;refine cF rb.i ?_;rintro _ rfl;exact Dk x λQ E z=>PyProof.Rows.sub_int (z _ _ (.int ..))
 ·refine cF ra.i ?_;rintro _ rfl;refine cF rb.i ?_;rintro _ rfl;exact FV x
 ·rename_i i;obtain _|_:=i
  ·refine bW ra.i ?_;rintro _ rfl o1;refine cF rb.i ?_;rintro _ rfl;exact CE x o1.2
  ·trivial
 ·rename_i i;obtain _|_:=i
  ·refine cF rb.i ?_;rintro _ rfl;exact CF x ra
  ·trivial
 ·rename_i i;obtain _|_:=i
  ·rename_i n;obtain _|_:=n
   ·trivial
   ·refine cF ra.i ?_;rintro _ rfl;refine cF rb.i ?_;rintro _ rfl;exact Dk x λQ E z=>PyProof.Rows.mod_int (λy=>nomatch y) (z _ _ (.int ..))
  ·trivial
 ·rename_i i;obtain _|_:=i
  ·rename_i n;obtain _|_:=n
   ·trivial
   ·refine cF ra.i ?_;rintro _ rfl;refine cF rb.i ?_;rintro _ rfl;exact FW x
  ·trivial
theorem CW(H:dz rc d c){l r:Expr}{op:Operator}(x:St c s J.heap f bA):TO c bA J ((vl (rc.e c.cx l s)).bind λa s=>(vl (rc.e c.cx r s)).bind λb s=>kl op a b s) (eval (.BinOp l op r pos) c.ev) bA f J:=(H.v x).bindO λa bK v bJ bU bE dZ bM cj=>(H.v bM.st).hold.bindO λb eS u il ec fh zH eA hZ=>(CB eA.st (cj.go eA.go bM.st.wd.fok bM.st.free) hZ op).oper.stand
end
section
open PySem.MeetsSeq PySem.SeqRoads2
theorem Kb(x y):dM x y=(x==y):=by
 refine fS (dM x y) (λq=>?_) (λq=>by rw[cR.mp q];simp)
 exact(beq_eq_false_iff_ne.mpr (iC.mp q)).symm
mutual
theorem AY(a b:PyData):xn a b=PyData.eqv a b:=by
 obtain _|_:=a<;>obtain _|_:=b<;>first|rfl|exact wW _ _|exact Wa _ _|exact Kb _ _
theorem wW:∀(a b:List PyData),rR a b=PyData.eqvAll a b
 |[],[]=>rfl
 |a::x,b::y=>by
  show(match xn a b with|true=>rR x y|false=>false)=(PyData.eqv a b&&PyData.eqvAll x y)
  rw[AY a b];cases PyData.eqv a b
  ·rfl
  ·exact wW x y
 |[],_::_=>rfl
 |_::_,[]=>rfl
end
section
def Rd(h:Heap)(v:Value)(p:PyData)(n:Nat):Prop:=(∃as,Reads h v p as)/\p.canLay0=true/\p.depth<=n
def W9(h:Heap)(v:LV)(p:List PyData)(n:Nat):Prop:=(∃as,ReadsAll h v p as)/\PyData.canLayAll0 p=true/\PyData.depthAll p<=n
theorem Be{n:Nat}{p:List PyData}(e:gD n []=some p):p=[]:=by obtain _|_:=n<;>exact(aJ e).symm
theorem xT{n:Nat}{l:LA}{p:List PyData}(e:gD n (a::l)=some p):∃x ps,i6 n a=some x/\gD n l=some ps/\p=x::ps:=by
 have e:(match i6 n a with|some x=>(match gD n l with|some r=>some _|none=>none)|none=>none)=some p:=e
 generalize i6 n a=o at e;generalize gD n l=q at e;obtain _|x:=o
 ·exact c8 e
 obtain _|y:=q
 ·exact c8 e
 exact eF x y rfl rfl (oI e).symm
theorem CJ{b:AV}{t:Bool}(e:eK a b=some t):∃x y,i6 4 a=some x/\i6 4 b=some y/\t=xn x y:=by
 unfold eK at e;generalize i6 4 a=o at e;generalize i6 4 b=q at e;obtain _|x:=o
 ·exact c8 e
 obtain _|y:=q
 ·exact c8 e
 exact eF x y rfl rfl (oI e).symm
theorem qU{n:Nat}(P:∀{a v p},VR w h f a v->i6 n a=some p->Rd h v p n){l:LA}:∀{vs:LV} {p},dw w h f l vs->gD n l=some p->W9 h vs p n:=by
 induction l with
 |nil=>intro vs p r e;rw[r.inv_nil,Be e];exact⟨⟨_,.nil⟩,rfl,bb _⟩
 |cons a l ih=>
  intro vs p r e;obtain⟨v,us,rfl,k,r2⟩:=r.inv_cons;refine dR (xT e) ?_;rintro x ps e1 e2 rfl;refine fF (P k e1) ?_;rintro⟨as,r1⟩ q2 q3;refine fF (ih r2 e2) ?_;rintro⟨bs,s1⟩ s2 s3;exact⟨⟨_,.cons r1 s1⟩,by show(_&&_)=true;rw[q2,s2];rfl,Nat.max_le.mpr ⟨q3,s3⟩⟩
theorem qV{n:Nat}{g:List PyData->PyData}{p:PyData}(e:(match gD n xs with|some l=>some (g l)|none=>none)=some p):∃ps,gD n xs=some ps/\p=g ps:=by
 refine eE (gD n xs) (λq=>by rw[q]at e;exact c8 e) λps q=>?_
 rw[q]at e;exact(cf ps rfl ((aJ e).symm))
noncomputable def O8:AV->Bool
 | .none=>true
 | .bool _=>true
 | .int _=>true
 | .str _=>true
 | .lst _=>true
 | .tup _=>true
 |_=>false
theorem wC{n:Nat}{p:PyData}(e:i6 n a=some p):O8 a=true:=by
 obtain _|_:=n<;>(obtain _|_:=a<;>first|rfl|exact c8 e)
theorem sH{n:Nat}:i6 n .none=some .none:=by obtain _|_:=n<;>rfl
theorem sI{n:Nat}:i6 n (.bool b)=some (.bool b):=by obtain _|_:=n<;>rfl
theorem wB{n:Nat}{b:Int}:i6 n (.int b)=some (.int b):=by obtain _|_:=n<;>rfl
theorem wz{n:Nat}{b:Str}:i6 n (.str b)=some (.str b):=by obtain _|_:=n<;>rfl
theorem lB{n:Nat}{p:PyData}(r:VR w h f a v)(e:i6 n a=some p):Rd h v p n:=by
 induction n generalizing a v p with
 |zero=>
  have d:=wC e
  induction a using AV.casesOn with
  |none=>rw[show v=_ from r.i,<-oI (sH.symm.trans e)];exact⟨⟨_,.none⟩,rfl,bb _⟩
  |bool b=>rw[show v=_ from r.i,<-oI (sI.symm.trans e)];exact⟨⟨_,.bool _⟩,rfl,bb _⟩
  |int b=>refine cF r.i ?_;rintro t rfl;rw[<-oI (wB.symm.trans e)];exact⟨⟨_,.int _ _⟩,rfl,bb _⟩
  |str b=>refine bW r.i ?_;rintro t rfl o;rw[<-oI (wz.symm.trans e)];exact⟨⟨_,.str _ _⟩,o.2,bb _⟩
  |lst=>exact c8 e
  |tup=>exact c8 e
  |_=>exact dT d
 |succ n ih=>
  have d:=wC e
  induction a using AV.casesOn with
  |none=>rw[show v=_ from r.i,<-oI (sH.symm.trans e)];exact⟨⟨_,.none⟩,rfl,bb _⟩
  |bool b=>rw[show v=_ from r.i,<-oI (sI.symm.trans e)];exact⟨⟨_,.bool _⟩,rfl,bb _⟩
  |int b=>refine cF r.i ?_;rintro t rfl;rw[<-oI (wB.symm.trans e)];exact⟨⟨_,.int _ _⟩,rfl,bb _⟩
  |str b=>refine bW r.i ?_;rintro t rfl o;rw[<-oI (wz.symm.trans e)];exact⟨⟨_,.str _ _⟩,o.2,bb _⟩
  |lst xs=>
   obtain⟨a,vs,rfl,z,⟨m,l⟩,k2,k⟩:=r.i;refine bW (qV e) ?_;rintro ps q rfl;refine fF (qU ih k2 q) ?_;rintro⟨as,r1⟩ r2 r3;exact⟨⟨_,.list l rfl rfl r1⟩,r2,Nat.succ_le_succ r3⟩
  |tup xs=>
   obtain⟨a,vs,rfl,z,⟨m,l⟩,k2,k⟩:=r.i;refine bW (qV e) ?_;rintro ps q rfl;refine fF (qU ih k2 q) ?_;rintro⟨as,r1⟩ r2 r3;exact⟨⟨_,.tuple l rfl rfl r1⟩,r2,Nat.succ_le_succ r3⟩
  |_=>exact dT d
theorem vd{n:Nat}{a:LA}{v:LV}{p:List PyData}(r:dw w h f a v)(e:gD n a=some p):W9 h v p n:=qU (λr e=>lB r e) r e
end
section
theorem qe{b:AV}{t:Bool}(ra:∀p,i6 4 a=some p->(∃as,Reads J.heap v p as)/\p.canLay0=true/\p.depth<=4)(rb:VR c.w J.heap f b u)(e:eK a b=some t)(hu:A.units+64<cLine){Q:VP}:
  (Q (.bool t) J->wpAny (Md c.w) A (compareOp .Eq v u) Q E J)/\(Q (.bool (!t)) J->wpAny (Md c.w) A (compareOp .NotEq v u) Q E J):=by
 refine dR (CJ e) ?_;rintro x y q1 q2 rfl;refine fF (ra _ q1) ?_;rintro⟨as,r1⟩ r2 r3;refine fF (lB rb q2) ?_;rintro⟨bs,s1⟩ s2 s3;have cy:A.units+min x.depth y.depth<cLine:=Nat.lt_of_le_of_lt (Nat.add_le_add_left (aq (Nat.min_le_left _ _) (aq r3 (by decide:4<=64))) _) hu
 rw[AY];exact⟨λk=>SeqAt.compareEq_reads r1 s1 r2 s2 cy k,λk=>SeqAt.compareNe_reads r1 s1 r2 s2 cy k⟩
theorem vf{l:LA}{a:Addr}(x:fG h a vs)(r:dw c.w h f l vs):∀p,i6 4 (.lst l)=some p->(∃as,Reads h (.ref a) p as)/\p.canLay0=true/\p.depth<=4:=λp e=>by
 refine bW (qV e) ?_;rintro ps q rfl;refine fF (vd r q) ?_;rintro⟨as,r1⟩ r2 r3;refine cF x λm x=>⟨⟨_,.list x rfl rfl r1⟩,r2,Nat.succ_le_succ r3⟩
theorem AZ{b:AV}{t:Bool}(ra:VR c.w J.heap f a v)(rb:VR c.w J.heap f b u)(e:eK a b=some t)(hu:A.units+64<cLine){Q:VP}:
  (Q (.bool t) J->wpAny (Md c.w) A (compareOp .Eq v u) Q E J)/\(Q (.bool (!t)) J->wpAny (Md c.w) A (compareOp .NotEq v u) Q E J):=qe (λp q=>lB ra q) rb e hu
set_option tactic.hygienic true in
theorem Po{b:AV}{t:Bool}(ra:VR c.w J.heap f a v)(rb:VR c.w J.heap f b u)(e:DU a b=some t)(hu:A.units+64<cLine){Q:VP}(k:Q (.bool t) J):wpAny (Md c.w) A (compareOp .Eq v u) Q E J:=by
 have k1:eK a b=some t->wpAny (Md c.w) A (compareOp .Eq v u) Q E J:=λe=>(AZ (Q:=Q) ra rb e hu).1 k
 obtain _|_:=a<;>try exact k1 e
 rename_i xs
 obtain _|_:=b<;>try exact k1 e
 rename_i ys
 have e:(match Nat.beq xs.length ys.length with|true=>eK (.lst xs) (.lst ys)|false=>some false)=some t:=e
 generalize q:Nat.beq xs.length ys.length=zz at e;induction zz using i8 with
 |true=>exact k1 e
 |false=>
  obtain rfl:=oI e;obtain⟨a1,v1,rfl,z1,⟨k1,l1⟩,r1,n1⟩:=ra.inv_lst;obtain⟨a2,v2,rfl,z2,⟨k2,l2⟩,r2,n2⟩:=rb.inv_lst;refine P.eq_list_lengths l1 l2 ?_ (Nat.lt_of_le_of_lt (Nat.le_add_right _ _) hu) k;have:=Nat.ne_of_beq_eq_false q;rw[aH,aH,<-r1.length,<-r2.length];exact bne_iff_ne.mpr this
theorem Hf{l:LA}:uo x (.str y::l)=(match uo x l with|some b=>(match dM y x with|true=>some true|false=>some b)|none=>none):=rfl
theorem uQ{t:Tok}:∀{l:LA} {vs:LV} {b},dw c.w J.heap f l vs->uo x l=some b->∃e,(∀y,y∈vs.toArray->EqGives y (.str x t) (e y))/\vs.toArray.any e=b:=by
 have qt:∀{l} {vs} {b},dw c.w J.heap f l vs->uo x l=some b->(∀y∈vs,∃z u,y=.str z u)/\vs.any (λy=>match y with| .str z _=>z.cps.toList==x.cps.toList|_=>false)=b:=by
  intro l;induction l with
  |nil=>intro vs b r e;rw[r.inv_nil,<-aJ e];exact⟨(λY h=>nomatch h),rfl⟩
  |cons a l ih=>
   intro vs b r e;obtain⟨v,us,rfl,k,rs⟩:=r.inv_cons;induction a using AV.casesOn with
   |str y=>
    refine bW k.i ?_;rintro u rfl _;rw[Hf]at e;refine eE (uo x l) (λq=>by rw[q]at e;exact c8 e) λb' q=>?_
    rw[q]at e;refine cH (ih rs q) λh1 h2=>⟨λz hz=>?_,?_⟩
    ·obtain rfl|hz:=List.mem_cons.mp hz
     ·exact(iY _ _ rfl)
     ·exact h1 z hz
    ·rw[List.any_cons,h2]
     generalize q2:dM y x=zz;induction zz using i8 with
     |true=>
      rw[q2]at e;rw[<-oI e,cR.mp q2];show(x.cps.toList==x.cps.toList||b')=true;rw[beq_self_eq_true];rfl
     |false=>
      rw[q2]at e;rw[<-aJ e];have:(y.cps.toList==x.cps.toList)=false:=by
       refine beq_eq_false_iff_ne.mpr λz=>iC.mp q2 ?_
       obtain⟨⟨y⟩⟩:=y;obtain⟨⟨x⟩⟩:=x;exact aN (λl=>Str.mk ⟨l⟩) z
      show((y.cps.toList==x.cps.toList)||b')=b'
      rw[this];rfl
   |_=>exact c8 e
 refine λl vs b r e=>cH (qt r e) λh1 h2=>(cf (λy=>match y with| .str z _=>z.cps.toList==x.cps.toList|_=>false) (λy hy=>?_) ?_)
 ·refine iA (h1 y (List.mem_toArray.mp hy)) ?_;rintro z u rfl
  exact EqGives.str z x u t
 ·rw[List.any_toArray];exact h2
theorem kF(r:ix c.w J.heap f false es m)(hn:∀k,bD es k=none->m k=none)(x):(m x).isSome=(bD es x).isSome:=by
 refine eE (bD es x) (λq=>by rw[hn x q];rfl) λa q=>bW (r.get q) λv e Y=>?_;rw[e];rfl
theorem jm{m:Sem Z}{g:Z->β}{Q:QS β}(z:wpAny M A (m>>=λx=>pure (g x)) Q E J):wpAny M A m (λa s'=>Q (g a) s') E J:=λΓ p mZ=>by
 have:=z Γ p mZ
 rw[bg]at this;exact this
theorem mi{t:Bool}(z:∀Q:VP,Q (.bool t) bT->wpAny (Md c.w) A (compareOp .In v u) Q E J){Q:VP}(k:Q (.bool (!t)) bT):wpAny (Md c.w) A (compareOp .NotIn v u) Q E J:=by
 have y:=z (λw s'=>∀b,w=.bool b->Q (.bool (!b)) s') (λb e=>by(injection e with zz;subst zz);exact k)
 exact af (ak (jm y) (λb s' q=>aj (q b rfl)) λY Y q=>q)
theorem Ad{g:Int->Int->Bool}{b:AV}{t:Bool}(e:(match a,b with| .int i,.int j=>some (g i j)|_,_=>none)=some t):∃i j,a=.int i/\b=.int j:=by
 obtain _|_:=a<;>first|exact c8 e|(obtain _|_:=b<;>first|exact c8 e|exact(cz _ _ rfl rfl))
theorem Kk{b:AV}{t:Bool}(h:op=.Lt\/op=.Gt\/op=.GtE)(e:qw op a b=some t):∃i j,a=.int i/\b=.int j:=by
 obtain rfl|rfl|rfl:=h
 ·exact Ad e
 ·exact Ad e
 ·exact Ad e
theorem ta{b:AV}{t:Bool}:(qw .Is a b=some t->b=.none)/\(qw .IsNot a b=some t->b=.none):=by
 obtain _|_:=b<;>first|exact⟨λY=>rfl,λY=>rfl⟩|exact⟨λe=>c8 e,λe=>c8 e⟩
theorem AO{t:Bool}(r:VR w h f a v):(qw .Is a .none=some t->(v==.none)=t)/\(qw .IsNot a .none=some t->(v==.none)= !t):=by
 induction r using VR.casesOn<;>first|exact⟨aJ,λe=>by rw[<-aJ e];rfl⟩|exact⟨λe=>c8 e,λe=>c8 e⟩
theorem Kj{b:AV}{t:Bool}(e:qw .In a b=some t):∃x,a=.str x/\((∃l,b=.lst l/\uo x l=some t)\/(∃l,b=.tup l/\uo x l=some t)\/∃es,b=.dct es/\(bD es x).isSome=t):=by
 obtain _|_:=a<;>first|exact c8 e|skip
 obtain _|_:=b<;>first|exact c8 e|exact(cf _ rfl (.inl (cf _ rfl e)))|exact(cf _ rfl (.inr (.inl (cf _ rfl e))))|exact(cf _ rfl (.inr (.inr (cf _ rfl (aJ e)))))
theorem yN{b:AV}{t:Bool}(e:qw .NotIn a b=some t):∃x,a=.str x/\((∃l,b=.lst l/\(uo x l).map not=some t)\/∃es,b=.dct es/\(!(bD es x).isSome)=t):=by
 obtain _|_:=a<;>first|exact c8 e|skip
 obtain _|_:=b<;>first|exact c8 e|exact(cf _ rfl (.inl (cf _ rfl e)))|exact(cf _ rfl (.inr (cf _ rfl (aJ e))))
theorem Ki{b:AV}{t:Bool}(ra:VR c.w J.heap f a v)(rb:VR c.w J.heap f b u)(e:qw op a b=some t)(hu:A.units+64<cLine){Q:VP}(k:∀tk,Q (.bool t) {J with toks:=tk}):wpAny (Md c.w) A (compareOp op v u) Q E J:=by
 have k0:Q _ J:=k J.toks
 have ii:(op=.Lt\/op=.Gt\/op=.GtE)->∃i j x y,a=.int i/\b=.int j/\v=.int i x/\u=.int j y:=λh=>by
  obtain⟨i,j,rfl,rfl⟩:=Kk h e;obtain⟨x,hx⟩:=ra.i;obtain⟨y,hy⟩:=rb.i;exact(IS i j x y rfl rfl hx hy)
 obtain _|_:=op
 ·exact Po ra rb e hu k0
 ·refine eE (eK a b) (λq=>by rw[show qw .NotEq a b=(eK a b).map not from rfl,q]at e;exact c8 e) λt' q=>?_
  rw[show qw .NotEq a b=(eK a b).map not from rfl,q]at e
  rw[<-aJ e]at k0;exact(AZ ra rb q hu).2 k0
 ·obtain⟨i,j,x,y,rfl,rfl,rfl,rfl⟩:=ii (.inl rfl)
  rw[<-aJ e]at k0;exact PyProof.Rows.lt_int k0
 ·exact c8 e
 ·obtain⟨i,j,x,y,rfl,rfl,rfl,rfl⟩:=ii (.inr (.inl rfl))
  rw[<-aJ e]at k0;exact PyProof.Rows.gt_int k0
 ·obtain⟨i,j,x,y,rfl,rfl,rfl,rfl⟩:=ii (.inr (.inr rfl))
  rw[<-aJ e]at k0;exact PyProof.Rows.ge_int k0
 ·obtain rfl:=ta.1 e
  obtain rfl:=rb.i;refine is_none ?_;rw[(AO ra).1 e];exact k0
 ·obtain rfl:=ta.2 e
  obtain rfl:=rb.i;refine isNot_none ?_;rw[(AO ra).2 e,Bool.not_not];exact k0
 ·obtain⟨x,rfl,h⟩:=Kj e
  obtain⟨tk,rfl,_⟩:=ra.i;obtain⟨l,rfl,e2⟩|⟨l,rfl,e2⟩|⟨es,rfl,e2⟩:=h
  ·obtain⟨a1,v1,rfl,z1,l1,r1,n1⟩:=rb.inv_lst
   obtain⟨g,g1,g2⟩:=uQ r1 e2;exact PySem.SeqInW.in_listW g g1 l1.list (g2▸k0)
  ·obtain⟨a1,v1,rfl,z1,⟨m,l1⟩,r1,n1⟩:=rb.i
   obtain⟨g,g1,g2⟩:=uQ r1 e2;exact PySem.SeqRoads2.in_tuple g g1 l1 (g2▸k0)
  ·obtain⟨a1,m,rfl,z,ne,hm,r,hn⟩:=rb.i
   exact wpAny_in_of (strKind_is _ _ _ _) (by simpa using ne) hm (by rw[kF r hn,e2];exact k _)
 ·obtain⟨x,rfl,h⟩:=yN e
  obtain⟨tk,rfl,_⟩:=ra.i;obtain⟨l,rfl,e2⟩|⟨es,rfl,e2⟩:=h
  ·obtain⟨a1,v1,rfl,z1,l1,r1,n1⟩:=rb.inv_lst
   refine eE (uo x l) (λq=>by rw[q]at e2;exact c8 e2) λb q=>?_
   rw[q]at e2;rw[<-aJ e2]at k0;obtain⟨g,g1,g2⟩:=uQ r1 q;exact PySem.SeqInW.notIn_listW g g1 l1.list (g2▸k0)
  ·obtain⟨a1,m,rfl,z,ne,hm,r,hn⟩:=rb.i
   refine mi (λQ z=>wpAny_in_of (strKind_is _ _ _ _) (by simpa using ne) hm z) ?_
   rw[kF r hn,e2];exact k _
end
end
def MC(P:Params)(C:Addr):Bool:=findIn (KF P) (.ref C) "__getattribute__"==some (some (.builtin "object.__getattribute__"))&&findIn (KF P) (.ref C) "__getattr__"==some none&&
 findIn (KF P) (.ref C) "__setattr__"==some (some (.builtin "object.__setattr__"))&&plainOver (KF P) C&&(clsIn (KF P) C).any (·.hasDict)&&makesIn (KF P) C
def Vi(P:Params)(C:Addr)(n:Str):Bool:=findIn (KF P) (.ref C) n==some none
theorem FN(P):([jE,gG,o6,jd,nI,o7,qH,dD].all λC=>MC P C)=true:=by kernel_rfl
theorem FO(P):(jF.all λp=>p.2.all λn=>Vi P p.1 n)=true:=by kernel_rfl
theorem yj(x:h.Ns d m):∃od,h.get? d=some od/\∀n,lookIn n od=some (m n):=by
 refine uH x λod es ep e hd hk hf=>(cf od e (λn=>?_))
 unfold lookIn;rw[hd];dsimp only;rw[<-hf n];unfold nsFind findBy;rw[<-Array.find?_toList];generalize q:es.toList.find? (λe=>e.key.isStr n)=zz;induction zz using i7 with
 |some en=>rfl
 |none=>
  have:es.toList.any (·.refKey)=false:=by
   rw[List.any_eq_false];refine λen he=>iA (hk en (Array.mem_toList_iff.mp he)) λk t z=>?_
   simp[DictEntry.refKey,z]
  rw[this];rfl
structure pQ(P:Params)(C:Addr):Prop where
 ga:findIn (KF P) (.ref C) "__getattribute__"=some (some (.builtin "object.__getattribute__"))
 gx:findIn (KF P) (.ref C) "__getattr__"=some none
 sa:findIn (KF P) (.ref C) "__setattr__"=some (some (.builtin "object.__setattr__"))
 po:plainOver (KF P) C=true
 hd:∃cd,clsIn (KF P) C=some cd/\cd.hasDict=true
 mkI:makesIn (KF P) C=true
theorem Aq{P:Params}{C:Addr}(h:C∈[jE,gG,o6,jd,nI,o7,qH,dD]):pQ P C:=by
 have e:=List.all_eq_true.mp (FN P) C h
 unfold MC at e;simp only[aO,beq_iff_eq]at e;refine cH e ?_;rintro⟨⟨⟨⟨e1,e2⟩,e3⟩,e4⟩,e5⟩ e6;exact⟨e1,e2,e3,e4,any_some e5,e6⟩
set_option tactic.hygienic true in
theorem EI{C:Addr}(e:hU C n=true):∃l,(C,l)∈jF/\n∈l:=by
 unfold hU at e
 split at e
 ·rename_i l hl;exact(cf l (fY hl) (wN e))
 ·exact dT e
theorem qr:∀p∈jF,p.1∈[jE,gG,o6,jd,nI,o7,qH,dD]:=by decide+kernel
theorem f7{P:Params}{C:Addr}(e:hU C n=true):pQ P C/\findIn (KF P) (.ref C) n=some none:=by
 refine bW (EI e) λl h1 h2=>⟨Aq (qr _ h1),?_⟩
 have:=List.all_eq_true.mp (List.all_eq_true.mp (FO P) _ h1) n h2
 exact beq_iff_eq.mp this
theorem jn{x d C:Addr}(e:h.get? x=some ox)(hc:ox.cls=.ref C)(hd:ox.dict=some d)(hn:notCls ox=true)(hm:h.Ns d m):∃od,InstAt h x ox C (some od)/\∀n,lookIn n od=some (m n):=bW (yj hm) λod e2 l=>(cf od ⟨e,hc,hn,by rw[hd];exact e2⟩ l)
section
variable{x d C:Addr}{ox:Obj}{DL:Bool}
theorem gg(X:(KF w.params).In J.heap)(K:pQ w.params C)(hf:findIn (KF w.params) (.ref C) n=some none)(e:J.heap.get? x=some ox)(hc:ox.cls=.ref C)(hd:ox.dict=some d)(hn:notCls ox=true)(hm:J.heap.Ns d m)(hv:m n=some v)(hh:handedIn v=true){Q:VP}(k:Q v {J with toks:=J.toks+1}):wpAny (Md w) A (getAttr (.ref x) n DL) Q E J:=by
 refine bW (jn e hc hd hn hm) λod I l=>bW K.hd λcd c1 c2=>get_value X I K.ga ?_ hh k
 unfold findObj;rw[c1,hf,bq];unfold PySem.W.ownOf;rw[c2];dsimp only;rw[l n,hv];rfl
end
section
theorem dK(z:bQ c.cx e s=some (n,ov)):(∃p,e=.Name n p)/\cN c.cx n=.frame/\bD s.loc n=some ov/\uc ov=false/\dP n=false:=by
 induction e using Expr.casesOn with
 |Name x p=>
  have z:(match dP x with
   |true=>none
   |false=>(match cN c.cx x with
    | .frame=>(match bD s.loc x with|some (.v _)=>none|some (.k _)=>none|some o=>some _|none=>none)
    |_=>none))=some _:=z
  rcases dn:dP x with _|_<;>rw[dn]at z
  ·rcases w:cN c.cx x with _|_<;>rw[w]at z<;>try exact c8 z
   rcases q:bD s.loc x with _|o<;>rw[q]at z
   ·exact c8 z
   ·obtain _|_|_|_|_:=o<;>try exact c8 z
    all_goals
     injection z with z
     injection z with z1 z2
     subst z1 z2;exact mL ⟨p,rfl⟩ w q rfl dn
  ·exact c8 z
 |_=>exact c8 z
theorem St.mine(x:St c s J.heap f bA)(z:bQ c.cx e s=some (n,ov)):∃v F,eD c.w J.heap f ov v F/\∀{E:VP} {Q:VP},Q v J->wA c (eval e c.ev) Q E J:=by
 refine i5 (dK z) ?_;rintro⟨p,rfl⟩ w l hk dn;refine nM (x.read w l dn) λv m F q1 q2 r1 r2 r3 r4=>(cz v _ r2 (λk=>bw (r4 k) (d7 dn (by decide+kernel))))
theorem xa{o:Expr}(z:eu o=true):attributeBase o uE env wh=wh:=by
 induction o using Expr.casesOn with
 |Call g as ks p=>induction g using Expr.casesOn with
  |Name x q=>induction as using eZ with
   |nil=>induction ks using eZ with
    |nil=>exact dT z
    |cons=>rfl
   |cons=>rfl
  |_=>rfl
 |_=>rfl
theorem lO{o:Expr}(z:eu o=true):eval (.Attribute o uE pos) c.ev=(do let v<-eval o c.ev;standAt pos.atName;let r<-holding [v] (getAttr v uE true);letTemporaryGo o v r;pure r):=by
 rw[arm_eval_Attribute,xa z]
theorem fZ{o:Expr}{Q:VP}(k:wA c (getAttr v uE true) Q E J):wA c (standAt p>>=λY=>holding [v] (getAttr v uE true)>>=λr=>letTemporaryGo o v r>>=λY=>pure r) Q E J:=
 af (ay (af (aD (ak k (λr s' q=>af (wpAny_letTemporaryGo (aj q))) λY Y q=>q))))
theorem pZ(x:St c s J.heap f bA){cl:Addr}{fs:LO}{a:Str}{w:OV}(z:bQ c.cx e s=some (n,.oi cl fs))(b:eu e=true)(ok:hU cl a=true)(l:bD fs a=some w):
  ∃v F,gp c.w J.heap f w v F/\∀{E:VP} {Q:VP},Q v {J with toks:=J.toks+1}->wA c (eval (.Attribute e a pos) c.ev) Q E J:=by
 refine cC (x.mine z) λv F r k=>xK r.i ?_;rintro _ _ _ _ _ rfl rfl e1 e2 e3 e4 e5 e6 e7
 refine cH (e4 a w l) λg1 g2=>(cz _ _ g2 (λq=>?_))
 refine cH (f7 (P:=c.w.params) ok) λK hf=>?_;rw[lO b];exact af (k (fZ (gg x.X K hf e1 rfl rfl rfl e2.ns g1 g2.handed q)))
theorem qZ(x:St c s J.heap f bA){w:OV}(z:nA c.cx e s=some w)(hk:∀cl fs,w≠.oi cl fs):∃v F,gp c.w J.heap f w v F/\∀{E:VP} {Q:VP},(∀tk,Q v {J with toks:=tk})->wA c (eval e c.ev) Q E J:=by
 have v7:(bQ c.cx e s).map (·.2)=some w->∃v F,gp c.w J.heap f w v F/\∀{E:VP} {Q:VP},(∀tk,Q v {J with toks:=tk})->wA c _ Q E J:=λz=>by
  refine bW (Option.map_eq_some_iff.mp z) ?_;rintro⟨m,ov⟩ q1 rfl;refine cC (x.mine q1) λv F r k=>?_;induction ov using rD with
  |k a=>refine i5 (dK q1) λY Y Y hk Y=>?_;exact tZ hk
  |oi cl fs=>exact absurd rfl (hk _ _)
  |_=>exact cz v F r.i λq=>k (q J.toks)
 induction e using Expr.casesOn with
 |Attribute o a p=>
  have z:(match eu o,bQ c.cx o s with
   |true,some (_,.oi c fs)=>(match hU c a,bD fs a with
    |true,some (.od es)=>some _
    |_,_=>none)
   |_,_=>none)=some w:=z
  rcases b:eu o with _|_<;>rw[b]at z
  ·exact c8 z
  rcases q:bQ c.cx o s with _|⟨m,ow⟩<;>rw[q]at z
  ·exact c8 z
  obtain _|_|_|_|⟨cl,fs⟩:=ow<;>try exact c8 z
  rcases ok:hU cl a with _|_<;>dsimp only at z<;>rw[ok]at z
  ·exact c8 z
  rcases l:bD fs a with _|ow<;>rw[l]at z
  ·exact c8 z
  obtain _|_|_|_|_:=ow<;>try exact c8 z
  all_goals
   obtain rfl:=oI z;refine cC (pZ x q b ok l) λv F r k=>cz v F r λq=>k (q _)
 |_=>exact v7 z
end
section
theorem eD.field{cl x d:Addr}{fs:LO}{g:Str->Value}{G:Str->AP}{a:Str}{o:OV}{P:AP}(e1:h.get? x=some (instObj cl d))(e2:h.Ns1 d m')(e3:d≠x)(hm:∀k,k≠a->m' k=m k)(e4:∀n o,bD fs n=some o->m n=some (g n)/\(n≠a->gp w h f o (g n) (G n)))(e5:∀n,bD fs n=none->m n=none)(e6:∀n b,n≠a->G n b->b≠x/\b≠d)(e7:∀n k b,n≠a->k≠a->G n b->G k b->n=k)(hv:m' a=some v)(r:gp w h f o v P)(hP:∀b,P b->b≠x/\b≠d/\∀k,k≠a->(bD fs k).isSome->¬G k b):
  eD w h f (.oi cl (dy fs a o)) (.ref x) λb=>b=x\/b=d\/∃k,(bD (dy fs a o) k).isSome/\(if k=a then P b else(bD fs k).isSome/\G k b):=by
 refine .oi (g:=λk=>if k=a then v else g k) e1 e2 e3 (λk ob l=>?_) (λk l=>?_) (λk b q=>?_) λk j b q1 q2=>?_
 ·rw[dA]at l
  split at l
  ·rename_i q;subst q;obtain rfl:=oI l
   refine⟨by rw[aA rfl];exact hv,?_⟩
   rw[aA rfl,show(λb=>if a=a then P b else(bD fs a).isSome=true/\G a b)=P from funext λb=>aA rfl]
   exact r
  ·rename_i q
   have q':k≠a:=λz=>q z.symm
   refine cH (e4 k ob l) λl1 l2=>⟨by rw[au q'];exact(hm k q').trans l1,?_⟩
   rw[au q',show(λb=>if k=a then P b else(bD fs k).isSome=true/\G k b)=G k from funext λb=>by rw[au q',l];exact propext ⟨λz=>z.2,λz=>⟨rfl,z⟩⟩]
   exact l2 q'
 ·rw[dA]at l
  split at l
  ·exact zi l
  ·rename_i q
   exact(hm k (λz=>q z.symm)).trans (e5 k l)
 ·split at q
  ·exact⟨(hP b q).1,(hP b q).2.1⟩
  ·rename_i z;exact e6 k b z q.2
 ·split at q1<;>split at q2<;>rename_i z1 z2
  ·exact z1.trans z2.symm
  ·exact absurd q2.2 ((hP b q1).2.2 j z2 q2.1)
  ·exact absurd q1.2 ((hP b q2).2.2 k z1 q1.1)
  ·exact e7 k j b z1 z2 q1.2 q2.2
theorem yp(x:St c s J.heap f bA){cl:Addr}{fs:LO}{a:Str}{w:OV}(z:bQ c.cx e s=some (n,.oi cl fs))(b:eu e=true)(ok:hU cl a=true)(l:bD fs a=some w)(q:mG w=some av):
  T c (PO c bA k) (.ok (.v av) (s.set n (.oi cl (dy fs a (.v av))))) (eval (.Attribute e a pos) c.ev) bA f J:=by
 refine i5 (dK z) ?_;rintro⟨p,rfl⟩ w1 l1 hk dn;refine iZ (x.take w1 l1 rfl dn) λv F t1 t2 t3 t4 t5 t6=>xK t2.i ?_;rintro y d m g G rfl rfl e1 e2 e3 e4 e5 e6 e7
 refine cH (e4 a w l) λg1 g2=>?_;have sub:∀b,G a b->b=y\/b=d\/∃n,(bD fs n).isSome/\G n b:=λb q=>.inr (.inr (cf a (by rw[l];rfl) q))
 have hG:=λb q=>t3 b (sub b q)
 have le:f.Le ⟨λb=>f.z b\/G a b,f.y,f.sn⟩:=⟨λY q=>.inl q,λY q=>q,λY q=>q⟩
 refine cH (t1.lay hG g2.there le ⟨λb q=>q.elim (x.wd.fok.zy b) λz=>(hG b z).2.1.y,λb q=>q.elim (x.wd.fok.zs b) λz=>(hG b z).2.1.sn,x.wd.fok.ys⟩ (λY q=>q) (λY q=>.inl q) λY=>.rfl) λGg t7=>?_
 have r':=rg g2 q _ le λb q=>.inr q
 have r2:=eD.field e1 e2 e3 (λY Y=>rfl) (λk ob lk=>⟨(e4 k ob lk).1,λY=>(λr=>r.mono (λb Y=>.refl _ b) (λb Y=>.of_keep λY e=>e) le λb Y=>.refl _ b) (e4 k ob lk).2⟩) e5 (λk b Y=>e6 k b) (λk j b Y Y=>e7 k j b) g1 (.v r') λY q=>q.elim
 have C1:∀b,(b=y\/b=d\/∃k,(bD (dy fs a (.v av)) k).isSome/\(if k=a then False else(bD fs k).isSome/\G k b))->(b=y\/b=d\/∃n,(bD fs n).isSome/\G n b)/\¬G a b:=λb q=>by
  obtain q|q|⟨k,q1,q2⟩:=q
  ·exact⟨.inl q,λz=>(e6 a b z).1 q⟩
  ·exact⟨.inr (.inl q),λz=>(e6 a b z).2 q⟩
  ·by_cases ne:k=a
   ·rw[aA ne]at q2;exact q2.elim
   ·rw[au ne]at q2;exact⟨.inr (.inr (cf k q2.1 q2.2)),λz=>ne (e7 k a b q2.2 z)⟩
 have t8:=t7.put' t5 r2 (λb q=>by
  refine cH (C1 b q) λi1 i2=>fF (t3 b i1) λj1 j2 j3=>⟨j1,⟨λz=>z.elim j2.z i2,j2.y,j2.sn,j2.sb,j2.out⟩,j3⟩) (dT)
 refine cH (f7 (P:=c.w.params) ok) λK hf=>af (bw (t6 rfl (fZ (gg x.X K hf e1 rfl rfl rfl e2.ns g1 g2.handed (cz _ _ ⟨t8,?_,rfl,rfl⟩ (.v r'))))) (d7 dn (by decide+kernel)))
 refine((Go.refl bA J.heap f).trans Gg λb q=>.inl (t4 b (sub b q))).less λb q=>?_
 obtain q|q:=q
 ·exact .inr (.inl q.1)
 ·exact .inr (.inl (t4 b (C1 b q).1))
def VR.Jj(w:World)(h:Heap)(f:Fz):AV->Value->Prop
 | .ins cl fs,v=>∃x d m ox,v=.ref x/\f.z x/\f.y d/\h.get? x=some ox/\ox.cls=.ref cl/\ox.dict=some d/\notCls ox=true/\h.Ns1 d m/\(cl=dD->∃v,m ("current":Str)=some v/\handedIn v=true)/\ix w h f true fs m/\∀k,ef k=false->bD fs k=Option.none->m k=Option.none
 |_,_=>True
theorem VR.inv_ins{cl:Addr}{fs:LE}(r:VR w h f (.ins cl fs) v):∃x d m ox,v=.ref x/\f.z x/\f.y d/\h.get? x=some ox/\ox.cls=.ref cl/\ox.dict=some d/\notCls ox=true/\h.Ns1 d m/\(cl=dD->∃v,m ("current":Str)=some v/\handedIn v=true)/\ix w h f true fs m/\∀k,ef k=false->bD fs k=Option.none->m k=Option.none:=by
 have j:∀{a:AV} {v:Value},VR w h f a v->VR.Jj w h f a v:=λr=>by
  induction r using VR.casesOn with
  |ins a1 a2 a3 a4 a5 a6 a7 a8 a9 K3=>exact⟨_,_,_,_,rfl,a1,a2,a3,a4,a5,a6,a7,a8,a9,K3⟩
  |_=>trivial
 exact j r
theorem vH(x:St c s J.heap f bA){a:Str}{cl:Addr}{fs:LO}(z:bQ c.cx e s=some (n,.oi cl fs))(b:eu e=true):TO c bA J (match hU cl a,bD fs a with
  |true,some (.v a)=>.ok (.v a) s
  |true,some w=>(match mG w with|some v=>.ok (.v v) (s.set n (.oi cl (dy fs a (.v v))))|none=>.no)
  |_,_=>.no) (eval (.Attribute e a pos) c.ev) bA f J:=by
 rcases ok:hU cl a with _|_
 ·obtain _|w:=bD fs a
  ·trivial
  ·obtain _|_:=w<;>trivial
 rcases l:bD fs a with _|w
 ·trivial
 have fz:∀w,bD fs a=some w->TO c bA J (match mG w with|some v=>.ok _ _|none=>.no) (eval (.Attribute e a pos) c.ev) bA f J:=λw l=>by
  rcases q:mG w with _|av
  ·trivial
  ·exact yp x z b ok l q
 induction w using rD with
 |v av=>
  refine cC (pZ (pos:=pos) x z b ok l) λv F r k=>?_;exact k (cz f bA (.tk x) (.v r.i.1))
 |_=>exact fz _ l
theorem vI(x:St c s J.heap f bA){a:Str}{cl:Addr}{fs:LE}(q:VR c.w J.heap f (.ins cl fs) v):TO c bA J (match hU cl a with
   |true=>(match ef a with
    |true=>(match Nat.beq cl dD,dM a "current" with|true,true=>cZ .any s|_,_=>.no)
    |false=>(match bD fs a with|some a=>cZ a s|none=>.no))
   |false=>.no) (standAt pos.atName>>=λY=>holding [v] (getAttr v a true)>>=λr=>letTemporaryGo e v r>>=λY=>pure r) bA f J:=by
 rcases ok:hU cl a with _|_
 ·trivial
 refine Aw q.inv_ins ?_;rintro y d m ox rfl a1 a2 a3 a4 a5 a6 a7 a8 a9 K3;refine cH (f7 (P:=c.w.params) ok) λK hf=>?_;dsimp only;obtain _|_:=ef a
 ·dsimp only
  rcases l:bD fs a with _|av
  ·trivial
  ·refine bW (a9.get l) λv g1 g2=>?_
   exact fZ (gg x.X K hf a3 a4 a5 a6 a7.ns g1 g2.handed (cz f bA (.tk x) (.v g2)))
 ·dsimp only
  rcases h1:Nat.beq cl dD with _|_
  ·trivial
  rcases h2:dM a "current" with _|_
  ·trivial
  refine bW (a8 (bo h1)) λv g1 g2=>?_;rw[cR.mp h2]at hf⊢;exact fZ (gg x.X K hf a3 a4 a5 a6 a7.ns g1 g2 (cz f bA (.tk x) (.v (.any _ g2))))
theorem yF(H:dz rc d c){a:Str}(x:St c s J.heap f bA):TO c bA J (uY rc c.cx e a s) (eval (.Attribute e a pos) c.ev) bA f J:=by
 unfold uY;rcases b:eu e with _|_
 ·trivial
 have fr:TO c bA J ((vl (rc.e c.cx e s)).bind λb s=>match b with
  | .ins cl fs=>(match hU cl a with
   |true=>(match ef a with
    |true=>(match Nat.beq cl dD,dM a "current" with|true,true=>cZ .any s|_,_=>.no)
    |false=>(match bD fs a with|some a=>cZ a s|none=>.no))
   |false=>.no)
  |_=>.no) (eval (.Attribute e a pos) c.ev) bA f J:=by
  refine T.bindO (k:=λv=>standAt pos.atName>>=λY=>holding [v] (getAttr v a true)>>=λr=>letTemporaryGo e v r>>=λY=>pure r) (H.v x) (λav bK v bJ bU bE dZ bM cj=>?_)|>.tree λQ E z=>by rw[lO b];exact z
  clear dZ;induction av using AV.casesOn with
  |ins cl fs=>exact vI bM.st cj
  |_=>trivial
 dsimp only;rcases z:bQ c.cx e s with _|⟨n,o⟩
 ·exact fr
 ·induction o using rD with
  |oi cl fs=>exact vH x z b
  |_=>exact fr
end
def PC(b:Bool)(v:Value)(h:Heap)(f:Fz)(bA:AP):Prop:=v=.bool b
section
theorem gp.inv_od(r:gp w h f (.od es) v F):∃a m,v=.ref a/\a≠sysModules/\h.MapOf (PySem.strKind pw w) a m/\ix w h f false es m/\(∀k,bD es k=none->m k=none)/\∀b,F b↔b=a:=by
 cases r with
 |od ne hm r hn=>exact(xI _ _ rfl ne hm.mapOf r hn (λY=>.rfl))
theorem gp.inv_ol(r:gp w h f (.ol xs) v F):∃a vs,v=.ref a/\fG h a vs/\dw w h f xs vs/\xs.length<=4000/\∀b,F b↔b=a:=by
 cases r with
 |ol l r n=>exact(M1 _ _ rfl l r n (λY=>.rfl))
theorem oD{r:Expr}(p:cG r=true):behindInMarks op r=false:=by
 obtain _|_:=r<;>first|rfl|exact dT p
noncomputable abbrev n8(op:CmpOp)(pos:Pos)(v u:Value):Sem Value:=standAt pos>>=λY=>operate [v,u] (compareOp op v u)
noncomputable abbrev DR(c:Fm)(op:CmpOp)(r:Expr)(pos:Pos)(v:Value):Sem Value:=holding [v] (eval r c.ev)>>=λu=>n8 op pos v u
section
variable{r:Expr}{b:AV}
theorem kG{Q:VP}(z:wA c (compareOp op v u) Q E J):wA c (n8 op pos v u) Q E J:=af (ay (u6 z))
theorem yM(cy:Rm c d):c.A.units+64<cLine:=by
 have:=cy.units
 show _<9900
 lia
theorem Py(x:St c s J.heap f bA)(z:nA c.cx r s=some (.od es))(q:VR c.w J.heap f a v):T c PC (match(generalizing:=false) a with| .str x=>.ok (bD es x).isSome s|_=>.no) (DR c .In r pos v) bA f J:=by
 induction a using AV.casesOn with
 |str y=>
  refine cC (qZ x z (by intro _ _ q;injection q)) λu F r1 k=>iZ r1.inv_od ?_;rintro b m rfl ne hm r2 hn _
  refine bW q.i ?_;rintro t rfl _;refine af (aD (k λtk=>kG (wpAny_in_of (strKind_is _ _ _ _) (by simpa using ne) hm ?_)))
  exact(cz f bA (.tk x) (by rw[kF r2 hn];rfl))
 |_=>trivial
theorem Cr(x:St c s J.heap f bA)(z:nA c.cx r s=some (.od es))(q:VR c.w J.heap f a v):T c PC (match(generalizing:=false) a with| .str x=>.ok (!(bD es x).isSome) s|_=>.no) (DR c .NotIn r pos v) bA f J:=by
 induction a using AV.casesOn with
 |str y=>
  refine cC (qZ x z (by intro _ _ q;injection q)) λu F r1 k=>iZ r1.inv_od ?_;rintro b m rfl ne hm r2 hn _
  refine bW q.i ?_;rintro t rfl _;refine af (aD (k λtk=>kG (mi (λQ z=>wpAny_in_of (s:={J with toks:=tk}) (strKind_is _ _ _ _) (by simpa using ne) hm z) ?_)))
  exact(cz f bA (.tk x) (by rw[kF r2 hn];rfl))
 |_=>trivial
theorem Cq(hu:c.A.units+64<cLine)(x:St c s J.heap f bA)(ra:VR c.w J.heap f .seen v)(rb:VR c.w J.heap f (.lst ys) u):T c PC (match s.ss with
   |some l=>(match eK (.lst l) (.lst ys)with|some t=>.ok (!t) s|none=>.no)
   |none=>.no) (n8 .NotEq pos v u) bA f J:=by
 have sn:=x.wd.seen
 refine eE s.ss (λhs=>by trivial) λl' hs=>?_
 rw[hs]at sn;dsimp only;refine eE (eK _ _) (λq=>by trivial) λt q=>jN sn λb vs n1 n2 n3 n4=>bW ra.i ?_;rintro b' rfl w
 have e:=(n1 _).mp w
 subst e;exact kG ((qe (vf n2 n3) rb q hu).2 (cz f bA (.refl x) rfl))
theorem rj{w:R Bool}(e:w=match qw op a b with|some t=>.ok t s|none=>.no)(hu:c.A.units+64<cLine)(x:St c s J.heap f bA)(ra:VR c.w J.heap f a v)(rb:VR c.w J.heap f b u):T c PC w (n8 op pos v u) bA f J:=by
 subst e;refine eE (qw op a b) (λq=>by trivial) λt q=>kG (Ki ra rb q hu λtk=>(cz f bA (.tk x) rfl))
def IG(op:CmpOp)(a b:AV)(s:S):R Bool:=match a,b,op with
 | .seen,.lst ys,.NotEq=>(match s.ss with
  |some l=>(match eK (.lst l) (.lst ys)with|some t=>.ok (!t) s|none=>.no)
  |none=>.no)
 |a,b,op=>(match qw op a b with|some t=>.ok t s|none=>.no)
theorem Fw(hu:c.A.units+64<cLine)(x:St c s J.heap f bA)(ra:VR c.w J.heap f a v)(rb:VR c.w J.heap f b u):T c PC (IG op a b s) (n8 op pos v u) bA f J:=by
 induction a using AV.casesOn with
 |seen=>induction b using AV.casesOn with
  |lst ys=>induction op using PySem.CmpOp.casesOn with
   |NotEq=>exact Cq hu x ra rb
   |_=>exact rj rfl hu x ra rb
  |_=>exact rj rfl hu x ra rb
 |_=>exact rj rfl hu x ra rb
theorem n7(H:dz rc d c)(hu:c.A.units+64<cLine)(x:St c s J.heap f bA)(q:VR c.w J.heap f a v):T c PC ((vl (rc.e c.cx r s)).bind λb s=>IG op a b s) (DR c op r pos v) bA f J:=
 (H.v x).hold.bindV λb eS u il ec fh zH eA hZ=>Fw hu eA.st (q.go eA.go x.wd.fok x.free) hZ
def Mz(rc:f9)(cx:Cx)(op:CmpOp)(r:Expr)(a:AV)(s:S):R Bool:=match op,nA cx r s with
 | .In,some (.od es)=>(match a with| .str x=>.ok (bD es x).isSome s|_=>.no)
 | .NotIn,some (.od es)=>(match a with| .str x=>.ok (!(bD es x).isSome) s|_=>.no)
 |op,_=>(vl (rc.e cx r s)).bind λb s=>IG op a b s
theorem Fx(H:dz rc d c)(hu:c.A.units+64<cLine)(x:St c s J.heap f bA)(q:VR c.w J.heap f a v):T c PC (Mz rc c.cx op r a s) (DR c op r pos v) bA f J:=by
 unfold Mz;induction op using PySem.CmpOp.casesOn with
 |In=>
  refine eE (nA c.cx r s) (λz=>n7 H hu x q) λov z=>?_
  induction ov using rD with
  |od es=>exact Py x z q
  |_=>exact n7 H hu x q
 |NotIn=>
  refine eE (nA c.cx r s) (λz=>n7 H hu x q) λov z=>?_
  induction ov using rD with
  |od es=>exact Cr x z q
  |_=>exact n7 H hu x q
 |_=>exact n7 H hu x q
end
theorem sX(H:dz rc d c)(cy:Rm c d){l r:Expr}(x:St c s J.heap f bA):T c PC (nS rc c.cx l op r s) (eval (.Compare l [op] [r] pos) c.ev) bA f J:=by
 unfold nS;refine fS (cG r) (λp=>by trivial) λp=>?_
 rw[eval_Compare1,markedBehindIn_of_false (oD p)];exact(H.v x).bindV λa bK v bJ bU bE dZ bM cj=>Fx H (yM cy) bM.st cj
theorem CD(r:R Z):r.bind (λa s=>.ok a s)=r:=by obtain _|_:=r<;>rfl
theorem Fu(H:dz rc d c)(cy:Rm c d){l r:Expr}(x:St c s J.heap f bA):TO c bA J ((nS rc c.cx l op r s).bind λb s=>cZ (.bool b) s) (eval (.Compare l [op] [r] pos) c.ev) bA f J:=by
 have z:=sX H cy (l:=l) (r:=r) (op:=op) (pos:=pos) x
 generalize q:nS rc c.cx l op r s=zz;induction zz using iw with
 |ok b bK=>rw[q]at z;exact ak z (λv bT ⟨f',o',p,y⟩=>⟨f',o',p,by subst y;exact .v (.bool _)⟩) λY Y y=>y
 |exc m bK=>rw[q]at z;exact z
 |no=>trivial
theorem Fv(H:dz rc d c)(cy:Rm c d){l r:Expr}(x:St c s J.heap f bA):T c PB (nS rc c.cx l op r s) (isTrue (.Compare l [op] [r] pos) c.ev wh) bA f J:=by
 have z:=(sX H cy (l:=l) (r:=r) (op:=op) (pos:=pos) x).bindV (g:=.ok) (k:=λv=>holding [v] _) (Q:=PB) λb bK v bJ bU bE dZ bM cj=>by
  subst cj;exact aD (wpAny_truthy_bool (cz bU bE (.refl bM.st) rfl))
 rw[CD]at z;refine z.tree λQ E y=>?_;rw[isTrue_Compare1];rw[eval_Compare1]at y;intro Γ p mZ;have:=y Γ p mZ;simp only[bg]at this⊢;exact this
end
section
theorem Ei(sl)(o i):∃ops,subscripted sl false o i=operate ops (getItem o i):=by
 induction sl using Expr.casesOn with
 |Slice l u st p=>obtain _|_:=st<;>exact⟨_,rfl⟩
 |_=>exact⟨_,rfl⟩
theorem kx{o i:Value}{Y id:String}{Q:VP}(hT:J.TypeIs o Y)(hl:typeLookup (.type Y) "__getitem__"=pure (some (.builtin id)))(hg:wA c (getItem o i) Q E J):wA c (subscriptTail nQ lZ o i) Q E J:=
 let⟨_,q⟩:=Ei lZ o i
 tail_any hT hl hg q
theorem kI:eval (.Subscript nQ lZ pos) env=(do let o<-eval nQ env;let i<-holding [o] (eval lZ env);standAt pos;subscriptTail nQ lZ o i):=rfl
theorem JG{n m:Nat}(lt:m<n)(l:n<=4000): -(2^63)<=(m:Int)/\(m:Int)<2^63/\(m:Int)<n:=by lia
theorem JH{n m:Nat}(lt:m<n)(l:n<=4000): -(2^63)<=Int.negSucc m/\Int.negSucc m<0/\-(n:Int)<=Int.negSucc m/\(Int.negSucc m+(n:Int)).toNat=n-1-m:=by lia
theorem AF{k:Int}(r:dw c.w h f xs vs)(l:xs.length<=4000)(e:xl xs k=some a):∃j v,seqIndex? k vs.length=some j/\vs[j]? =some v/\VR c.w h f a v/\-(2^63)<=k/\k<2^63/\(0<=k->j=k.toNat):=by
 have el:=r.length
 obtain m|m:=k
 ·have e:=e
  refine bW (r.get e) λv q r'=>?_;have z:=JG (List.getElem?_eq_some_iff.mp e).1 l;exact xI m v (PySem.seqIndex_of (Int.natCast_nonneg _) (el▸z.2.2)) q r' z.1 z.2.1 λY=>rfl
 ·have e:xs.reverse[m]? =some a:=e
  have lt:=(List.getElem?_eq_some_iff.mp e).1
  rw[List.length_reverse]at lt;rw[List.getElem?_reverse lt]at e;refine bW (r.get e) λv q r'=>?_;have z:=JH lt l;exact xI _ v (by rw[<-el,PySem.seqIndex_neg z.2.1 z.2.2.1,z.2.2.2]) q r' z.1 (Int.lt_trans z.2.1 (by decide)) λy=>absurd y (Int.not_le.mpr z.2.1)
theorem yn{a:Addr}{k:Int}{u:Tok}{Q:VP}(hl:fG J.heap a vs)(h1:seqIndex? k vs.length=some j)(h2:vs[j]? =some v)(lo: -(2^63)<=k)(hi:k<2^63)(hj:0<=k->j=k.toNat)(q:Q v J):wpAny (Md c.w) A (getItem (.ref a) (.int k u)) Q E J:=by
 by_cases z:0<=k
 ·exact wpAny_getItem_list hl.list z hi (by rw[<-hj z];simpa using h2) q
 ·exact kde_getNeg hl.list (by lia) lo h1 h2 q
theorem og(x:St c s J.heap f bA){a:Addr}{k:Int}{u:Tok}{n:Nat}(hl:fG J.heap a vs)(r:dw c.w J.heap f xs vs)(l:xs.length<=4000):
  T c (PO c bA n) (match xl xs k with|some a=>cZ a s|none=>.no) (subscriptTail nQ lZ (.ref a) (.int k u)) bA f J:=eE (xl xs k) (λq=>by trivial) λav q=>iZ (AF r l q) λj v h1 h2 h3 lo hi hj=>kx hl.list.typeIs slot_list_getitem.lookup (yn hl h1 h2 lo hi hj (cz f bA (.refl x) (.v h3)))
theorem Eh(x:St c s J.heap f bA){a:Addr}{k:Int}{u:Tok}{n:Nat}(hl:qJ J.heap a vs)(r:dw c.w J.heap f xs vs)(l:xs.length<=4000):
  T c (PO c bA n) (match xl xs k with|some a=>cZ a s|none=>.no) (subscriptTail nQ lZ (.ref a) (.int k u)) bA f J:=eE (xl xs k) (λq=>by trivial) λav q=>iZ (AF r l q) λj v h1 h2 h3 lo hi hj=>kx hl.tup.typeIs slot_tuple_getitem.lookup (PyProof.Rows.getItem_tuple hl.tup lo hi (by simpa using h1) (by simpa using h2) (cz f bA (.refl x) (.v h3)))
theorem Bi(x:St c s J.heap f bA){a:Addr}{k:Str}{u:Tok}{n:Nat}(hm:J.heap.MapOf (strKind pw c.w) a m)(r:ix c.w J.heap f false es m):
  T c (PO c bA n) (match bD es k with|some a=>cZ a s|none=>.no) (subscriptTail nQ lZ (.ref a) (.str k u)) bA f J:=eE (bD es k) (λq=>by trivial) λav q=>bW (r.get q) λv h1 h2=>kx hm.typeIs slot_dict_getitem.lookup (wpAny_getItem_of (strKind_is _ _ _ _) hm h1 (cz f bA (.tk x) (.v h2)))
theorem ya{t:Sem Z}{Q:QS Z}(z:wpAny M A t (λv s'=>wpAny M A (pure v) Q E s') E J):wpAny M A t Q E J:=jm (af z)
def PI(o:Option Int)(v:Value)(h:Heap)(f:Fz)(bA:AP):Prop:=IsPart v o
theorem q9(H:dz rc d c)(x:St c s J.heap f bA)(e):T c PI (uB rc c.cx e s) (valueOrNone (evalOpt e c.ev)) bA f J:=by
 induction e using i7 with
 |none=>exact T.pure x .none
 |some e=>
  refine(H.v x).via (λQ E z=>ya z) λa bK v bJ bU bE dZ bM cj=>?_
  clear dZ;induction cj using VR.casesOn<;>first|trivial|skip
  exact T.pure bM.st (.int ..)
theorem dw.rev(r:dw w h f xs vs):dw w h f xs.reverse vs.reverse:=by
 induction xs generalizing vs with
 |nil=>rw[r.inv_nil];exact .nil
 |cons a l ih=>
  obtain⟨v,us,rfl,k,r2⟩:=r.inv_cons;rw[List.reverse_cons,List.reverse_cons];exact(ih r2).append (.cons k .nil)
theorem dw.drop(n)(r:dw w h f xs vs):dw w h f (xs.drop n) (vs.drop n):=by
 induction n generalizing xs vs with
 |zero=>exact r
 |succ n ih=>
  obtain _|_:=xs
  ·rw[r.inv_nil];exact .nil
  ·obtain⟨v,us,rfl,k,r2⟩:=r.inv_cons
   exact ih r2
theorem dw.take(n)(r:dw w h f xs vs):dw w h f (xs.take n) (vs.take n):=by
 induction n generalizing xs vs with
 |zero=>exact .nil
 |succ n ih=>
  obtain _|_:=xs
  ·rw[r.inv_nil];exact .nil
  ·obtain⟨v,us,rfl,k,r2⟩:=r.inv_cons
   exact .cons k (ih r2)
def zP(w:World)(h:Heap)(f:Fz)(xs ys:LA)(vs:LV)(l u st:Option Int):Prop:=∃us,slicePick vs.toArray l u st=us.toArray/\dw w h f ys us/\ys.length<=xs.length/\st≠some 0
theorem Jh(r:dw w h f xs vs):zP w h f xs xs.reverse vs none none (some (.negSucc 0)):=
 uG vs.reverse (krv_pick _) r.rev (aR List.length_reverse) (by decide)
theorem Em(m)(r:dw w h f xs vs):zP w h f xs (xs.drop m) vs (some (.ofNat m)) none none:=
 uG (vs.drop m) (slicePick_from' _ m) (r.drop m) (List.length_drop▸Nat.sub_le ..) nofun
theorem Ek(m)(r:dw w h f xs vs):zP w h f xs (xs.take m) vs none (some (.ofNat m)) none:=
 uG (vs.take m) (slicePick_upto' _ m) (r.take m) (List.length_take_le' ..) nofun
theorem yG(xs:LA):(match xs.reverse with|[]=>[]|a::_=>[a])=xs.drop (xs.length-1):=by
 generalize e:xs.reverse=zz;induction zz using eZ with
 |nil=>rw[List.reverse_eq_nil_iff.mp e];rfl
 |cons a l=>
  rw[show xs=l.reverse++[a] by rw[<-List.reverse_reverse xs,e,List.reverse_cons],aw,aT,Nat.add_sub_cancel,List.drop_left]
theorem El(r:dw w h f xs vs):zP w h f xs (match xs.reverse with|[]=>[]|a::_=>[a]) vs (some (.negSucc 0)) none none:=by
 rw[yG];exact uG (vs.drop (xs.length-1)) (by rw[r.length];simpa using slicePick_last vs.toArray 1 (aC _)) (r.drop _) (aq (aR List.length_drop) (Nat.sub_le ..)) nofun
theorem Bn{l u st:Option Int}(r:dw w h f xs vs)(e:lj xs l u st=some ys):zP w h f xs ys vs l u st:=by
 obtain _|l:=l
 ·obtain _|u:=u
  ·obtain _|st:=st
   ·exact c8 e
   obtain n|n:=st
   ·exact c8 e
   obtain _|n:=n
   ·exact oI e▸Jh r
   ·exact c8 e
  ·obtain n|n:=u
   ·obtain _|st:=st
    ·exact oI e▸Ek n r
    ·exact c8 e
   ·exact c8 e
 ·obtain _|u:=u
  ·obtain _|st:=st
   ·obtain n|n:=l
    ·exact oI e▸Em n r
    ·obtain _|n:=n
     ·exact oI e▸El r
     ·exact c8 e
   ·obtain n|n:=l
    ·exact c8 e
    ·obtain _|n:=n<;>exact c8 e
  ·obtain n|n:=l
   ·exact c8 e
   ·obtain _|n:=n<;>exact c8 e
end
def Fm.pins(c:Fm)(p:List (Str×Value)):Fm:={c with pin:=p}
section
variable{p p':List (Str×Value)}
theorem ni.pins{a:Addr}(x:ni (c.pins p) f a):ni (c.pins p') f a:=⟨x.z,x.y,x.sn,x.sb,x.out⟩
theorem eX.pins(x:eX (c.pins p) f bA F):eX (c.pins p') f bA F:=λa q=>⟨(x a q).1,(x a q).2.1.pins,(x a q).2.2⟩
theorem St.pins(x:St (c.pins p) s h f bA)(hp:∀q∈p',cQ c h q.1 q.2):St (c.pins p') s h f bA:=by
 refine⟨x.wd,λa q=>⟨(x.oo a q).1.pins,(x.oo a q).2⟩,x.frames,x.ff,x.fe,x.fsc,x.ffr,x.ofr,x.tab,?_,?_,hp⟩
 ·refine cC x.fr λm F q1 q2=>(cz m F ⟨q1.ns,q1.cls,q1.ownL,q1.cells,q1.cinj,q1.cL,q1.ck,q1.loc,q1.fo,q1.fd,q1.free⟩ q2)
 ·have q:(match c.cx.cs with|none=>c.ev=c.fe|some cs=>pP _ cs s h f bA):=x.comp
  refine eE c.cx.cs (λe=>by rw[e]at q;exact q) λcs e=>?_
  rw[e]at q;exact⟨q.env,q.frame,q.loc,q.top,q.free,q.cell,q.ns,q.ownC,q.neL,q.neC⟩
theorem St.pinned(x:St c s h f bA)(r:cQ c h n v):St (c.pins ((n,v)::c.pin)) s h f bA:=St.pins x λq hq=>by
 obtain z|z:=List.mem_cons.mp hq
 ·rw[z];exact r
 ·exact x.pin q z
theorem St.unpin(x:St (c.pins ((n,v)::c.pin)) s h f bA):St c s h f bA:=St.pins x λq hq=>x.pin q (.tail _ hq)
theorem St.the(x:St (c.pins ((n,v)::c.pin)) s h f bA):cQ c h n v:=x.pin _ (.head _)
theorem cQ.eq(x:cQ c h n v)(y:cQ c h n u):v=u:=bW x λm e1 e2=>bW y λm' r1 r2=>e2.eq (vZ.agree e1 r1▸r2)
abbrev Fm.hold(c:Fm)(n:Str)(v:Value):Fm:=c.pins ((n,v)::c.pin)
theorem cD.unpin(x:cD (c.hold n v) bA f J s f' bF bT):cD c bA f J s f' bF bT:=⟨x.st.unpin,x.go,x.rest⟩
theorem PX.unpin{m:AV}{e:Value}(x:PX (c.hold n v) o k m e h f bA):PX c o k m e h f bA:=let⟨X,x1,x2,x3⟩:=x;⟨X,x1,eX.pins x2,x3⟩
theorem PO.unpin{m:OV}{e:Value}(x:PO (c.hold n v) o k m e h f bA):PO c o k m e h f bA:=let⟨X,x1,x2,x3⟩:=x;⟨X,x1,eX.pins x2,x3⟩
theorem T.unpin{Q:QT Z β}{r:R Z}(x:T (c.hold n v) P r t bA f J)(k:∀a v h f' bF,P a v h f' bF->Q a v h f' bF):T c Q r t bA f J:=by
 induction r using iw with
 |ok a s=>exact ak x (λv bT z=>cC z λf' o' p q=>(cz f' o' p.unpin (k _ _ _ _ _ q))) λY Y z=>z
 |exc m s=>exact ak x (λY Y z=>z) λe bT z=>cC z λf' o' p q=>(cz f' o' p.unpin q.unpin)
 |no=>trivial
theorem T.unpinO{r:R OV}{t:Sem Value}(x:T (c.hold n v) (PO (c.hold n v) o k) r t bA f J):T c (PO c o k) r t bA f J:=x.unpin λY Y Y Y Y=>PO.unpin
def fE(rc:f9)(d:Nat)(c:Fm):Prop:=∀p,dz rc d (c.pins p)
theorem fE.at(H:fE rc d c):dz rc d c:=H c.pin
theorem St.mineP(x:St c s J.heap f bA)(z:bQ c.cx e s=some (n,ov)):∃v F,eD c.w J.heap f ov v F/\cQ c J.heap n v/\(∃p,e=.Name n p)/\cN c.cx n=.frame/\bD s.loc n=some ov/\uc ov=false/\dP n=false/\∀{E:VP} {Q:VP},Q v J->wA c (eval e c.ev) Q E J:=by
 refine i5 (dK z) ?_;rintro⟨p,rfl⟩ w l hk dn;refine nM (x.read w l dn) λv m F q1 q2 r1 r2 r3 r4=>(MZ v _ r2 (cf m q1.ns r1) ⟨p,rfl⟩ w l hk dn (λk=>bw (r4 k) (d7 dn (by decide+kernel))))
theorem fA{p:Pos}{m:Str}(z:bQ c.cx (.Name n p) s=some (m,ov)):m=n:=by
 refine cH (dK z) ?_;rintro⟨_,e⟩ _
 (injection e with zz yy;subst zz yy);rfl
theorem eD.inv_ol(r:eD w h f (.ol xs) v F):gp w h f (.ol xs) v F:=by
 cases r with|fl r=>exact r
end
section
variable{γ:Type}
theorem gi{m:Sem Z}{f:Z->Sem β}{g:β->Sem γ}{Q:QS γ}(z:wpAny M A m (λa s'=>wpAny M A (f a>>=g) Q E s') E J):wpAny M A ((m>>=f)>>=g) Q E J:=λΓ p mZ=>by
 rw[bg,bg];exact Sem.wp_mono M Γ m (λa p' s' h'=>by have:=h' Γ p' mZ;rwa [bg]at this) (λY Y Y h=>h) p J (z Γ p mZ)
theorem iQ{t:Sem Z}{k:Z->Sem β}{Q:QS β}(z:wpAny M A (t>>=k) Q E J):wpAny M A (holding vs t>>=k) Q E J:=λΓ p mZ=>by
 have:=z Γ p mZ
 rw[bg]at this;rw[bg,Sem.wp_holding];exact this
end
section
theorem T.bindF{Q:QT xg mO}{r:R Z}{k:β->Sem mO}(x:T c P r t bA f J)(hs:∀a,bA a->eM a)(y:∀a s v bT f' bF,r=.ok a s->cD c bA f J s f' bF bT->P a v bT.heap f' bF->∃o,(∀a,o a->eM a\/J.heap.objs.size<=a)/\T c Q (g a s) (k v) o f' bT):T c Q (r.bind g) (t>>=k) eM f J:=by
 have up:∀{s f' bF bT},cD c bA f J s f' bF bT->cD c eM f J s f' bF bT:=λp=>⟨p.st,p.go.more hs,p.rest⟩
 induction r using iw with
 |ok a s=>
  show T c Q (g a s) _ _ _ _
  generalize e:g a s=zz;induction zz using iw with
  |ok b bK=>
   refine af (ak x (λv bT z=>cC z λf' o' p q=>?_) λY Y z=>z.elim)
   refine bW (y a s v bT f' o' rfl p q) λo ho z=>?_;rw[e]at z;exact z.up (up p).go ho p.rest
  |exc m bK=>
   refine af (ak x (λv bT z=>cC z λf' o' p q=>?_) λY Y z=>z.elim)
   refine bW (y a s v bT f' o' rfl p q) λo ho z=>?_;rw[e]at z;exact z.up (up p).go ho p.rest
  |no=>trivial
 |exc m s=>exact af (ak x (λY Y z=>z.elim) λY Y z=>cC z λf' o' p q=>(cz f' o' (up p) (q.up (λa z=>.inl (hs a z)) (aC _))))
 |no=>trivial
theorem cD.back(t1:St c s' J.heap f (λa=>bA a/\¬F a))(hF:eX c f (λa=>bA a/\¬F a) F)(sub:∀a,F a->bA a)(r:eD c.w J.heap f ov v F)(p:cD c (λa=>bA a/\¬F a) f J bK bU bE bJ):
  eD c.w bJ.heap bU ov v F/\eX c bU bE F/\∀(nm:cQ c bJ.heap n v) (e:bD bK.loc n=none) (hk:uc ov=false),cD c bA f J (bK.set n ov) bU (λa=>bE a\/F a) bJ:=by
 have r':=r.go p.go t1.wd.fok t1.free (λa q=>⟨(hF a q).1,(hF a q).2.1.y,(hF a q).2.1.sn⟩)
 have WV:eX c bU bE F:=λa q=>⟨λz=>by
  obtain y|y:=p.go.no a z
  ·exact y.2 q
  ·exact Nat.not_lt.mpr y (r.there a q),(hF a q).2.1.go p.go (hF a q).1 (r.there a q),(hF a q).2.2⟩
 refine⟨r',WV,λnm e hk=>⟨p.st.put e nm r' WV (λz=>by rw[hk]at z;exact dT z),(p.go.more λa q=>q.1).less λa q=>?_,p.rest⟩⟩
 obtain q|q:=q
 ·exact .inl q
 ·exact .inr (.inl (sub a q))
def Qi(cx:Cx)(b:Expr)(s:S)(y:Str)(cl:Addr)(fs:LO)(w:OV):Prop:=∃o a pos,b=.Attribute o a pos/\eu o=true/\bQ cx o s=some (y,.oi cl fs)/\hU cl a=true/\bD fs a=some w
theorem J6{b:Expr}{cl:Addr}{fs:LO}{w:OV}:gu cx b s=some (y,cl,fs,w)->Qi cx b s y cl fs w:=by
 induction b using PySem.Expr.casesOn with
 |Attribute o a pos=>
  show(match eu o,bQ cx o s with
   |true,some (x,.oi c fs)=>(match hU c a,bD fs a with
    |true,some w=>some _
    |_,_=>none)
   |_,_=>none)=_->_
  cases h1:eu o with
  |false=>exact c8
  |true=>
   cases h2:bQ cx o s with
   |none=>exact c8
   |some q=>
    obtain⟨x,ov⟩:=q;induction ov using OV.casesOn with
    |oi c' oK=>
     show(match hU c' a,bD oK a with|true,some w=>some _|_,_=>none)=_->_
     cases h3:hU c' a with
     |false=>exact c8
     |true=>cases h4:bD oK a with
      |none=>exact c8
      |some w'=>exact λz=>by cases z;exact(xG o a pos rfl h1 h2 h3 h4)
    |_=>exact c8
 |_=>exact c8
theorem GY{cl:Addr}{fs:LO}(t:eD w h f (.oi cl fs) v F):∃(u d:Addr) (m:SV) (g:Str->Value) (G:Str->AP),v=.ref u/\F=(λb=>b=u\/b=d\/∃n,(bD fs n).isSome/\G n b)/\h.get? u=some (instObj cl d)/\h.Ns1 d m/\∀n o,bD fs n=some o->m n=some (g n)/\gp w h f o (g n) (G n):=by
 refine xK t.i ?_;rintro _ _ _ _ _ rfl rfl e1 e2 e3 e4 e5 e6 e7;exact(VX _ _ _ _ _ rfl rfl e1 e2 e4)
theorem ve(x:St c s J.heap f bA){b:Expr}{cl:Addr}{fs:LO}{w:OV}(z:gu c.cx b s=some (y,cl,fs,w)):∃v g F,St c {s with loc:=eP s.loc y} J.heap f (λa=>bA a/\¬F a)/\eD c.w J.heap f (.oi cl fs) v F/\eX c f (λa=>bA a/\¬F a) F/\(∀a,F a->bA a)/\cQ c J.heap y v/\
  (∃a G,bD fs a=some w/\gp c.w J.heap f w g G/\∀a,G a->F a)/\∀{E Q:VP},Q g {J with toks:=J.toks+1}->wA c (eval b c.ev) Q E J:=by
 refine rY (J6 z) ?_;rintro o a pos rfl b0 q0 ok l;refine i5 (dK q0) ?_;rintro⟨p,rfl⟩ w1 l1 hk dn;refine iZ (x.take w1 l1 rfl dn) λv F t1 t2 t3 t4 t5 t6=>IW (GY t2) ?_;rintro u d m g G rfl rfl e1 e2 e4
 refine cH (e4 a w l) λg1 g2=>(VZ _ _ _ t1 t2 t3 t4 t5 (eF a _ l g2 (λb q=>.inr (.inr (cf a (by refine l▸?_;rfl) q)))) (λk=>?_))
 refine(lO b0)▸?_;exact af (bw (t6 rfl (fZ (gg x.X (f7 ok).1 (f7 ok).2 e1 rfl rfl rfl e2.ns g1 g2.handed k))) (d7 dn (by decide+kernel)))
noncomputable def rP(pos:Pos)(b i:Expr)(v u:Value):Sem Value:=standAt pos>>=λY=>subscriptTail b i v u
theorem kq{P:QT OV Value}{r:R OV}{b i:Expr}(z:T c P r (subscriptTail b i v u) bA f J):T c P r (rP pos b i v u) bA f J:=z.stand
theorem Bm(x:St c s J.heap f bA){k:AV}{n:Nat}{b i:Expr}(ra:VR c.w J.heap f a v)(rk:VR c.w J.heap f k u):T c (PO c bA n) (fw a k s) (rP pos b i v u) bA f J:=by
 induction a using AV.casesOn with
 |lst xs=>induction k using AV.casesOn with
  |int k=>obtain⟨y,vs,rfl,z1,l1,r1,n1⟩:=ra.i;refine cF rk.i ?_;rintro u rfl;exact kq (og x l1 r1 n1)
  |_=>trivial
 |tup xs=>induction k using AV.casesOn with
  |int k=>obtain⟨y,vs,rfl,z1,l1,r1,n1⟩:=ra.i;refine cF rk.i ?_;rintro u rfl;exact kq (Eh x l1 r1 n1)
  |_=>trivial
 |dct es=>induction k using AV.casesOn with
  |str k=>obtain⟨y,m,rfl,z1,l1,hm,r1,n1⟩:=ra.i;refine bW rk.i ?_;rintro u rfl _;exact kq (Bi x hm r1)
  |_=>trivial
 |_=>trivial
theorem Je(H:fE rc d c)(x:St c s J.heap f bA){b i:Expr}{m:Str}(z:bQ c.cx b s=some (m,ov)){g:AV->S->R OV}(y:∀{k} {bK} {u v} {bJ} {bU} {bE},cQ c bJ.heap m v->St (c.hold m v) bK bJ.heap bU bE->VR c.w bJ.heap bU k u->T (c.hold m v) (PO (c.hold m v) bE bJ.heap.objs.size) (g k bK) (rP pos b i v u) bE bU bJ):
  TO c bA J ((vl (rc.e c.cx i s)).bind g) (eval (.Subscript b i pos) c.ev) bA f J:=by
 refine pd (x.mineP z) ?_;rintro v F r nm ⟨p,rfl⟩ w l hk dn kk;refine T.tree (T.unpinO (T.bindO (((H _).v (x.pinned nm)).hold (vs:=[v])) λk bK u bJ bU bE dZ bM cj=>y bM.st.the bM.st cj)) λQ E z=>kI▸?_
 exact af (kk z)
theorem Jf(H:fE rc d c)(x:St c s J.heap f bA){b i:Expr}{cl:Addr}{fs:LO}{w:OV}(z:gu c.cx b s=some (y,cl,fs,w)){g:AV->S->R OV}(hg:∀k bK,bD bK.loc y≠none->g k bK=.no)(hy:∀{k} {bK} {u v fv} {bJ} {bU} {bE G:AP},bD bK.loc y=none->St (c.hold y v) (bK.set y (.oi cl fs)) bJ.heap bU bE->gp c.w bJ.heap bU w fv G->VR c.w bJ.heap bU k u->T (c.hold y v) (PO (c.hold y v) bE bJ.heap.objs.size) (g k bK) (rP pos b i fv u) bE bU bJ):
  TO c bA J ((vl (rc.e c.cx i {s with loc:=eP s.loc y})).bind g) (eval (.Subscript b i pos) c.ev) bA f J:=by
 obtain⟨v,fv,F,t1,t2,t3,t4,t5,⟨a,G,la,t6,t7⟩,t8⟩:=ve x z;have Q8:St (c.hold y v) _ {J with toks:=J.toks+1}.heap f (λa=>bA a/\¬F a):=t1.pinned t5
 refine T.unpinO (T.from (T.bindF (k:=λu=>rP pos b i fv u) (((H _).v Q8).hold (vs:=[fv])) (λa q=>q.1) λk bK u bJ bU bE dZ bM cj=>?_) (Go.refl bA J.heap f) (λY q=>.inl q) ⟨rfl,rfl⟩ λQ E z=>?_)
 ·generalize l:bD bK.loc y=zz;induction zz using i7 with
  |some ov=>
   have e:=hg k bK (by refine l▸?_;intro q;exact zi q)
   refine(cf bE (λa q=>(bM.go.no a q).imp_left And.left) ?_)
   refine e▸?_;trivial
  |none=>
   obtain⟨r1,r2,r3⟩:=cD.back Q8 (eX.pins t3) t4 t2 bM;have eA:=r3 bM.st.the l rfl;exact(cf _ eA.go.no ((hy l eA.st (t6.mono (bM.go.hz t1.wd.fok t1.free) (bM.go.sy t1.free) bM.go.le λb q=>bM.go.hard (t3 b (t7 b q)).1 (t3 b (t7 b q)).2.1.y (t3 b (t7 b q)).2.1.sn) cj).mono λY Y Y Y Y z=>z.up eA.go.no eA.go.size))
 ·refine kI▸?_
  exact af (t8 z)
theorem Bj(H:dz rc d c)(x:St c s J.heap f bA){b:Expr}{l u st:Option Expr}:TO c bA J ((vl (rc.e c.cx b s)).bind λa s=>(uB rc c.cx l s).bind λl s=>(uB rc c.cx u s).bind λu s=>(uB rc c.cx st s).bind λst s=>match a with
  | .lst xs=>(match lj xs l u st with|some ys=>.ok (.ol ys) s|none=>.no)
  |_=>.no) (eval (.Subscript b (.Slice l u st p) pos) c.ev) bA f J:=by
 refine(H.v x).viaO (λQ E z=>by rw[kI];exact af z) λa bK v bJ bU bE dZ bM cj=>?_
 refine(q9 H bM.st l).viaO (λQ E z=>iQ (gi z)) λlo eS lv il ec fh zH eA hZ=>?_
 refine(q9 H eA.st u).viaO (λQ E z=>gi (aD z)) λhi qz uv Xa ZC V' ZE DC TY=>?_
 refine(q9 H DC.st st).viaO (λQ E z=>gi (aD z)) λWm uA sv nO IC uM ZD L7 TX=>?_
 induction a using AV.casesOn with
 |lst xs=>
  show T c _ (match lj xs lo hi Wm with|some ys=>.ok (.ol ys) uA|none=>.no:R OV) _ _ _ _
  refine eE (lj xs lo hi Wm) (λq=>by trivial) λys q=>?_
  obtain⟨y,vs,rfl,z1,l1,r1,n1⟩:=(((cj.go eA.go bM.st.wd.fok bM.st.free).go DC.go eA.st.wd.fok eA.st.free).go L7.go DC.st.wd.fok DC.st.free).inv_lst;refine nN (Bn r1 q) λus w1 w2 w3 w4=>?_;have x5:St c uA (nO.heap.push {cls:=.type "slice",data:=.fields #[lv,uv,sv]}) IC uM:=L7.st.push _;have l5:fG (nO.heap.push {cls:=.type "slice",data:=.fields #[lv,uv,sv]}) y vs:=l1.hard λo e=>.inl (bZ _ _ _ _ e)
  refine af (wpAny_newObj_type (af (ay (kx l5.list.typeIs slot_list_getitem.lookup (wpAny_getItem_list_slice l5.list (Heap.IsSliceOf.new ..) hZ TY TX w4 ?_ (by refine aH▸r1.length▸aW▸?_;lia))))) (by size_fits))
  refine w1▸?_;refine cC (lF (J:={nO with heap:=nO.heap.push {cls:=.type "slice",data:=.fields #[lv,uv,sv]}}) (c:=c) (s:=uA) (f:=IC) (bA:=uM) (tk:=nO.toks) (as:=ys) (vs:=us) x5 (w2.push _) (by lia)) λf' bF m1 m2=>?_
  exact(cz f' bF ⟨m1.st,(Go.keeps (bA:=uM) (f:=IC) (bZ nO.heap _) (de nO.heap _)).trans m1.go λY q=>.inl q,⟨rfl,rfl⟩⟩ (m2.up (λY q=>.inl q) (de _ _)))
 |_=>trivial
theorem JD{m:Str}{b:Expr}(z:bQ c.cx b s=some (m,ov))(nm:cQ c J.heap m v)(x:St c bK J.heap f bA){q:Str×OV}(e:bQ c.cx b bK=some q):∃F,eD c.w J.heap f q.2 v F:=by
 refine dR (x.mineP e) λv' F r Qz Y=>cH (dK e) ?_;rintro⟨p',e'⟩ _
 refine cH (dK z) ?_;rintro⟨p,e0⟩ _;rw[<-((Expr.Name.inj (e0.symm.trans e')).1)]at Qz;exact⟨F,(cQ.eq nm Qz)▸r⟩
def Iq(cx:Cx)(b:Expr)(k:AV)(s:S):R OV:=match bQ cx b s,k with
 |some (_,.ol xs),.int k=>(match xl xs k with|some a=>cZ a s|none=>.no)
 |_,_=>.no
theorem NN(x:St c s J.heap f bA){m:Str}{b i:Expr}{k:AV}{n:Nat}(z:bQ c.cx b bK=some (m,.ol K6))(nm:cQ c J.heap m v)(rk:VR c.w J.heap f k u):T c (PO c bA n) (Iq c.cx b k s) (rP pos b i v u) bA f J:=by
 unfold Iq;refine eE (bQ c.cx b s) (λe=>by trivial) λq e=>cF (JD z nm x e) λF r=>?_
 obtain⟨m',ov⟩:=q;induction ov using rD with
 |ol xs=>induction k using AV.casesOn with
  |int k=>
   refine mM r.inv_ol.inv_ol ?_;rintro y vs rfl l1 r1 n1 _;refine cF rk.i ?_;rintro u rfl;exact kq (og x l1 r1 n1)
  |_=>trivial
 |_=>trivial
def sd(y:Str)(cl:Addr)(fs:LO)(xs:LA)(k:AV)(s:S):R OV:=match bD s.loc y,k with
 |none,.int k=>(match xl xs k with|some a=>cZ a (s.set y (.oi cl fs))|none=>.no)
 |_,_=>.no
theorem Bl{cl:Addr}{fs:LO}(k)(s)(q:bD s.loc y≠none):sd y cl fs xs k s=.no:=by
 unfold sd;refine eE (bD s.loc y) (λe=>absurd e q) λ_ e=>rfl
theorem Bk{cl:Addr}{fs:LO}{k:AV}{b i:Expr}{n:Nat}(l:bD s.loc y=none)(x:St c (s.set y (.oi cl fs)) J.heap f bA)(g:gp c.w J.heap f (.ol xs) fv G)(rk:VR c.w J.heap f k u):T c (PO c bA n) (sd y cl fs xs k s) (rP pos b i fv u) bA f J:=by
 unfold sd;refine l▸?_;induction k using AV.casesOn with
 |int k=>
  refine mM g.inv_ol ?_;rintro a vs rfl l1 r1 n1 _;refine cF rk.i ?_;rintro u rfl;exact kq (og x l1 r1 n1)
 |_=>trivial
theorem Az(H:fE rc d c)(x:St c s J.heap f bA){b i:Expr}:TO c bA J ((vl (rc.e c.cx b s)).bind λa s=>(vl (rc.e c.cx i s)).bind λk s=>fw a k s) (eval (.Subscript b i pos) c.ev) bA f J:=by
 refine T.tree (T.bindO (k:=λo=>holding [o] _>>=λu=>rP pos b i o u) (H.at.v x) λa bK v bJ bU bE dZ bM cj=>T.bindO (H.at.v bM.st).hold λk eS u il ec fh zH eA hZ=>Bm eA.st (cj.go eA.go bM.st.wd.fok bM.st.free) hZ) λQ E z=>kI▸?_
 exact z
def uW(rc:f9)(cx:Cx)(b i:Expr)(s:S):R OV:=match gu cx b s with
 |some (y,c,fs,.ol xs)=>(vl (rc.e cx i {s with loc:=eP s.loc y})).bind (sd y c fs xs)
 |_=>(vl (rc.e cx b s)).bind λa s=>(vl (rc.e cx i s)).bind λk s=>fw a k s
theorem qb(H:fE rc d c)(x:St c s J.heap f bA){b i:Expr}:TO c bA J (uW rc c.cx b i s) (eval (.Subscript b i pos) c.ev) bA f J:=by
 unfold uW;refine eE (gu c.cx b s) (λz=>Az H x) λq z=>?_
 obtain⟨y,cl,fs,w⟩:=q;induction w using rD with
 |ol xs=>exact Jf H x z Bl Bk
 |_=>exact Az H x
def AX(rc:f9)(cx:Cx)(b i:Expr)(s:S):R OV:=match bQ cx b s with
 |some (_,.ol _)=>(vl (rc.e cx i s)).bind (Iq cx b)
 |_=>uW rc cx b i s
theorem yA(H:fE rc d c)(x:St c s J.heap f bA){b i:Expr}:TO c bA J (AX rc c.cx b i s) (eval (.Subscript b i pos) c.ev) bA f J:=by
 unfold AX;refine eE (bQ c.cx b s) (λz=>qb H x) λq z=>?_
 obtain⟨m,ov⟩:=q;induction ov using rD with
 |ol xs=>exact Je H x z λnm RZ cj=>NN RZ z nm cj
 |_=>exact qb H x
theorem B'(H:fE rc d c)(x:St c s J.heap f bA){b i:Expr}:TO c bA J (Hm rc c.cx b i s) (eval (.Subscript b i pos) c.ev) bA f J:=by
 induction i using Expr.casesOn with
 |Slice=>exact Bj H.at x
 |_=>exact yA H x
end
inductive uw(w:World)(h:Heap)(f:Fz):List (Str×AV)->List (Str×Value)->Prop
 |nil:uw w h f [] []
 |cons {k:Str} {a:AV} {v:Value} {l:List (Str×AV)} {r:List (Str×Value)}:bD l k=none->VR w h f a v->uw w h f l r->uw w h f ((k,a)::l) ((k,v)::r)
section
theorem uw.go(G:Go o h f o' h' f')(ok:f.Ok)(fr:eI f o){l:LE}{r:List (Str×Value)}(p:uw w h f l r):uw w h' f' l r:=by
 induction p with
 |nil=>exact .nil
 |cons n a _ ih=>exact .cons n (a.go G ok fr) ih
theorem dY{k:Str}{r:List (Str×Value)}:valueAt ((k,v)::r) n=if k=n then some v else valueAt r n:=by
 unfold valueAt;by_cases e:k=n
 ·simp[e]
 ·simp[e]
theorem iG{k:Str}{a:Z}{l:List (Str×Z)}(e:bD ((k,a)::l) n=none):k≠n/\bD l n=none:=by
 rw[cO]at e;by_cases q:k=n
 ·rw[aA q]at e;exact c8 e.symm
 ·rw[au q]at e;exact⟨q,e⟩
theorem AG{k:Str}{a:Z}{l:List (Str×Z)}(q:k≠n)(i:n∉l.map (·.1)):n∉((k,a)::l).map (·.1):=by
 rw[aP,List.mem_cons];exact λz=>z.elim (λz=>q z.symm) i
theorem uw.at{l:LE}{r:List (Str×Value)}(p:uw w h f l r):(∀n,bD l n=none->valueAt r n=none)/\∀n,bD l n=none->n∉r.map (·.1):=by
 induction p with
 |nil=>exact⟨λY Y=>rfl,λY Y q=>nomatch q⟩
 |cons hn a l ih=>exact⟨λn e=>by rw[dY,au (iG e).1];exact ih.1 n (iG e).2,λn e=>AG (iG e).1 (ih.2 n (iG e).2)⟩
theorem uw.nodup{l:LE}{r:List (Str×Value)}(p:uw w h f l r):(r.map (·.1)).Nodup:=by
 induction p with
 |nil=>exact List.nodup_nil
 |cons hn a l ih=>exact List.nodup_cons.mpr ⟨l.at.2 _ hn,ih⟩
theorem vz{l:List (Str×Z)}:bD l n=none->n∉l.map (·.1):=by
 induction l with
 |nil=>exact λY q=>nomatch q
 |cons p l ih=>exact λe=>AG (iG e).1 (ih (iG e).2)
theorem uw.nodupL{l:LE}{r:List (Str×Value)}(p:uw w h f l r):(l.map (·.1)).Nodup:=by
 induction p with
 |nil=>exact List.nodup_nil
 |cons hn a l ih=>exact List.nodup_cons.mpr ⟨vz hn,ih⟩
theorem ix.congr{l:LE}(r:ix w h f b l m)(e:∀n,(bD l n).isSome->m' n=m n):ix w h f b l m':=by
 induction l with
 |nil=>exact .nil
 |cons p l ih=>
  obtain⟨v,hc,hn,q,r⟩:=ix.inv_cons r;exact .cons hc ((e _ (by obtain⟨k,a⟩:=p;rw[cO,aA rfl];rfl)).trans hn) q (ih r λn z=>e n (by
   refine eE (bD _ n) (λy=>?_) (λ_ y=>rfl)
   rw[(iG y).2]at z;exact z))
theorem uw.rel{l:LE}{r:List (Str×Value)}(p:uw w h f l r):ix w h f false l (valueAt r):=by
 induction p with
 |nil=>exact .nil
 | @cons k a v l r hn q _ ih=>exact .cons dT (by rw[dY,aA rfl]) q (ih.congr λn z=>by
   rw[dY,au];intro y;subst y;rw[hn]at z;exact dT z)
end
def PD(c:Fm)(l:LE)(vs:List (Value×Value))(h:Heap)(f:Fz)(bA:AP):Prop:=∃iR,Carries (strKind pw c.w) vs iR/\uw c.w h f l iR
section
theorem yH:∀{ks} {es},nZ ks es=true->ks.all (·.isSome)=true/\ks.length=es.length:=by
 intro ks;induction ks with
 |nil=>intro es q;induction es using eZ with
  |nil=>exact⟨rfl,rfl⟩
  |cons=>exact dT q
 |cons k ks ih=>intro es;induction k using i7 with
  |none=>exact dT
  |some k=>induction k using Expr.casesOn with
   |Constant c _ _=>induction c using PySem.Const.casesOn with
    |str n=>induction es using eZ with
     |nil=>exact dT
     |cons e es=>exact λq=>⟨by rw[List.all_cons,(ih q).1];rfl,by rw[aM,aM,(ih q).2]⟩
    |_=>exact dT
   |_=>exact dT
theorem qg{k:Str}{a:Nat}{Q:VP}(z:Q (.str k J.toks) {J with toks:=J.toks+1}):wpAny M A (eval (.Constant (.str k) a p) c.ev) Q E J:=wpAny_mkText z
section
variable{es:List Expr}
def we(l:LE)(n:Str)(a:AV)(s:S):R LE:=match bD l n with|none=>.ok ((n,a)::l) s|some _=>.no
theorem vF{r:R LE}(bM:St c bK bJ.heap bU bE)(cj:VR c.w bJ.heap bU av v)(y:T c (PD c) r (evalPairs (pairTrees ks es c.ev pos)) bE bU bJ):T c (PD c) (r.bind λl s=>we l n av s) (holding [.str n tk,v] (evalPairs (pairTrees ks es c.ev pos))>>=λl=>pure ((Value.str n tk,v)::l)) bE bU bJ:=by
 induction r using iw with
 |ok l eS=>
  show T c _ (we l n av eS) _ _ _ _
  unfold we;refine eE (bD l n) (λhn=>?_) (λ_ hn=>by trivial)
  exact af (aD (ak y (λvs bT z=>cC z λf' o' p z=>bW z λiR c1 c2=>aj ⟨f',o',p,(n,v)::iR,⟨strKind_is _ _ _ _,rfl,c1⟩,.cons hn (cj.go p.go bM.wd.fok bM.free) c2⟩) λY Y z=>z))
 |exc m eS=>exact af (aD (ak y (λY Y z=>z.elim) λY Y z=>z))
 |no=>trivial
theorem tJ(H:dz rc d c){a:Nat}{b:Pos}(ih:∀s bA f J,St c s J.heap f bA->T c (PD c) (jR rc c.cx ks es s) (evalPairs (pairTrees ks es c.ev pos)) bA f J)(x:St c s J.heap f bA):T c (PD c) ((vl (rc.e c.cx e s)).bind λa s=>(jR rc c.cx ks es s).bind λl s=>we l n a s) (evalPairs (pairTrees (some (.Constant (.str n) a b)::ks) (e::es) c.ev pos)) bA f J:=by
 refine T.from (J:={J with toks:=J.toks+1}) (T.via (k:=λv=>holding [.str n J.toks,v] (evalPairs (pairTrees ks es c.ev pos))>>=λl=>pure ((Value.str n J.toks,v)::l)) (H.v x) (λQ E z=>?_) λav bK v bJ bU bE dZ bM cj=>(vF bM.st cj (ih bK bE bU bJ bM.st))) (Go.refl bA J.heap f) (λY q=>.inl q) ⟨rfl,rfl⟩ λQ E z=>af (qg z)
 ·exact iQ (gi (ak z (λv s' y=>gi (ay (af (aj y)))) λY Y y=>y))
end
theorem yC(H:dz rc d c)(ks):∀es s bA f J,St c s J.heap f bA->T c (PD c) (jR rc c.cx ks es s) (evalPairs (pairTrees ks es c.ev pos)) bA f J:=by
 induction ks with
 |nil=>intro es s bA f J x;induction es using eZ with
  |nil=>exact evalPairs_nil ⟨f,bA,.refl x,[],trivial,.nil⟩
  |cons=>trivial
 |cons k ks ih=>intro es s bA f J x;induction k using i7 with
  |none=>trivial
  |some k=>induction k using Expr.casesOn with
   |Constant c _ _=>induction c using PySem.Const.casesOn with
    |str n=>induction es using eZ with
     |nil=>trivial
     |cons e es=>exact tJ H (ih es) x
    |_=>trivial
   |_=>trivial
theorem cD.alien{a:Addr}(p:cD c bA f J s bU bE bJ)(n:¬bA a)(l:a<J.heap.objs.size)(x:ni c f a):¬bE a/\ni c bU a/\ed J.heap bJ.heap a:=
 ⟨λz=>(p.go.no a z).elim n (Nat.not_le.mpr l),x.go p.go n l,p.go.hard n x.y x.sn⟩
theorem St.other{a:Addr}(x:St c s h f bA)(hs:Heap.SameBut a h h')(n:¬bA a)(fr:ni c f a):St c s h' f bA:=
 x.frame (Go.at hs rfl) (λb q=>by subst q;exact⟨fr.z,fr.y,fr.sn⟩) (λb z q=>n (q▸z)) (λe he L q z=>fr.out e he (z▸q)) (x.wd.at hs fr.z fr.y fr.sn fr.sb)
theorem Gj(H:dz rc d c){es:List Expr}(x:St c s J.heap f bA):TO c bA J (match Nat.ble ks.length 15,nZ ks es with|true,true=>(jR rc c.cx ks es s).bind λl s=>.ok (.od l) s|_,_=>.no) (eval (.Dict ks es pos) c.ev) bA f J:=by
 refine fS (Nat.ble ks.length 15) (λq1=>by trivial) λq1=>fS (nZ ks es) (λq2=>by trivial) λq2=>?_
 refine cH (yH q2) λha hl=>?_;have fr:=x.fresh1 (aC _);have x0:St c s (J.heap.push {cls:=.type "dict",data:=.dict #[]}) f bA:=x.push _;have WA:J.heap.objs.size≠sysModules:=λz=>by
  have:=aK x.ptl x.wd.sbz
  rw[z]at this;exact absurd this (by decide)
 have YG:(J.heap.push {cls:=.type "dict",data:=.dict #[]}).get? J.heap.objs.size=some {cls:=.type "dict",data:=.dict #[]}:=aE _ rfl
 have g0:Go bA J.heap f bA (J.heap.push {cls:=.type "dict",data:=.dict #[]}) f:=Go.keeps (bZ _ _) (de _ _)
 induction ks using eZ with
 |nil=>
  induction es using eZ with
  |cons=>exact dT q2
  |nil=>
   refine T.ret ?_;show wA c (standAt pos>>=λY=>newObj _ (.dict #[])) _ _ J
   refine af (ay (wpAny_newObj_type (cz f bA ⟨x0,g0,rfl,rfl⟩ (PO.of (.fl (.od WA ⟨(cf _ (Heap.DictOf.new J.heap) rfl),List.nodup_nil⟩ .nil λY Y=>rfl)) (λa q=>by subst q;exact fr) λa q=>.inr (aR q.symm))) (by size_fits)))
 |cons k ks=>
  have y:=yC H (pos:=pos) (k::ks) es s bA f {J with heap:=J.heap.push {cls:=.type "dict",data:=.dict #[]}} x0
  have hw:∀{Q E:VP},wA c _ (λvs bK=>∃iR,Carries _ vs iR/\bK.heap.DictOf _ J.heap.objs.size []/\∀h',h'.DictOf (strKind pw c.w) J.heap.objs.size (merged [] iR)->Heap.SameBut J.heap.objs.size bK.heap h'->Q _ _) E _->
    wA c (eval (.Dict _ es pos) c.ev) Q E J:=λz=>wpAny_Dict_walk ha hl (by intro q;injection q) (aB q1) z
  generalize r:jR rc c.cx _ es s=zz;induction zz using iw with
  |no=>trivial
  |exc m eS=>
   rw[r]at y;exact hw (ak y (λY Y z=>z.elim) λe bK z=>cC z λf' o' p q=>(cz f' o' ⟨p.st,g0.trans p.go λY q=>.inl q,p.rest⟩ (q.up (λY q=>.inl q) (de _ _))))
  |ok l eS=>
   rw[r]at y;refine hw (ak y (λvs bK z=>cC z λf' o' p z=>bW z λiR c1 c2=>?_) λY Y z=>z.elim)
   refine fF (p.alien fr.1 (aF YG) fr.2.1) λa1 a2 a3=>(ej iR c1 ?_ (λh' hm hs=>?_))
   ·refine D4 (Heap.DictOf.new (knd:=strKind pw c.w) J.heap) λob Gy ep t1 t2=>(D0 ob Gy ep (a3.exact t1 (by rw[t2.1.1];decide)) t2)
   ·rw[merged_nil_of_nodup _ c2.nodup]at hm
    have G2:Go (λb=>b=J.heap.objs.size) bK.heap f' (λb=>b=J.heap.objs.size) h' f':=Go.at hs rfl
    have c3:=c2.go G2 p.st.wd.fok λb q=>by subst q;exact⟨a2.z,a2.y,a2.sn⟩
    refine(cz f' o' ⟨(p.st.other hs a1 a2),((g0.trans p.go λY q=>.inl q).trans G2 λb q=>.inr (aR q.symm)).less λb q=>.inr ((g0.trans p.go λY q=>.inl q).no b q),p.rest⟩ (PO.of (.fl (.od WA ⟨(cf _ hm rfl),c3.nodupL⟩ c3.rel c3.at.1)) (λa q=>by subst q;exact⟨a1,a2,fr.2.2⟩) λa q=>.inr (aR q.symm)))
end
theorem jj(x):PyData.strOk (Str.ofString x)=true:=by
 unfold PyData.strOk;rw[Array.all_eq_true'];intro n hn;rw[<-Array.mem_toList_iff,signs_ofString,List.mem_map]at hn;refine bW hn ?_;rintro ch _ rfl;rw[decide_eq_true_eq];have h:=ch.valid;have:ch.val.toNat<1114112:=by
  obtain h|h:=h
  ·exact Nat.lt_trans h (by decide)
  ·exact h.2
 exact this
section
theorem T.viaK{Q:QT xg mO}{r:R Z}{K:β->(QS mO)->QS VP}(x:T c P r t bA f J)(hw:∀Q E,wpAny (Md c.w) c.A t (λv s'=>K v Q E s') E J->wpAny (Md c.w) c.A t' Q E J)(y:∀a s v bT f' bF,r=.ok a s->cD c bA f J s f' bF bT->P a v bT.heap f' bF->(g a s=.no)\/∃kX,(∀Q E,(∀tk,wpAny (Md c.w) c.A kX Q E {bT with toks:=tk})->K v Q E bT)/\∀tk,T c Q (g a s) kX bF f' {bT with toks:=tk}):T c Q (r.bind g) t' bA f J:=by
 induction r using iw with
 |ok a s=>
  show T c Q (g a s) _ _ _ _
  generalize e:g a s=zz;induction zz using iw with
  |ok b bK=>
   refine hw _ _ (ak x (λv bT z=>cC z λf' o' p q=>?_) λY Y z=>z.elim)
   obtain z|⟨kX,h1,z⟩:=y a s v bT f' o' rfl p q
   ·rw[e]at z;injection z
   ·rw[e]at z
    exact h1 _ _ λtk=>(z tk).up p.go p.go.no p.rest
  |exc m bK=>
   refine hw _ _ (ak x (λv bT z=>cC z λf' o' p q=>?_) λY Y z=>z.elim)
   obtain z|⟨kX,h1,z⟩:=y a s v bT f' o' rfl p q
   ·rw[e]at z;injection z
   ·rw[e]at z
    exact h1 _ _ λtk=>(z tk).up p.go p.go.no p.rest
  |no=>trivial
 |exc m s=>exact hw _ _ (ak x (λY Y z=>z.elim) λY Y z=>z)
 |no=>trivial
theorem xY(h:et i=true):i.natAbs<=9223372036854775808:=by
 cases i with
 |ofNat n=>have:n<9223372036854775808:=aB h;show n<=_;lia
 |negSucc n=>have:n<9223372036854775808:=aB h;show n+1<=_;lia
theorem pU(h:et i=true):i.natAbs.log2<1920:=by
 have:=xY h
 by_cases z:i.natAbs=0
 ·rw[z];decide
 ·have y:i.natAbs.log2<64:=(Nat.log2_lt z).mpr (Nat.lt_of_le_of_lt this (by decide))
  lia
def JK(rc:f9)(c:Fm)(l:List Expr):Prop:=∀(out:Str) (s:S) (bA:AP) (f:Fz) (J:Shared),St c s J.heap f bA->out.cps.size<=100000->PyData.strOk out=true->TO c bA J (fW rc c.cx out l s) (joinParts out (evalEach l c.ev)) bA f J
theorem qP(q:fg (out.cps.size+y.cps.size)=true):(out++y).cps.size<=100000:=by rw[Str.cps_append,Array.size_append];exact jo q
theorem mV(q:y.cps.size<=100000):y.length<=sizeLine:=by rw[aW];show y.cps.size<=_;lia
theorem BI(k:JK rc c l){a:Nat}{b:Pos}(x:St c s J.heap f bA)(h2:PyData.strOk out=true):TO c bA J (fW rc c.cx out (.Constant (.str y) a b::l) s) (joinParts out (evalEach (.Constant (.str y) a b::l) c.ev)) bA f J:=by
 show T c _ (match fg _,PyData.strOk y with|true,true=>fW rc c.cx _ l s|_,_=>.no) _ _ _ _
 refine fS (fg _) (λq1=>by trivial) λq1=>fS (PyData.strOk y) (λq2=>by trivial) λq2=>T.from (J:={J with toks:=J.toks+1}) (k _ s bA f _ x (qP q1) (gK h2 q2)) (Go.refl bA J.heap f) (λY q=>.inl q) ⟨rfl,rfl⟩ λQ E z=>joinParts_cons (qg ⟨mV (qP q1),z⟩)
set_option backward.match.sparseCases true in
abbrev Mr(c:Fm)(out:Str)(l:List Expr)(Q E:VP):VP:=λv bK=>match v with
 | .str y _=>(out++y).length<=sizeLine/\wA c (joinParts (out++y) (evalEach l c.ev)) Q E bK
 |_=>False
def D2(c:Fm)(out:Str)(l:List Expr)(P:QT OV Value)(bA:AP)(f:Fz)(J:Shared)(u:Value)(r:R OV):Prop:=(r=.no)\/∃kX:Sem Value,(∀Q E,(∀tk,wA c kX Q E {J with toks:=tk})->wA c (formatField u Str.empty) (Mr c out l Q E) E J)/\∀tk,T c P r kX bA f {J with toks:=tk}
section
variable{out:Str}{P0:QT OV Value}
theorem AW(k:JK rc c l)(h2:PyData.strOk out=true)(x:St c s J.heap f bA)(hn:∀a t h f o,PO c bA J.heap.objs.size a t h f o->P0 a t h f o)(k1:fg (out.cps.size+y.cps.size)=true)(k2:PyData.strOk y=true)(k3:∀{E:VP} {Q:VP},(∀t tk,Q (.str y t) {J with toks:=tk})->wA c (formatField v Str.empty) Q E J):D2 c out l P0 bA f J v (fW rc c.cx (out++y) l s):=
 .inr (cf _ (λQ E z=>k3 λt tk=>⟨mV (qP k1),z tk⟩) (λtk=>(k _ s bA f {J with toks:=tk} x (qP k1) (gK h2 k2)).mono hn))
def Mq(rc:f9)(cx:Cx)(out:Str)(l:List Expr)(a:AV)(s:S):R OV:=match a with
 | .int i=>(match et i,fg (out.cps.size+(fj i).cps.size)with|true,true=>fW rc cx (out++fj i) l s|_,_=>.no)
 | .str x=>(match fg (out.cps.size+x.cps.size)with|true=>fW rc cx (out++x) l s|false=>.no)
 |_=>.no
theorem E9(k:JK rc c l)(h2:PyData.strOk out=true)(x:St c s J.heap f bA)(hn:∀a t h f o,PO c bA J.heap.objs.size a t h f o->P0 a t h f o)(r:VR c.w J.heap f a v):D2 c out l P0 bA f J v (Mq rc c.cx out l a s):=by
 induction a using AV.casesOn with
 |int i=>
  refine cF r.i ?_;rintro t rfl;show D2 c out l P0 bA f J _ (match et i,fg _ with|true,true=>fW rc c.cx _ l s|_,_=>.no)
  refine fS (et i) (λq1=>.inl rfl) λq1=>fS (fg _) (λq2=>.inl rfl) λq2=>AW k h2 x hn q2 (jj _) λk=>formatField_int_small (pU q1) (k _ _)
 |str y=>
  refine dI r.i ?_;rintro t rfl o1 o2;show D2 c out l P0 bA f J _ (match fg _ with|true=>fW rc c.cx _ l s|false=>.no)
  refine fS (fg _) (λq2=>.inl rfl) λq2=>AW k h2 x hn q2 o2 λk=>formatField_str k (mV o1)
 |_=>exact .inl rfl
theorem BJ(H:dz rc d c)(k:JK rc c l)(h2:PyData.strOk out=true)(x:St c s J.heap f bA):TO c bA J ((vl (rc.e c.cx e s)).bind λa s=>Mq rc c.cx out l a s) (joinParts out (evalEach (.FormattedValue e (.negSucc 0) none pos::l) c.ev)) bA f J:=
 T.viaK (K:=λv Q E bK=>wA c _ (Mr c out l Q E) E bK) (H.v x) (λQ E z=>joinParts_cons (FormattedValue_plain z)) λa bK u bJ bU bE dZ bM cj=>E9 k h2 bM.st (λY Y Y Y Y z=>z.up bM.go.no bM.go.size) cj
end
theorem yB(H:dz rc d c)(ps):JK rc c ps:=by
 induction ps with
 |nil=>exact λout s bA f J x h1 h2=>joinParts_nil (cz f bA (.tk x) (.v (.str _ _ h1 h2))) (mV h1)
 |cons p l k=>
  intro out s bA f J x h1 h2;induction p using Expr.casesOn with
  |Constant c _ _=>induction c using PySem.Const.casesOn with
   |str y=>exact BI k x h2
   |_=>trivial
  |FormattedValue e cv sp pos=>cases cv with
   |ofNat _=>trivial
   |negSucc n=>cases n with
    |succ _=>trivial
    |zero=>induction sp using i7 with
     |some _=>trivial
     |none=>exact BJ H k h2 x
  |_=>trivial
theorem yW(H:dz rc d c){p q:Expr}{ps:List Expr}(x:St c s J.heap f bA):TO c bA J (fW rc c.cx ⟨#[]⟩ (p::q::ps) s) (eval (.JoinedStr (p::q::ps) pos) c.ev) bA f J:=
 yB H _ ⟨#[]⟩ s bA f J x (by decide) (by unfold PyData.strOk;simp)
end
theorem Runs.grow{t:Sem Fin}{fs:List Frame}{s s':Shared}{e:End}(h:Runs M Γ p t fs s e s'):s.heap.objs.size<=s'.heap.objs.size:=by
 induction h with
 |done=>exact aC _
 |raise=>exact aC _
 |again _ _ i=>exact i
 |rule _ i=>exact i
 |«at» _ i=>exact i
 |load _ _ i=>exact i
 |update _ _ i=>rw[<-(aI ..).1];exact i
 |loadIfAlive _ i=>exact i
 |point _ i=>exact i
 |alloc _ i=>exact aq (de _ _) i
 |fresh _ i=>exact i
 |ask _ i=>exact i
 |choose _ _ i=>exact i
 |os _ i=>exact i
 |handled _ i=>exact i
 |genState _ _ i=>exact i
 |stack _ i=>exact i
 |thread _ i=>exact i
 |newGen _ i=>exact i
 |call _ _ i j=>exact aq i j
 |callSusp _ i=>exact i
 |yield=>exact aC _
 |resumeFresh _ _ _ _ i j=>exact aq i j
 |resumeSuspended _ _ _ _ i j=>exact aq i j
 |resumeJustStarted _ _ _ i=>exact i
 |resumeThrowFresh _ _ i=>exact i
 |resumeRunning _ _ i=>exact i
 |resumeFinished _ _ i=>exact i
 |segRet _ _ i j=>exact aq i j
 |segGen _ _ i j=>exact aq i j
 |segSuspOut _ _ i=>exact i
 |segSuspGen _ _ _ _ i j=>exact aq i j
theorem Wakes.grow{g:Nat}{r:Resume}{s s':Shared}(h:Wakes M Γ p g r s Di s'):s.heap.objs.size<=s'.heap.objs.size:=by
 unfold Wakes at h
 repeat' split at h
 all_goals first
  |exact h.elim
  |(refine jN h λe bK h1 h2 h3 h4=>?_;subst h4;exact(Runs.grow h1:_<=bK.heap.objs.size))
  |(refine cH h λh1 h2=>?_;subst h2;exact aC _)
set_option tactic.hygienic true in
theorem D7{Γ:Ctx}{t:Sem Z}{Q:Z->QS Pos}{E:Value->QS Pos}{n:Nat}:∀{p:Pos} {s:Shared},n<=s.heap.objs.size->Sem.wp M Γ t Q E p s->Sem.wp M Γ t (λa p s'=>n<=s'.heap.objs.size/\Q a p s') (λe p s'=>n<=s'.heap.objs.size/\E e p s') p s:=by
 induction t with
 |pure a=>intro p s hn h;rw[Sem.wp]at h⊢;exact⟨hn,h⟩
 |«raise» e=>intro p s hn h;rw[Sem.wp]at h⊢;exact⟨hn,h⟩
 |update a pt f k ih=>intro p s hn h;rw[Sem.wp]at h⊢;exact⟨h.1,ih () (by show n<=(s.heap.update a f).objs.size;rw[(aI ..).1];exact hn) h.2⟩
 |alloc o k ih=>intro p s hn h;rw[Sem.wp]at h⊢;exact ih _ (aq hn (de _ _)) h
 |load a pt k ih=>intro p s hn h;rw[Sem.wp]at h⊢;refine bW h λo h1 h2=>?_;exact(cf o h1 (ih _ hn h2))
 |choose src m k ih=>intro p s hn h;rw[Sem.wp]at h⊢;exact⟨h.1,ih _ hn h.2⟩
 |call c hd g l k ih=>
  intro p s hn h;rw[Sem.wp]at h⊢;refine cC h λr s' h1 h2=>?_;exact(cz r s' h1 (ih _ (aq hn (Runs.grow h1)) h2))
 |genState g k ih=>intro p s hn h;rw[Sem.wp]at h⊢;refine bW h λo h1 h2=>?_;exact(cf o h1 (ih _ hn h2))
 |resume g r l k ih=>
  intro p s hn h;rw[Sem.wp]at h⊢;refine cC h λDi s' h1 h2=>?_;exact(cz Di s' h1 (ih _ (aq hn (Wakes.grow h1)) h2))
 |_=>intro p s hn h;rw[Sem.wp]at h⊢<;>first|exact h|(rename_i ih;exact ih _ hn h)
theorem jT{t:Sem Z}{Q:QS Z}{s:Shared}(h:wpAny M A t (λa s'=>s.heap.objs.size<=s'.heap.objs.size->Q a s') (λe s'=>s.heap.objs.size<=s'.heap.objs.size->E e s') s):wpAny M A t Q E s:=λΓ p mZ=>by
 refine Sem.wp_mono M Γ t (λa p' s' z=>(z.2 z.1)) (λe p' s' z=>(z.2 z.1)) p s (D7 (aC _) (h Γ p mZ))
def DS(P:Params)(D:Addr):Bool:=mroIn (KF P) D (.type "object")==some true&&findIn (KF P) (.ref D) "__class__"==some (some (.builtin "object.__class__"))&&(Nat.beq D gG||kin_not (KF P) D gG)&&kin_notT (KF P) D "str"
theorem FJ(P):([jE,gG,o6,jd,nI,o7,qH,dD].all λC=>DS P C)=true:=by kernel_rfl
theorem kH(P):specialIn (KF P) (.builtin "object.__class__") "__get__"=some (some (.builtin "getset_descriptor.__get__"))/\takesIn (KF P) (.builtin "object.__class__")=some true:=⟨by kernel_rfl,by kernel_rfl⟩
section
theorem cD.kept(x:St c s J.heap f bA)(k:∀b o,J.heap.get? b=some o->h'.get? b=some o)(sz:J.heap.objs.size<=h'.objs.size):cD c bA f J s f bA {J with heap:=h',toks:=tk}:=⟨x.keeps k sz,.keeps k sz,rfl,rfl⟩
theorem HV(x:St c s J.heap f bA)(r:VR c.w J.heap f a v):∃f' bF,cD c bA f J s f' bF {J with toks:=tk}/\PO c bA k (.v a) v J.heap f' bF:=(cz f bA (.tk x) (.v r))
theorem wZ{l:List Str}(e:dc jF d=some l):d∈[jE,gG,o6,jd,nI,o7,qH,dD]:=qr _ (fY e)
theorem wM{l:List Str}{fs:LE}(q:dc jF d=some l)(r:VR c.w J.heap f (.ins d fs) v):∃y ox od,v=.ref y/\InstAt J.heap y ox d (some od)/\pQ c.w.params d/\DS c.w.params d=true:=by
 refine V6 r.inv_ins ?_;rintro y dd m ox rfl a1 a2 a3 a4 a5 a6 a7 _;refine bW (jn a3 a4 a5 a6 a7.ns) λod I Y=>(xH y ox od rfl I (Aq (wZ q)) (List.all_eq_true.mp (FJ _) d (wZ q)))
theorem w6{P:Params}{d:Addr}(ch:DS P d=true):((mroIn (KF P) d (.type "object")=some true/\findIn (KF P) (.ref d) "__class__"=some (some (.builtin "object.__class__")))/\(Nat.beq d gG=true\/kin_not (KF P) d gG=true))/\kin_notT (KF P) d "str"=true:=by
 unfold DS at ch;simp only[aO,beq_iff_eq,Bool.or_eq_true]at ch;exact ch
theorem E1(x:St c s J.heap f bA){fs:LE}{t:Bool}(e:IB d c'=some t)(ra:VR c.w J.heap f (.ins d fs) v)(rb:VR c.w J.heap f (.ad c') u):T c (PO c bA k) (cZ (.bool t) s) (call (.builtin "isinstance") [v,u]) bA f J:=by
 unfold IB at e;refine eE (dc jF d) (λq1=>by rw[q1]at e;exact c8 e) λl q1=>?_
 rw[q1]at e;refine fS (Nat.beq c' gG) (λq2=>by rw[q2]at e;exact c8 e) λq2=>?_
 rw[q2]at e;obtain rfl:=oI e;refine uH (wM q1 ra) ?_;rintro y ox od rfl I K ch;obtain rfl:=rb.i;have q3:=bo q2;subst q3;refine cH (w6 ch) ?_;rintro⟨⟨c1,c2⟩,c3⟩ c4;generalize q:Nat.beq d gG=zz;induction zz using i8 with
 |true=>
  have q4:=bo q
  subst q4;exact isi_call x.X (λM=>I.type) (by unfold isIn;simp) (by intro z;injection z) (HV x (.bool true))
 |false=>
  refine bW K.hd λcd h1 h2=>kin_callC x.X I (c3.resolve_left (by rw[q];decide)) ?_ ?_ c2 (kH _).1 (kH _).2 c1 (HV x (.bool false))
  ·unfold plainGet;rw[K.ga,K.gx];rfl
  ·unfold hasDictIn;rw[h1];exact h2
theorem EZ(x:St c s J.heap f bA){n:String}{fs:LE}{t:Bool}(e:Iz d n=some t)(ra:VR c.w J.heap f (.ins d fs) v)(rb:VR c.w J.heap f (.ty n) u):T c (PO c bA k) (cZ (.bool t) s) (call (.builtin "isinstance") [v,u]) bA f J:=by
 unfold Iz at e;by_cases q:n="str"
 ·rw[aA q]at e
  refine eE (dc jF d) (λq1=>by rw[q1]at e;exact c8 e) λl q1=>?_
  rw[q1]at e;obtain rfl:=oI e;refine uH (wM q1 ra) ?_;rintro y ox od rfl I K ch;obtain rfl:=rb.i;subst q;refine cH (w6 ch) ?_;rintro⟨⟨c1,c2⟩,c3⟩ c4;refine bW K.hd λcd h1 h2=>kin_callT x.X I c4 (by rfl) ?_ ?_ c2 (kH _).1 (kH _).2 c1 (HV x (.bool false))
  ·unfold plainGet;rw[K.ga,K.gx];rfl
  ·unfold hasDictIn;rw[h1];exact h2
 ·rw[au q]at e;exact c8 e
theorem E0(x:St c s J.heap f bA){n:String}{t:Bool}(e:IA n=some t)(ra:VR c.w J.heap f (.str y) v)(rb:VR c.w J.heap f (.ty n) u):T c (PO c bA k) (cZ (.bool t) s) (call (.builtin "isinstance") [v,u]) bA f J:=by
 unfold IA at e;by_cases q:n="str"
 ·rw[aA q]at e
  obtain rfl:=oI e;refine bW ra.i ?_;rintro _ rfl _;obtain rfl:=rb.i;subst q;exact PyProof.Rows.call_isinstance_yes (typeIs_str _ _ _) rfl PySem.isSubtype_str_str (HV x (.bool true))
 ·rw[au q]at e;exact c8 e
theorem JX(x:St c s J.heap f bA){b:AV}{t:Bool}(e:Rx a b=some t)(ra:VR c.w J.heap f a v)(rb:VR c.w J.heap f b u):T c (PO c bA k) (cZ (.bool t) s) (call (.builtin "isinstance") [v,u]) bA f J:=by
 induction a using AV.casesOn with
 |ins d fs=>induction b using AV.casesOn with
  |ad c'=>exact E1 x e ra rb
  |ty n=>exact EZ x e ra rb
  |_=>exact c8 e
 |str y=>induction b using AV.casesOn with
  |ty n=>exact E0 x e ra rb
  |_=>exact c8 e
 |_=>exact c8 e
theorem xX{n:Int}(h:et n=true): -(2^63)<=n/\n<2^63:=by
 cases n with
 |ofNat m=>have:m<9223372036854775808:=aB h;rw[show Int.ofNat m=m from rfl];lia
 |negSucc m=>have:m<9223372036854775808:=aB h;lia
theorem dw.one(r:dw w h f [a] vs):∃v,vs=[v]/\VR w h f a v:=by
 obtain⟨v,us,rfl,ra,r2⟩:=r.inv_cons;rw[r2.inv_nil];exact cf v rfl ra
theorem dw.two{b:AV}(r:dw w h f [a,b] vs):∃v u,vs=[v,u]/\VR w h f a v/\VR w h f b u:=by
 obtain⟨v,us,rfl,ra,r2⟩:=r.inv_cons;refine bW r2.one ?_;rintro u rfl rb;exact(eF _ _ rfl ra rb)
theorem lC{n:Int}(h:et n=true):Builtin.Range.small 0 n 1=true:=by
 refine cH (xX h) λh1 h2=>?_;unfold Builtin.Range.small;rw[rangeSize_one];simp only[Builtin.Range.rangeFitsLong,if_true]
 split<;>lia
theorem dw.ints:∀{vs:LV} {a b},dw w h f xs vs->rO a xs=some b->∃ns,IntsAre vs ns/\b=a+ns.sum:=by
 induction xs with
 |nil=>intro vs a b r e;obtain rfl:=r.inv_nil;obtain rfl:=oI e;exact(cf _ .nil (by simp))
 |cons x xs ih=>
  intro vs a b r e;induction x using AV.casesOn with
  |int i=>
   obtain⟨v,us,rfl,r1,l⟩:=r.inv_cons;refine cF r1.i ?_;rintro t rfl;refine bW (ih l e) λns h1 h2=>(cf _ (.cons _ _ h1) (by rw[List.sum_cons];lia))
  |_=>exact c8 e
section
variable{b:AV}
theorem F4(x:St c s J.heap f bA)(ra:VR c.w J.heap f a v):T c (PO c bA k) (IJ [a] s) (call (.builtin "len") [v]) bA f J:=by
 induction a using AV.casesOn with
 |str y=>
  refine dI ra.i ?_;rintro t rfl h1 h2;exact PySem.P.len_str (by show¬_≥2^63;unfold Str.length;lia) (HV x (.int _ _))
 |lst xs=>
  obtain⟨y,us,rfl,z,l,r1,n1⟩:=ra.i;refine Calls.call_len_list l.list (by rw[aH,<-r1.length];lia) ?_
  rw[aH,<-r1.length];exact HV x (.int _ _)
 |_=>trivial
theorem Kw(x:St c s J.heap f bA)(ra:VR c.w J.heap f a v)(rb:VR c.w J.heap f b u):T c (PO c bA k) (QV [a,b] s) (call (.builtin "isinstance") [v,u]) bA f J:=by
 unfold QV;dsimp only;refine eE (Rx a b) (λq=>by trivial) λt q=>JX x q ra rb
theorem F3(x:St c s J.heap f bA)(hh:c.A.handled=none)(ra:VR c.w J.heap f a v)(rb:VR c.w J.heap f b u):T c (PO c bA k) (HA a b s) (call (.builtin "max") [v,u]) bA f J:=by
 induction a using AV.casesOn with
 |int i=>induction b using AV.casesOn with
  |int j=>
   refine cF ra.i ?_;rintro _ rfl;refine cF rb.i ?_;rintro _ rfl;refine jT (max_two_ints hh λh' tk kp sz=>(cz f bA (.kept x kp sz) ?_))
   by_cases q:i<j
   ·rw[aA q,aA q];exact .v (.int _ _)
   ·rw[au q,au q];exact .v (.int _ _)
  |_=>trivial
 |_=>trivial
theorem FY(x:St c s J.heap f bA)(hh:c.A.handled=none)(ra:VR c.w J.heap f a v):T c (PO c bA k) (Hz a s) (call (.builtin "sum") [v]) bA f J:=by
 induction a using AV.casesOn with
 |lst xs=>
  show T c _ (match rO 0 xs with|some n=>cZ _ s|none=>.no) _ _ _ _
  refine eE (rO 0 xs) (λq=>by trivial) λm q=>?_
  obtain⟨y,us,rfl,z,l,r1,n1⟩:=ra.i;refine bW (r1.ints q) λns h1 h2=>cF h1.allInts.items λps hx=>?_
  refine jT (sum_intListG hh (hx▸l.list) λh' tk t' kp sz=>(cz f bA (.kept x kp sz) ?_))
  have e1:ns=ps.toList.map (·.1):=by
   rw[<-nums_intItems,<-hx];exact(h1.numsOf).symm
  have e2:preSum (numAt ps) ps.size=m:=by
   rw[preSum_eq,List.take_of_length_le (by simp),h2];lia
  rw[e2];exact .v (.int _ _)
 |_=>trivial
theorem dw.case(Q:LA->LV->Prop)(r:dw c.w h f as vs)(h0:∀vs,Q [] vs)(h1:∀a v,VR c.w h f a v->Q [a] [v])(h2:∀a b v u,VR c.w h f a v->VR c.w h f b u->Q [a,b] [v,u])(h3:∀a b e l vs,Q (a::b::e::l) vs):Q as vs:=by
 induction as using eZ with
 |nil=>exact h0 vs
 |cons a as=>induction as using eZ with
  |nil=>refine bW r.one ?_;rintro v rfl ra;exact h1 a v ra
  |cons b as=>induction as using eZ with
   |nil=>refine dR r.two ?_;rintro v u rfl ra rb;exact h2 a b v u ra rb
   |cons=>exact h3 ..
theorem Cz(x:St c s J.heap f bA)(hh:c.A.handled=none){n:String}(r:dw c.w J.heap f as vs):T c (PO c bA k) (wk n as s) (call (.builtin n) vs) bA f J:=by
 unfold wk;by_cases q:n="len"
 ·rw[aA q,q]
  exact r.case (λas vs=>T c (PO c bA k) (IJ as s) (call (.builtin "len") vs) bA f J) (λY=>trivial) (λY Y ra=>F4 x ra) (λY Y Y Y Y Y=>trivial) λY Y Y Y Y=>trivial
 rw[au q];by_cases q:n="isinstance"
 ·rw[aA q,q]
  exact r.case (λas vs=>T c (PO c bA k) (QV as s) (call (.builtin "isinstance") vs) bA f J) (λY=>trivial) (λY Y Y=>trivial) (λY Y Y Y ra rb=>Kw x ra rb) λY Y Y Y Y=>trivial
 rw[au q];by_cases q:n="max"
 ·rw[aA q,q]
  exact r.case (λas vs=>T c (PO c bA k) (MG as s) (call (.builtin "max") vs) bA f J) (λY=>trivial) (λY Y Y=>trivial) (λY Y Y Y ra rb=>F3 x hh ra rb) λY Y Y Y Y=>trivial
 rw[au q];by_cases q:n="sum"
 ·rw[aA q,q]
  exact r.case (λas vs=>T c (PO c bA k) (MF as s) (call (.builtin "sum") vs) bA f J) (λY=>trivial) (λY Y ra=>FY x hh ra) (λY Y Y Y Y Y=>trivial) λY Y Y Y Y=>trivial
 rw[au q];trivial
end
end
section
theorem cD.list(x:St c s J.heap f bA)(kp:∀b o,J.heap.get? b=some o->h'.get? b=some o)(l:fG h' J.heap.objs.size vs)(r:dw c.w h' f as vs)(n:as.length<=4000)(hk:k<=J.heap.objs.size):
  ∃f' bF,cD c bA f J s f' bF {J with heap:=h',toks:=tk}/\PO c bA k (.ol as) (.ref J.heap.objs.size) h' f' bF:=by
 have sz:J.heap.objs.size<=h'.objs.size:=by refine cF l λm e=>?_;exact Nat.le_of_lt (aF e)
 refine(cz f bA (.kept x kp sz) (PO.of (.fl (.ol l r n)) ?_ λa q=>.inr (by subst q;exact hk)))
 intro a q;subst q;exact x.fresh1 (aC _)
theorem dw.kept(kp:∀b o,h.get? b=some o->h'.get? b=some o)(r:dw c.w h f as vs):dw c.w h' f as vs:=r.mono (λa Y o e=>.inl (kp a o e)) (λa Y=>.of_keep (kp a)) (.refl f)
theorem E2(n)(vs:LV)(k)(e:vs.length=n)(H:∀j v,vs[j]? =some v->∃t,v=Value.int (0+((k+j:Nat):Int)*1) t):dw w h f ((List.range' k n).map λ(k:Nat)=>AV.int (k:Int)) vs:=by
 induction n generalizing vs k with
 |zero=>rw[List.eq_nil_of_length_eq_zero e];exact .nil
 |succ n ih=>
  obtain _|⟨v,vs⟩:=vs
  ·injection e
  ·refine cF (H 0 v rfl) λt q=>.cons ?_ (ih vs _ (Nat.succ.inj e) λj v hj=>cF (H _ v hj) λt q=>⟨t,by rw[q,Nat.succ_add_eq_add_succ]⟩)
   rw[q,Int.zero_add,Int.mul_one];exact .int _ _
theorem ie(n):Builtin.Range.rangeSize 0 n 1=(n.toNat:Int):=by
 rw[rangeSize_one]
 split<;>lia
section
theorem Bg(x:St c s J.heap f bA)(hh:c.A.handled=none)(hk:k<=J.heap.objs.size)(ra:VR c.w J.heap f a v):T c (PO c bA k) (GR a s) (call (.type "list") [v]) bA f J:=by
 induction a using AV.casesOn with
 |lst xs=>
  obtain⟨y,us,rfl,z,⟨m,l⟩,r1,n1⟩:=ra.i;exact call_list_seq y (.inl rfl) l rfl rfl (λh' c' kp e=>cD.list x kp ⟨c',e⟩ (r1.kept kp) n1 hk) (by rw[aH,<-r1.length,aW];lia)
 |rng m=>
  show T c _ (match dF m.toNat with|true=>.ok _ s|false=>.no) _ _ _ _
  refine fS (dF m.toNat) (λq=>by trivial) λq=>?_
  have q:=fK q
  obtain⟨y,_,_,_,rfl,z,hr,hs⟩:=ra.i;refine call_list_range hh hr (lC hs) (ie m) (by lia) λh' tk acc c' kp e it=>cD.list x kp ⟨c',by rw[Array.toArray_toList];exact e⟩ ?_ (by simp;lia) hk
  rw[List.range_eq_range'];exact E2 _ _ 0 (by rw[Array.length_toList];exact it.1) λj v hj=>by
   have:=it.2 j v (by rw[<-Array.getElem?_toList];exact hj)
   rwa [Nat.zero_add]
 |_=>trivial
theorem Ef(x:St c s J.heap f bA)(ra:VR c.w J.heap f a v):T c (PO c bA k) (LS a s) (call (.type "range") [v]) bA f J:=by
 induction a using AV.casesOn with
 |int m=>
  refine cF ra.i ?_;rintro t rfl;show T c _ (match et m with|true=>cZ (.rng m) s|false=>.no) _ _ _ _
  refine fS (et m) (λq=>by trivial) λq=>?_
  refine call_range_1 ?_;have p:=cD.newz x {cls:=.type "range",data:=.fields #[.int 0 J.toks,.int m t,.int 1 (J.toks+1)]} rfl;exact(cz _ bA ⟨p.st,p.go,⟨rfl,rfl⟩⟩ (.v (.rng (.inr rfl) (IsRange.new ..) q)))
 |_=>trivial
theorem Ee(x:St c s J.heap f bA)(ra:VR c.w J.heap f a v):T c (PO c bA k) (LR a s) (call (.type "str") [v]) bA f J:=by
 induction a using AV.casesOn with
 |int i=>
  refine cF ra.i ?_;rintro t rfl;show T c _ (match et i with|true=>(match fg (fj i).cps.size with|true=>cZ _ s|false=>.no)|false=>.no) _ _ _ _
  refine fS (et i) (λq=>by trivial) λq=>fS (fg (fj i).cps.size) (λq2=>by trivial) λq2=>PySem.P.str_of_int (pU q) (cz f bA (.tk x) (.v (.str _ _ (jo q2) (jj _))))
 |str y=>
  refine dI ra.i ?_;rintro t rfl h1 h2;exact PySem.P.str_of_str (HV x (.str _ t h1 h2))
 |_=>trivial
theorem Eg(x:St c s J.heap f bA)(ra:VR c.w J.heap f a v):T c (PO c bA k) (LU a s) (call (.type "int") [v]) bA f J:=by
 induction a using AV.casesOn with
 |bool b=>obtain rfl:=ra.i;exact call_int_bool (cz f bA (.tk x) (.v (.int _ _)))
 |_=>trivial
theorem vc(x:St c s J.heap f bA)(hh:c.A.handled=none){n:String}(hk:k<=J.heap.objs.size)(ra:VR c.w J.heap f a v):T c (PO c bA k) (qT n a s) (call (.type n) [v]) bA f J:=by
 unfold qT;by_cases q:n="list"
 ·rw[aA q,q];exact Bg x hh hk ra
 rw[au q];by_cases q:n="range"
 ·rw[aA q,q];exact Ef x ra
 rw[au q];by_cases q:n="str"
 ·rw[aA q,q];exact Ee x ra
 rw[au q];by_cases q:n="int"
 ·rw[aA q,q];exact Eg x ra
 rw[au q];trivial
end
theorem xR(x:St c s J.heap f bA)(hh:c.A.handled=none){n:String}(r:dw c.w J.heap f as vs)(hk:k<=J.heap.objs.size):T c (PO c bA k) (lh n as s) (call (.type n) vs) bA f J:=
 r.case (λas vs=>T c _ (lh n as s) (call _ vs) bA f J) (λY=>trivial) (λY Y ra=>vc x hh hk ra) (λY Y Y Y Y Y=>trivial) λY Y Y Y Y=>trivial
theorem ft:∀{l:List Expr} {env:Env} {pos:Pos},c9 l=true->(backTo pos (starEach l env)).any (·.1)=false
 |[],_,_,_=>rfl
 |e::l,env,pos,h=>by
  rw[fM]at h;rw[aO]at h;rw[cY h.1];show(false||(backTo pos (starEach l env)).any (·.1))=false;rw[ft h.2];rfl
theorem eW{Q:QS Args}(p:c9 l=true)(z:wpAny M A (spliced (backTo pos (starEach l env))) (λvs bK=>Q ⟨vs,[]⟩ bK) E J):wpAny M A (evalArgs fv true (backTo pos (starEach l env)) []) Q E J:=by
 induction l using eZ with
 |nil=>
  refine af (ak z (λvs s' h'=>af (aj ?_)) λY Y x=>x)
  refine aD<|af (aj (af (aj (aj h'))))
 |cons e l=>
  rw[fM]at p;rw[aO]at p;rw[cY p.1]at z⊢;exact Calls.evalArgs_plain z
theorem Ct(H:dz rc d c)(hh:c.A.handled=none){n:String}(pl:c9 args=true)(x:St c s J.heap f bA):TO c bA J ((oM rc c.cx args s).bind λas s=>lh n as s) (callWith pos (.type n) [] (backTo pos (starEach args c.ev)) []) bA f J:=
 (nY H pos args s bA f J x).viaO (k:=λvs=>call _ vs) (λQ E z=>PyProof.Rows.callWith_type (ft pl) (eW pl z)) λas bK vs bJ bU bE dZ bM cj=>xR bM.st hh cj (aC _)
theorem Cw(H:dz rc d c)(hh:c.A.handled=none){n:String}(pl:c9 args=true)(x:St c s J.heap f bA):TO c bA J ((oM rc c.cx args s).bind λas s=>wk n as s) (callWith pos (.builtin n) [] (backTo pos (starEach args c.ev)) []) bA f J:=
 (nY H pos args s bA f J x).viaO (k:=λvs=>call _ vs) (λQ E z=>Calls.callWith_builtin (ft pl) (eW pl z)) λas bK vs bJ bU bE dZ bM cj=>Cz bM.st hh cj
theorem vA(x:St c s J.heap f bA)(z:nA c.cx e s=some (.ol xs))(p:cG e=true):T c (PO c bA k) (cZ (.int xs.length) s) (callWith pos (.builtin "len") [] (backTo pos (starEach [e] c.ev)) []) bA f J:=by
 refine cC (qZ x z (by intro _ _ q;injection q)) λu F r1 kk=>mM r1.inv_ol ?_;rintro a vs rfl l1 r n1 _
 have pl:c9 [e]=true:=by rw[fM,p];rfl
 refine Calls.callWith_builtin (ft pl) (eW pl ?_);rw[cY p];refine Calls.spliced_cons (kk λtk=>Calls.spliced_nil ?_)
 rw[r.length];exact Calls.call_len_list l1.list (by rw[aH,<-r.length];lia) (cz f bA (.tk x) (.v (.int _ _)))
end
theorem jW(hn:ns.Nodup){i:Nat}(e:ns[i]? =some n):(ns.zip us).lookup n=us[i]? :=by
 induction ns generalizing us i with
 |nil=>exact c8 e
 |cons m ns ih=>
  have h:=List.nodup_cons.mp hn
  obtain _|⟨u,us⟩:=us
  ·rfl
  ·obtain _|i:=i
   ·rw[<-oI (e),List.zip_cons_cons,aV,beq_self_eq_true];rfl
   ·have e:=e
    rw[List.zip_cons_cons,aV,beq_eq_false_iff_ne.mpr (show n≠m from λz=>h.1 (z▸List.mem_of_getElem? e))]
    exact ih h.2 e
theorem iJ{l r:List (Str×Z)}:(l++r).lookup n=(l.lookup n).or (r.lookup n):=List.lookup_append
theorem rC(g)(hg:∀n d slots,g (n,d) slots=if(slots.lookup n).isNone=true then pure (.yield (slots++[(n,d)]))else pure (.yield slots)):
  ∀(l slots:List (Str×Value)) (Q:QS (List (Str×Value))),(∀r,(∀n,r.lookup n=(slots.lookup n).or (l.lookup n))->Q r J)->wpAny M A (forIn l slots g) Q E J:=by
 intro l;induction l with
 |nil=>intro slots Q h;rw[List.forIn_nil];exact aj (h slots λn=>by simp)
 |cons hd l ih=>
  obtain⟨m,d⟩:=hd;intro slots Q h;rw[List.forIn_cons,hg]
  split
  ·rename_i z
   refine af (aj (ih _ Q λr hr=>h r λn=>?_))
   rw[hr,iJ,aV,aV];by_cases q:n=m
   ·subst q
    simp
   ·rw[beq_eq_false_iff_ne.mpr q]
    simp
  ·rename_i z
   refine af (aj (ih _ Q λr hr=>h r λn=>?_))
   rw[hr,aV];by_cases q:n=m
   ·subst q
    refine eE (slots.lookup n) (λe=>by rw[e]at z;exact absurd rfl z) λv e=>?_
    simp
   ·rw[beq_eq_false_iff_ne.mpr q]
theorem ph{lk:SV}(e:ns.length=us.length)(h:∀(i:Nat) n,ns[i]? =some n->lk n=us[i]?):(ns.filterMap λn=>(lk n).map (n, ·))=ns.zip us:=by
 induction ns generalizing us with
 |nil=>
  obtain _|_:=us
  ·rfl
  ·injection e
 |cons n ns ih=>
  obtain _|⟨u,us⟩:=us
  ·injection e
  ·rw[List.filterMap_cons,h 0 n rfl]
   exact aN _ (ih (Nat.succ.inj e) λi m q=>h (i+1) m q)
theorem vu{ja dv Lz:LV}(hn:ns.Nodup)(l1:ja.length<=ns.length)(l3:ns.length<=ja.length+dv.length)(d0:Lz=dv):(ns.take (ns.length-Lz.length)).filter (λn=>((ns.zip ja).lookup n).isNone)=[]:=by
 subst d0;rw[List.filter_eq_nil_iff];intro n hm;obtain⟨i,hi,e⟩:=List.getElem_of_mem hm;rw[List.length_take]at hi;rw[List.getElem_take]at e;have iv:=aK hi (aq (Nat.min_le_left _ _) (Nat.sub_le_of_le_add l3));rw[jW hn (show ns[i]? =some n by rw[az (aK iv l1),e]),az iv]
 exact Bool.false_ne_true
theorem KA{a b n:Nat}(l1:a<=n)(l3:n<=a+b):n=a+(b-(a+b-n)):=by
 rw[<-Nat.add_sub_assoc (Nat.sub_le_of_le_add (Nat.add_comm b n▸Nat.add_le_add_right l1 b)),Nat.sub_sub_self l3]
theorem Qb{a b n i:Nat}(l2:b<=n)(l3:n<=a+b)(q:a<=i):n-b+(i-(n-b))=i/\i-(n-b)=a+b-n+(i-a):=by
 have k:=Nat.sub_le_of_le_add l3
 exact⟨Nat.add_sub_of_le (aq k q),by rw[<-Nat.sub_sub_right a l2,Nat.add_comm,Nat.sub_add_sub_cancel q k]⟩
theorem Cy{n:Nat}(hn:ns.Nodup)(hl:ns.length=n)(l1:ja.length<=n)(l2:dv.length<=n)(l3:n<=ja.length+dv.length)(d0:Lz=dv){r:List (Str×Value)}(hr:∀x,r.lookup x=((ns.zip ja).lookup x).or (((ns.drop (ns.length-Lz.length)).zip Lz).lookup x)):((ns++[]).filterMap λx=>(r.lookup x).map (x, ·))=ns.zip (ja++dv.drop (ja.length+dv.length-n)):=by
 subst hl d0;rw[aU];refine ph (by rw[aw,List.length_drop];exact KA l1 l3) λi x e=>?_
 rw[hr,jW hn e];obtain q|q:=Nat.lt_or_ge i ja.length
 ·rw[List.getElem?_append_left q,az q];rfl
 ·have z:=Qb l2 l3 q
  rw[List.getElem?_append_right q,List.getElem?_eq_none q,List.getElem?_drop];show List.lookup x _=_;rw[jW (hn.sublist (List.drop_sublist _ _)) (by rw[List.getElem?_drop,z.1,e]),z.2]
theorem mu{as:List Arg}{Q:QS (List (Str×Value))}(hp:fd.params=⟨[],as,none,[],[],none,ds⟩)(hn:(as.map (·.arg)).Nodup)(hd:∀{Q:QS (Option (Array Value))},(∀r,(r.getD #[]).toList=dv->Q r J)->wpAny M A (seqItems? fd.defaults) Q E J)(l1:ja.length<=as.length)(l2:dv.length<=as.length)(l3:as.length<=ja.length+dv.length)(k:Q ((as.map (·.arg)).zip (ja++dv.drop (ja.length+dv.length-as.length))) J):wpAny M A (bindArgs fd ⟨ja,[]⟩) Q E J:=by
 have hl:(as.map (·.arg)).length=as.length:=ah _
 unfold bindArgs;generalize fd.params=p at hp⊢;subst hp;refine af (aj ?_);refine af (hd λr hr=>?_);subst hr;have d0:(r.getD #[]).toList.drop ((r.getD #[]).toList.length-(as.map (·.arg)).length)=(r.getD #[]).toList:=by
  rw[Nat.sub_eq_zero_of_le (hl▸l2)];rfl
 refine wpAny_ite_false (bl λz=>absurd l1 (Nat.not_le.mpr (hl▸of_decide_eq_true (Bool.and_eq_true_iff.mp z).1)))<|wpAny_ite_false (bl λz=>?_) ?_
 ·exact dT ((aN _ (aN List.isEmpty (vu hn (hl▸l1) (hl▸l3) d0))).symm.trans z)
 refine af (rC _ (λn d slots=>?_) _ _ _ λr' Yy=>?_)
 ·rfl
 refine af (aj ?_);refine wpAny_ite_false rfl<|aj<|(aN (λl=>Q l J) (Cy hn hl l1 l2 l3 d0 Yy)).mpr k
theorem pq:∀names n acc,cellsFrom n names acc=cellsFrom n names []++acc:=by
 intro names;induction names with
 |nil=>intro n acc;exact rfl
 |cons hd l ih=>
  obtain⟨x,k⟩:=hd;intro n acc;unfold cellsFrom
  split
  ·rw[ih _ _,ih _ [(x,n)],bj];rfl
  ·exact ih n acc
theorem pj:∀{names} {n} {acc} {x},((x,NameKind.cell)∈names\/(acc.lookup x).isSome)->((cellsFrom n names acc).lookup x).isSome:=by
 intro names;induction names with
 |nil=>
  intro n acc x h;obtain h|h:=h
  ·obtain _|_:=h
  ·exact h
 |cons hd l ih=>
  obtain⟨y,k⟩:=hd;intro n acc x h;unfold cellsFrom
  split
  ·rename_i q
   refine ih ?_;by_cases e:x=y
   ·subst e;right;simp
   ·obtain h|h:=h
    ·obtain z|z:=List.mem_cons.mp h
     ·(injection z with zz yy;subst zz yy);exact absurd rfl e
     ·exact .inl z
    ·right;rw[aV,beq_eq_false_iff_ne.mpr e];exact h
  ·rename_i q
   refine ih (h.imp_left λz=>?_);obtain w|w:=List.mem_cons.mp z
   ·(injection w with zz yy;subst zz yy);exact absurd rfl q
   ·exact w
theorem yP:∀(names:List (Str×NameKind)) (h:Heap) (acc:List (Str×Addr)) (lo:Nat),(∀x a,(x,a)∈acc->lo<=a/\∃o,h.get? a=some o/\o.cls=.type "cell"/\o.data=.cell none)->lo<=h.objs.size->∀x a,(x,a)∈cellsFrom h.objs.size names acc->lo<=a/\∃o,(pushCells h names).get? a=some o/\o.cls=.type "cell"/\o.data=.cell none:=by
 intro names;induction names with
 |nil=>intro h acc lo H _ x a m;exact H x a m
 |cons hd l ih=>
  obtain⟨y,k⟩:=hd;intro h acc lo H hl x a m;unfold cellsFrom at m;unfold pushCells
  split
  ·rename_i q
   rw[aA q]at m;have sz:(h.push {cls:=.type "cell",data:=.cell none}).objs.size=h.objs.size+1:=aS ..;rw[<-sz]at m;refine ih _ _ lo (λx a hm=>?_) (by rw[sz];lia) x a m
   obtain z|z:=List.mem_cons.mp hm
   ·(injection z with zz yy;subst zz yy);exact⟨hl,_,aE _ rfl,rfl,rfl⟩
   ·obtain⟨h1,o,h2,h3⟩:=H x a z
    exact⟨h1,o,aG _ h2,h3⟩
  ·rename_i q
   rw[au q]at m;exact ih _ _ lo H hl x a m
theorem lH:bD (gy caps) x=(bD caps x).map OV.k:=by
 induction caps with
 |nil=>rfl
 |cons p l ih=>
  obtain⟨y,a⟩:=p;show bD ((y,OV.k a)::gy l) x=_;rw[cO,cO];by_cases q:y=x
  ·rw[aA q,aA q];rfl
  ·rw[au q,au q];exact ih
theorem mn{b:AV}{l:LE}(h:fJ sc ((y,b)::l)=true):bD sc.names y=some .free/\fJ sc l=true:=by
 have h:(match bD sc.names y with|some .free=>fJ sc l|_=>false)=true:=h
 generalize bD sc.names y=o at h⊢;obtain _|k:=o
 ·exact dT h
 ·obtain _|_:=k<;>first|exact⟨rfl,h⟩|exact dT h
theorem qk(h:fJ sc caps=true)(e:bD caps x=some a):bD sc.names x=some .free:=by
 induction caps with
 |nil=>exact c8 e
 |cons p l ih=>
  obtain⟨y,b⟩:=p;rw[cO]at e;by_cases q:y=x
  ·exact q▸(mn h).1
  ·rw[au q]at e;exact ih (mn h).2 e
theorem hO{k:NameKind}{l:List (Str×NameKind)}(h:eN caps ((y,k)::l)=true):eN caps l=true/\(k=.free->(bD caps y).isSome)/\(k≠.free->bD caps y=none):=by
 by_cases z:k=.free
 ·subst z
  have h:(match bD caps y with|some _=>eN caps l|none=>false)=true:=h
  generalize bD caps y=o at h⊢;obtain _|_:=o
  ·exact dT h
  ·exact⟨h,λY=>rfl,λq=>absurd rfl q⟩
 ·have h:(match bD caps y with|some _=>false|none=>eN caps l)=true:=by
   obtain _|_:=k<;>first|exact h|exact absurd rfl z
  generalize bD caps y=o at h⊢;obtain _|_:=o
  ·exact⟨h,λq=>absurd q z,λY=>rfl⟩
  ·exact dT h
theorem tN(h:eN caps names=true)(m:(x,NameKind.free)∈names):(bD caps x).isSome:=by
 induction names with
 |nil=>exact nomatch m
 |cons p l ih=>
  obtain⟨y,k⟩:=p;obtain w|w:=List.mem_cons.mp m
  ·injection w with w1 w2
   subst w1;exact(hO h).2.1 w2.symm
  ·exact ih (hO h).1 w
theorem tO(h:eN caps names=true)(m:(x,NameKind.cell)∈names):bD caps x=none:=by
 induction names with
 |nil=>exact nomatch m
 |cons p l ih=>
  obtain⟨y,k⟩:=p;obtain w|w:=List.mem_cons.mp m
  ·injection w with w1 w2
   subst w1;exact(hO h).2.2 λq=>nomatch w2.trans q
  ·exact ih (hO h).1 w
theorem oG:∀{names} {n} {acc} {x} {a},(x,a)∈cellsFrom n names acc->(x,NameKind.cell)∈names\/(x,a)∈acc:=by
 intro names;induction names with
 |nil=>intro _ _ _ _ h;exact .inr h
 |cons hd l ih=>
  obtain⟨y,k⟩:=hd;intro n acc x a h;unfold cellsFrom at h
  split at h
  ·rename_i q
   obtain z|z:=ih h
   ·exact .inl (.tail _ z)
   ·obtain w|w:=List.mem_cons.mp z
    ·(injection w with zz yy;subst zz yy);left;rw[eq_of_beq q];exact .head _
    ·exact .inr w
  ·exact(ih h).imp_left (.tail _)
theorem fO:∀names h,h.objs.size<=(pushCells h names).objs.size:=by
 intro names;induction names with
 |nil=>intro _;exact aC _
 |cons hd l ih=>
  obtain⟨_,k⟩:=hd;intro h;unfold pushCells
  split
  ·exact aq (de _ _) (ih _)
  ·exact ih h
theorem jV{l:List (Str×Z)}{a:Z}(e:l.lookup x=some a):(x,a)∈l:=mem_of_lookup e
noncomputable def eg(sc:Scope)(L:Addr)(cl:List (Str×Addr))(qual:Str)(a:Option Addr)(code:Value):Env:=newEnv sc L mainNs (cellsFrom (L+1) sc.names cl) qual a code none builtinsNs
noncomputable def fp(c:Fm)(env:Env)(fx:Option Str):Fm:={w:=c.w,sb:=c.sb,cx:=⟨env.scope,none,fx⟩,A:=c.A.deeper env,fe:=env,ev:=env,out:=c.fe::c.out,pin:=[]}
section
theorem St.ff2(x:St c s h f bA):FF c.sb h f (c.fe::c.out):=λe he=>by
 obtain z|z:=List.mem_cons.mp he
 ·subst z
  refine cC x.fr λm F q1 Y=>bW q1.cls λob e1 e2=>jM q1.ns λui es ep r1 r2 Y=>?_
  rw[e1]at r1;obtain rfl:=oI r1;have fr:=(x.oo _ q1.ownL).1;exact⟨x.fe.kind,c.fe.locals,ob,es,ep,x.ffr.1,x.ffr.2,e1,e2,r2,fr.z,fr.y,fr.sn⟩
 ·exact x.ff e z
noncomputable def rn(w:World)(sb:Heap)(A:Around)(l:List Env)(env:Env)(fx:Option Str):Fm:={w:=w,sb:=sb,cx:=⟨env.scope,none,fx⟩,A:=A.deeper env,fe:=env,ev:=env,out:=l,pin:=[]}
theorem FF.low0{l:List Env}(ff:FF sb h f l){a:Addr}(q:h.objs.size<=a):∀e∈l,e.frame≠some a:=λe he z=>by
 obtain⟨_,L,o,_,_,q1,_,q3,_⟩:=ff e he;rw[z]at q1;obtain rfl:=oI q1;exact absurd (aF q3) (Nat.not_lt.mpr q)
theorem sY{l:List Env}(wd:Wd w sb h f ss)(hA:A.frames=some l)(ff:FF sb h f l){a:Option Addr}(hk:sc.kind=.function)(hz:∀y b,cl.lookup y=some b->f.z b)(hc:ue w h f caps cl)(k1:eN caps sc.names=true)(k2:fJ sc caps=true):
  St (rn w sb A l (eg sc h.objs.size cl qual a code) fx) ⟨[],gy caps,ss,none⟩ (pushCells (h.push {cls:=.type "frame",data:=.dict #[]}) sc.names) f (λb=>h.objs.size<=b/\b<(pushCells (h.push {cls:=.type "frame",data:=.dict #[]}) sc.names).objs.size):=by
 have kp:∀b o,h.get? b=some o->(pushCells (h.push {cls:=.type "frame",data:=.dict #[]}) sc.names).get? b=some o:=λb o e=>pushCells_keeps _ _ b o (aG _ e)
 have sz:=by
  have:=fO sc.names (h.push {cls:=.type "frame",data:=.dict #[]})
  rwa [aS]at this
 have hsz:(h.push {cls:=.type "frame",data:=.dict #[]}).objs.size=h.objs.size+1:=aS ..
 have hL:(pushCells _ sc.names).get? h.objs.size=some {cls:=.type "frame",data:=.dict #[]}:=pushCells_keeps _ _ _ _ (aE _ rfl)
 have G:Go (λY=>False) h f (λY=>False) _ f:=Go.keeps kp (by lia)
 have ok:=cellsFrom_ok sc.names _ _ [] ⟨λY Y hm=>(nomatch hm),List.Pairwise.nil⟩ (by rw[hsz];exact aC _)
 rw[hsz]at ok;have RL:=λy b m=>by
  have:=yP sc.names _ [] _ (λY Y hm=>nomatch hm) (by rw[hsz];exact aC _) y b
  rw[hsz]at this;exact this m
 have cs:(eg sc h.objs.size cl qual a code).cells=cellsFrom (h.objs.size+1) sc.names []++cl:=pq ..
 have split:∀y b,(eg sc h.objs.size cl qual a code).cells.lookup y=some b->(y,b)∈cellsFrom _ sc.names []\/cl.lookup y=some b:=λy b e=>by
  rw[cs,iJ]at e;refine eE ((cellsFrom _ sc.names []).lookup y) (λq=>?_) (λb' q=>by rw[q]at e;obtain rfl:=oI e;exact .inl (jV q))
  rw[q]at e;exact .inr e
 have kd:∀y,(eg sc h.objs.size cl qual a code).kindOf y=bD sc.names y:=λy=>by rw[iH];rfl
 refine⟨wd.keeps kp (by lia),λb q=>⟨?_,q.2⟩,?_,?_,⟨hk,rfl,rfl⟩,rfl,⟨rfl,aq wd.sbz (aC _)⟩,ff.low0 (aC _),(λl e=>nomatch e),(cz (λY=>none) (λY Y=>False) ⟨?_,(cf _ hL rfl),⟨aC _,aK (bp _) sz⟩,λy k=>?_,λy z b e1 e2 nz=>?_,λy b e=>?_,λy b e=>?_,λy ob e=>?_,λY Y q=>q.elim,λY Y Y q=>q.elim,λy k=>?_⟩ (λY Y q=>q)),rfl,λY q=>nomatch q⟩
 ·have nl:=Nat.not_lt.mpr q.1
  exact⟨λz=>nl (wd.zl b (.inl z)),λz=>nl (wd.zl b (.inr (.inl z))),λz=>nl (wd.zl b (.inr (.inr z))),.inl (aq wd.sbz q.1),ff.low0 q.1⟩
 ·show A.frames.map _=_
  rw[hA];rfl
 ·exact ff.go G λY Y Y Y q=>q
 ·exact Heap.Ns1.of_empty ((Heap.Ns.new h _).keeps (pushCells_keeps _ _))
 ·have k:=(kd y).symm.trans k
  have m:=gc k
  have:=pj (n:=h.objs.size+1) (acc:=[]) (.inl m)
  refine cF (Option.isSome_iff_exists.mp this) λb e=>?_;obtain⟨l1,o,l2,l3,l4⟩:=RL y b (jV e);exact(eF b none (by show(eg sc h.objs.size cl qual a code).cells.lookup y=_;rw[cs,iJ,e];rfl) (ej o l2 l3 l4) (λY=>⟨by lia,aF l2⟩))
 ·obtain m1|m1:=split y b e1
  ·obtain m2|m2:=split z b e2
   ·exact name_of_addr ok.apart m1 m2
   ·exact absurd (hz _ _ m2) nz
  ·exact absurd (hz _ _ m1) nz
 ·obtain m1|m1:=split y b e
  ·exact Nat.ne_of_gt (aK (bp _) (RL y b m1).1)
  ·exact Nat.ne_of_lt ((λb z=>wd.zl b (.inl z)) b (hz _ _ m1))
 ·obtain m1|m1:=split y b e
  ·obtain⟨l1,o,l2,_⟩:=RL y b m1
   exact .inl ⟨by lia,aF l2⟩
  ·exact .inr (hz _ _ m1)
 ·have e:=e
  rw[lH]at e;refine bW (Option.map_eq_some_iff.mp e) λav e1 e2=>?_;subst e2;refine nM (hc.get e1) λb o v r1 r2 r3 r4 r5 r6=>?_;have lk:(eg sc h.objs.size cl qual a code).cells.lookup y=some b:=by
   rw[cs,iJ];generalize q:(cellsFrom _ sc.names []).lookup y=zz;induction zz using i7 with
   |some b'=>
    obtain z|z:=oG (jV q)
    ·rw[tO k1 z]at e1;exact c8 e1
    ·cases z
   |none=>exact r1
  refine(ej v ?_ (.k (r6.go G wd.fok λY q=>q.elim)) (λY b' lb=>?_))
  ·unfold dq
   rw[show(rn w sb A l (eg sc h.objs.size cl qual a code) fx).fe.kindOf y=some .free from(kd y).trans (qk k2 e1)]
   exact⟨b,lk,o,kp _ _ r3,r5⟩
  ·have:=lk.symm.trans lb
   obtain rfl:=oI this;exact r2
 ·have k:=(kd y).symm.trans k
  refine cF (Option.isSome_iff_exists.mp (tN k1 (gc k))) λav e=>?_;unfold cw;rw[lH,e];rfl
theorem St.entered(x:St c s h f bA){a:Option Addr}(hk:sc.kind=.function)(hz:∀y b,cl.lookup y=some b->f.z b)(hc:ue c.w h f caps cl)(k1:eN caps sc.names=true)(k2:fJ sc caps=true):
  St (fp c (eg sc h.objs.size cl qual a code) fx) ⟨[],gy caps,s.ss,none⟩ (pushCells (h.push {cls:=.type "frame",data:=.dict #[]}) sc.names) f (λb=>h.objs.size<=b/\b<(pushCells (h.push {cls:=.type "frame",data:=.dict #[]}) sc.names).objs.size):=
 sY x.wd x.frames x.ff2 hk hz hc k1 k2
end
inductive Ag(c:Fm)(f:Fz)(bA:Addr->Prop)(h:Heap):List OV->List Value->(Addr->Prop)->Prop
 |nil:Ag c f bA h [] [] λY=>False
 |cons {o:OV} {v:Value} {F P:Addr->Prop} {os:List OV} {vs:List Value}:eD c.w h f o v F->eX c f bA F->Ag c f bA h os vs P->(∀a,F a->¬P a)->Ag c f bA h (o::os) (v::vs) λa=>F a\/P a
section
variable{o' P:AP}
theorem Ag.foK(g:Ag c f bA h os vs P):eX c f bA P:=by
 induction g with
 |nil=>exact λY q=>q.elim
 |cons _ hF _ _ ih=>exact λa q=>q.elim (hF a) (ih a)
theorem Ag.there(g:Ag c f bA h os vs P):∀a,P a->a<h.objs.size:=by
 induction g with
 |nil=>exact λY q=>q.elim
 |cons r _ _ _ ih=>exact λa q=>q.elim (r.there a) (ih a)
theorem Ag.length(g:Ag c f bA h os vs P):os.length=vs.length:=by
 induction g with
 |nil=>rfl
 |cons _ _ _ _ ih=>exact aN _ ih
theorem eX.go(G:Go o h f o' h' f')(x:eX c f bA F)(hd:∀a,F a->¬o a)(hl:∀a,F a->a<h.objs.size)(no:∀a,bF a->bA a\/o a\/h.objs.size<=a):eX c f' bF F:=λa q=>⟨λz=>by
 obtain y|y|y:=no a z
 ·exact(x a q).1 y
 ·exact hd a q y
 ·exact Nat.not_lt.mpr y (hl a q),(x a q).2.1.go G (hd a q) (hl a q),(x a q).2.2⟩
theorem Ag.go(G:Go o h f o' h' f')(ok:f.Ok)(fr:eI f o)(no:∀a,bF a->bA a\/o a\/h.objs.size<=a)(g:Ag c f bA h os vs P)(hP:∀a,P a->¬o a):Ag c f' bF h' os vs P:=by
 induction g with
 |nil=>exact .nil
 |cons r hF l hd ih=>exact .cons (r.go G ok fr λa q=>⟨hP a (.inl q),(hF a q).2.1.y,(hF a q).2.1.sn⟩) (hF.go G (λa q=>hP a (.inl q)) r.there no) (ih λa q=>hP a (.inr q)) hd
theorem Ag.callee(x:St c s h f bA)(h0:∀a,Ub a->h.objs.size<=a)(g:Ag c f bA h os vs P):Ag (fp c env fx) f Ub h os vs P:=by
 induction g with
 |nil=>exact .nil
 |cons r hF l hd ih=>exact .cons r (λa q=>⟨λz=>Nat.not_lt.mpr (h0 a z) (r.there a q),⟨(hF a q).2.1.z,(hF a q).2.1.y,(hF a q).2.1.sn,(hF a q).2.1.sb,λe he z=>by
   obtain w|w:=List.mem_cons.mp he
   ·subst w
    rw[x.ffr.1]at z;obtain rfl:=oI z;refine cC x.fr λm F' q1 Y=>(hF _ q).1 q1.ownL
   ·exact(hF a q).2.1.out e w z⟩,(hF a q).2.2⟩) ih hd
theorem Ag.v1(r:VR c.w h f a v)(g:Ag c f bA h os vs P):Ag c f bA h (.v a::os) (v::vs) P:=
 (funext λb=>propext ⟨λz=>z.elim False.elim id,.inr⟩:(λb=>False\/P b)=P)▸Ag.cons (.fl (.v r)) (λY q=>q.elim) g (λY q=>q.elim)
theorem Ag.vals:∀{us:LV},dw c.w h f as us->Ag c f bA h (as.map OV.v) us λY=>False:=by
 induction as with
 |nil=>intro us q;rw[q.inv_nil];exact .nil
 |cons a l ih=>intro us q;obtain⟨v,vs,rfl,r,rs⟩:=q.inv_cons;exact .v1 r (ih rs)
theorem Ag.app(g:Ag c f bA h os vs P)(q:dw c.w h f as us):Ag c f bA h (os++as.map OV.v) (vs++us) P:=by
 induction g with
 |nil=>exact .vals q
 |cons r hF _ hd ih=>exact .cons r hF ih hd
theorem oA{a:Arg}{as:List Arg}{o:OV}{l:LO}(e:hH (a::as) (o::os)=some l):∃l',hH as os=some l'/\kc o=false/\bD l' a.arg=none/\l=(a.arg,o)::l':=by
 have e:(match hH as os,kc o with|some l,false=>(match bD l a.arg with|none=>some _|some _=>none)|_,_=>none)=some l:=e
 generalize hH as os=q at e⊢;generalize kc o=b at e⊢;obtain _|l':=q
 ·exact c8 e
 obtain _|_:=b
 ·have e:(match bD l' a.arg with|none=>some _|some _=>none)=some l:=e
  rcases z:bD l' a.arg with _|_<;>rw[z]at e
  ·exact uG l' rfl rfl z (oI e).symm
  ·exact c8 e
 ·exact c8 e
theorem ky{o:OV}(e:kc o=false):uc o=false:=by obtain _|_:=o<;>first|rfl|exact tZ e
theorem sQ{l:List (Str×Z)}(e:bD l n=none):n∉l.map (·.1):=λm=>by
 refine bW (List.mem_map.mp m) λp hp e'=>?_;induction l with
 |nil=>exact nomatch hp
 |cons y l ih=>
  obtain⟨y1,y2⟩:=y;rw[cO]at e;by_cases ne:y1=n
  ·rw[aA ne]at e;exact zi e
  ·rw[au ne]at e
   obtain z|z:=List.mem_cons.mp hp
   ·exact ne (z▸e':(y1,y2).1=n)
   ·exact ih e (List.mem_map.mpr (cf p z e')) z
theorem mr{as:List Arg}{l:LO}(e:hH as os=some l):l.map (·.1)=as.map (·.arg)/\(as.map (·.arg)).Nodup/\as.length=os.length:=by
 induction as generalizing os l with
 |nil=>
  obtain _|_:=os
  ·obtain rfl:=oI e;exact⟨rfl,List.nodup_nil,rfl⟩
  ·exact c8 e
 |cons a as ih=>
  obtain _|⟨o,os⟩:=os
  ·exact c8 e
  refine nN (oA e) ?_;rintro l' q1 _ q3 rfl;refine fF (ih q1) λi1 i2 i3=>⟨by rw[aP,aP,i1],?_,aN _ i3⟩
  rw[aP,List.nodup_cons];exact⟨i1▸sQ q3,i2⟩
theorem EO{l r:List (Str×Z)}:bD (l++r) y=(bD l y).or (bD r y):=by
 induction l with
 |nil=>simp[bD]
 |cons p l ih=>
  obtain⟨x,v⟩:=p;rw[List.cons_append,cO,cO];by_cases q:x=y
  ·rw[aA q,aA q];rfl
  ·rw[au q,au q];exact ih
theorem Ag.pins{p p':List (Str×Value)}(g:Ag (c.pins p) f bA h os vs P):Ag (c.pins p') f bA h os vs P:=by
 induction g with
 |nil=>exact .nil
 |cons r hF l hd ih=>exact .cons r hF.pins ih hd
theorem pg{a:Str}{o:OV}{l:LO}:du sc ((a,o)::l)=true->du sc l=true/\(bD sc.names a=some .local\/bD sc.names a=some .cell):=by
 show(match bD sc.names a with
  |some .local=>du sc l
  |some .cell=>du sc l
  |_=>false)=true->_
 cases bD sc.names a with
 |none=>exact dT
 |some k=>induction k using PySem.NameKind.casesOn with
  |«local»=>exact λq=>⟨q,.inl rfl⟩
  |cell=>exact λq=>⟨q,.inr rfl⟩
  |_=>exact dT
set_option tactic.hygienic true in
theorem vM{a:Str}(dG:c.cx.cs=none)(n2:dQ c.cx a=false)(n1:cw s.loc a=false)(z:bD c.cx.sc.names a=some .local\/bD c.cx.sc.names a=some .cell):cn c.cx a s=true:=by
 unfold cn;rw[dG,n2];obtain z|z:=z
 ·rw[z]
 ·rw[z]
  dsimp only;unfold cw at n1
  split
  ·rename_i b q;rw[q]at n1;exact tZ n1
  ·rfl
theorem Bq{l:LO}{a:Str}{o:OV}(q2:kc o=false)(m1:cw l n=false):cw (dy l a o) n=false:=by
 rw[iL]
 split
 ·exact ky q2
 ·exact m1
theorem BC{l l':LO}{a:Str}{o:OV}(q3:bD l' a=none):(bD l' y).or (bD (dy l a o) y)=(bD ((a,o)::l') y).or (bD l y):=by
 rw[dA,cO];by_cases z:a=y
 ·rw[aA z,aA z]
  subst z;rw[q3];rfl
 ·rw[au z,au z]
theorem kK(g)(hg:∀n v u,g (n,v) u=(do storeName env n v;pure (.yield ⟨⟩)))(jv:c.ev=env)(dG:c.cx.cs=none):
  ∀as os (vs:LV) (P:AP) (l:LO) s bA J (Q:QS PUnit) p,St (c.pins p) s J.heap f bA->Ag (c.pins p) f bA J.heap os vs P->hH as os=some l->du c.cx.sc l=true->(∀n,n∈l.map (·.1)->cw s.loc n=false/\dQ c.cx n=false/\∀q∈p,q.1≠n)->
   (∀bT bF s',St (c.pins p) s' bT.heap f bF->(∀y,bD s'.loc y=(bD l y).or (bD s.loc y))->s'.cl=s.cl->s'.ss=s.ss->s'.dl=s.dl->Go (λa=>bA a\/P a) J.heap f bF bT.heap f->iz J bT->(∀a zp v Qr,as=a::zp->vs=v::Qr->cQ c bT.heap a.arg v)->Q ⟨⟩ bT)->wpAny M A (forIn ((as.map (·.arg)).zip vs) ⟨⟩ g) Q E J:=by
 intro as;induction as with
 |nil=>
  intro os vs P l s bA J Q p x ag e pk nm k;induction os using eZ with
  |cons=>exact c8 e
  |nil=>
   obtain _|_:=ag;obtain rfl:=oI e;exact aj (k J bA s x (λy=>rfl) rfl rfl rfl ((Go.refl bA J.heap f).more λa q=>.inl q) (.refl _) λY Y Y Y q=>by injection q)
 |cons a as ih=>
  intro os vs P l s bA J Q pn x ag e pk nm k;induction os using eZ with
  |nil=>exact c8 e
  |cons o os=>
  cases ag with
  | @cons _ v F P _ vs r hF ag hd=>
  refine nN (oA e) ?_;rintro l' q1 q2 q3 rfl;show wpAny M A (forIn ((a.arg,v)::(as.map _).zip vs) ⟨⟩ g) Q E J;rw[List.forIn_cons,hg];refine fF (nm a.arg (.head _)) λn1 n2 n3=>?_;have Wu:=pg pk;rw[<-jv];refine af (af (jU (c:=c.pins pn) x n3 (vM dG n2 n1 Wu.2) r hF (ky q2) λbJ bE p Rl=>aj ?_))
  have Dc:=ag.go p.go x.wd.fok (λb q=>q.elim (x.free b) λz=>⟨(hF b z).2.1.z,(hF b z).2.1.y,(hF b z).2.1.sn⟩) (λb z=>(p.go.no b z).elim (λy=>y.elim .inl λw=>.inr (.inl (.inr w))) λy=>.inr (.inr y)) λb z y=>y.elim (ag.foK b z).1 λw=>hd b w z
  have x1:St (c.pins ((a.arg,v)::pn)) _ bJ.heap f bE:=St.pins p.st λq hq=>by
   obtain z|z:=List.mem_cons.mp hq
   ·subst z;exact Rl
   ·exact p.st.pin q z
  refine ih os vs P l' _ bE bJ Q _ x1 (Ag.pins Dc) q1 Wu.1 (λn hn=>?_) λbT bF s' x' lk c1 c2 c3 G R Y=>k bT bF s' (St.pins x' λq hq=>x'.pin q (.tail _ hq)) (λy=>?_) c1 c2 c3 ?_ (p.rest.trans R) λa' zp v' Qr z1 z2=>?_
  ·refine fF (nm n (.tail _ hn)) λm1 m2 m3=>⟨Bq q2 m1,m2,λq hq=>?_⟩
   ·obtain z|z:=List.mem_cons.mp hq
    ·subst z
     exact λw=>sQ q3 (by rw[show a.arg=n from w];exact hn)
    ·exact m3 q z
  ·exact(lk y).trans (BC q3)
  ·refine(p.go.more λb q=>q.imp_right .inl).trans G λb q=>?_
   obtain q|q:=q
   ·exact(p.go.no b q).imp_left λz=>z.imp_right .inl
   ·exact .inl (.inr (.inr q))
  ·(injection z1 with zz yy;subst zz yy);(injection z2 with zz yy;subst zz yy)
   exact x'.pin _ (.head _)
end
def nK(w:World)(h:Heap)(f:Fz)(m:AV)(e:Value)(fl:Value)(X:AP):Prop:=
 ∃ea oe vs d mm mv T oT ts,(e=.ref ea/\h.get? ea=some oe/\oe.cls=.ref dp/\oe.dict=some d/\oe.data=.fields vs)/\(h.Ns1 d mm/\mm ("message":Str)=some mv/\VR w h f m mv/\∀k,k≠("message":Str)->mm k=none)/\(ea≠d/\X ea/\X d/\X T/\T≠ea/\T≠d)/\
  vs[1]? =some (.ref T)/\h.get? T=some oT/\oT.cls=.type "traceback"/\oT.data=.fields ts/\ts[3]? =some fl
theorem nK.toR{m:AV}{e fl:Value}(x:nK c.w h f m e fl X)(hf:fl=.none\/fl=rawInt c.fe.locals):D3 c h f m e X:=by
 refine M6 x ?_;rintro ea oe vs d mm mv T oT ts ⟨a1,a2,a3,a4,a5⟩ ⟨b1,b2,b3,b4⟩ ⟨c1,c2,c3,c4,c5,c6⟩ d1 d2 d3 d4 d5;exact(HN ea oe vs d mm mv a1 a2 a3 a4 a5 b1 b2 b3 b4 c1 c2 c3 (.inr (VY T oT ts fl d1 d2 d3 d4 d5 hf c4 c5 c6)))
noncomputable def uN:Heap:={objs:= #[]}
theorem vw(a):uN.get? a=none:=by unfold uN Heap.get?;simp
section
variable{o' P:AP}
theorem FF.fun_{l:List Env}(x:FF sb h f l):h.FunFrames uN l:=by
 induction l with
 |nil=>trivial
 |cons e l ih=>
  obtain⟨k,L,o,es,ep,q1,_,q2,_,q3,_⟩:=x e (.head _);exact⟨by rw[k];decide,(kf L o q1 (vw _) q2 (λvs z=>by rw[q3]at z;injection z)),ih λe he=>x e (.tail _ he)⟩
theorem Go.slots{l:List Env}(ff:FF sb h f l)(hs:Heap.SlotsOnly (l.filterMap (·.frame)) h h'):Go X h f X h' f:=by
 refine⟨λa Y=>?_,.refl f,λY q=>.inl q,λY q=>.inl q,λY q=>.inl q,λY q=>.inl q,aR hs.1.symm⟩
 by_cases m:a∈l.filterMap (·.frame)
 ·refine bW (List.mem_filterMap.mp m) λe he ha=>?_
  obtain⟨_,L,o,es,ep,q1,_,q2,Wt,q3,n1,n2,n3⟩:=ff e he;rw[q1]at ha;obtain rfl:=oI ha;refine⟨λy=>absurd y n2,λY Y ob e=>?_⟩
  have:o=ob:=by rw[q2]at e;cases e;rfl
  subst this;refine cF (hs.2.2 _ _ q2) λsl z=>.inr ⟨Wt,sl,z⟩
 ·exact .of_keep λob e=>(hs.2.1 a m).trans e
theorem Cd{l:List Env}{vs:Array Value}(RC:A.frames=some (env::l))(ff:FF sb J.heap f (env::l))(hf:env.frame=some L)(he:J.heap.get? ea=some oe)(hd:oe.data=.fields vs)(hsz:1<vs.size)(k:∀d9 ts,Heap.SlotsOnly ((env::l).filterMap (·.frame)) J.heap d9->d9.get? ea=some oe->ts[3]? =some (rawInt L)->Q () {J with heap:=(d9.push {cls:=.type "traceback",dict:=none,data:=.fields ts}).update ea (Obj.mapFields (·.setIfInBounds 1 (.ref d9.objs.size)))}):
  wpAny M A (do let a<-frameOf env;let pl<-entryPlaceOf L wO;let b<-EntryCells.newEntry head a .none (rawInt L) .none pl;PySem.setField (.ref ea) 1 b) Q E J:=by
 have hl:=ff.fun_
 have UL:ea∉(env::l).filterMap _:=λhm=>by
  obtain⟨_,ob,ho,YB⟩:=hl.mem hm;rw[he]at ho;injection ho with ho;subst ho;exact YB vs hd
 refine af (wpAny_frameOf_fun RC hl hf λd9 Hg=>?_);refine af (wpAny_entryPlaceOf λpl Lk=>?_);refine af (wpAny_newObj_type ?_ (Lk.sizeOk5 _ _ _ _ _));have Hh:=(Hg.2.1 ea UL).trans he;exact wpAny_setField (aG _ Hh) hd hsz (k d9 _ Hg Hh (by first|(simp;done)|(obtain rfl|⟨_,_,_,_,_,_,_,rfl⟩:=Lk<;>simp)))
structure GX(l:List Addr)(X:AP)(h:Heap)(f:Fz)(X':AP)(h':Heap):Prop where
 go:Go X h f X' h' f
 ex:∀a,¬X a->a∉l->∀o,h.get? a=some o->h'.get? a=some o
theorem GX.refl(l):GX l X h f X h:=⟨.refl ..,λY Y Y Y e=>e⟩
theorem GX.trans{l:List Addr}(x:GX l X h f X' h')(y:GX l X' h' f LG qu):GX l X h f LG qu:=⟨x.go.trans y.go x.go.no,λa n1 n2 o e=>y.ex a (λz=>(x.go.no a z).elim n1 λw=>Nat.not_lt.mpr w (aF e)) n2 o (x.ex a n1 n2 o e)⟩
theorem GX.less{l:List Addr}(x:GX l X h f X' h')(ho:∀a,o a->X' a\/X a\/h.objs.size<=a):GX l X h f o h':=⟨x.go.less ho,x.ex⟩
theorem GX.at{l:List Addr}{a:Addr}(hs:Heap.SameBut a h h')(ha:X a):GX l X h f X h':=⟨Go.at hs ha,λb n Y o e=>(hs.2 b λq=>n (q▸ha)).trans e⟩
theorem GX.keeps{l:List Addr}(k:∀b o,h.get? b=some o->h'.get? b=some o)(sz:h.objs.size<=h'.objs.size):GX l X h f X h':=⟨Go.keeps k sz,λb Y Y o e=>k b o e⟩
def V4(w:World)(h:Heap)(f:Fz)(m:AV)(ea d:Addr)(oe:Obj)(vs:Array Value):Prop:=∃mm mv,h.get? ea=some oe/\oe.cls=.ref dp/\oe.dict=some d/\oe.data=.fields vs/\h.Ns1 d mm/\mm ("message":Str)=some mv/\VR w h f m mv/\(∀k,k≠("message":Str)->mm k=none)/\ea≠d
theorem qf{l:List Env}{L d:Addr}{oe:Obj}{vs:Array Value}{head:Value}{wO:Bool}{m:AV}(RC:A.frames=some (env::l))(ff:FF sb J.heap f (env::l))(hf:env.frame=some L)(b:V4 w J.heap f m ea d oe vs)(hsz:1<vs.size)(ok:f.Ok)(fr:eI f X)(Lr:∀a,X a->a∉(env::l).filterMap (·.frame))(xe:X ea)(xd:X d)(k:∀h' X',nK w h' f m (.ref ea) (rawInt L) X'->GX ((env::l).filterMap (·.frame)) X J.heap f X' h'->Q () {J with heap:=h'}):
  wpAny M A (do let a<-frameOf env;let pl<-entryPlaceOf L wO;let b<-EntryCells.newEntry head a .none (rawInt L) .none pl;PySem.setField (.ref ea) 1 b) Q E J:=by
 refine Nc b λmm mv b1 b2 b3 b4 b5 b6 b7 b8 b9=>?_;refine Cd RC ff hf b1 b4 hsz λd9 ts hs he ht=>?_;obtain⟨oc,od,X8,X3⟩:=oe;subst b4;have G1:GX ((env::l).filterMap (·.frame)) X J.heap f X d9:=⟨Go.slots ff hs,λa Y n o e=>(hs.2.1 a n).trans e⟩
 have G2:GX ((env::l).filterMap (·.frame)) X d9 f X (d9.push {cls:=.type "traceback",dict:=none,data:=.fields ts}):=GX.keeps (bZ _ _) (de _ _)
 have G3:GX ((env::l).filterMap (·.frame)) X _ f X ((d9.push {cls:=.type "traceback",dict:=none,data:=.fields ts}).update ea (Obj.mapFields (·.setIfInBounds 1 (.ref d9.objs.size)))):=GX.at (aI ..) xe
 have G:=(G1.trans G2).trans G3
 have WT:d9.objs.size≠ea:=Nat.ne_of_gt (aF he)
 have YM:d9.objs.size≠d:=by
  rw[hs.1];exact Nat.ne_of_gt b5.lt
 refine k _ (λa=>X a\/a=d9.objs.size) (IQ ea _ (vs.setIfInBounds 1 (.ref d9.objs.size)) d mm mv d9.objs.size _ ts (mL rfl (aX _ (aG _ he) rfl) b2 b3 rfl) (qL ?_ b6 (b7.go G.go ok fr) b8) (D1 b9 (.inl xe) (.inl xd) (.inr rfl) WT YM) (by simp[hsz]) ((Heap.get?_update_other _ _ (Ne.symm WT)).trans (aE _ rfl)) rfl rfl ht) (G.less λa q=>q.elim .inl λz=>.inr (.inr (by subst z;exact aR hs.1.symm)))
 refine b5.at λo e=>?_;rw[Heap.get?_update_other _ _ b9];exact aG _ ((hs.2.1 d (Lr d xd)).trans e)
theorem St.notFrames(x:St c s h f bA)(hX:eX c f bA X):∀a,X a->a∉(c.fe::c.out).filterMap (·.frame):=λa q m=>by
 refine bW (List.mem_filterMap.mp m) λe he ha=>?_;obtain z|z:=List.mem_cons.mp he
 ·subst z
  rw[x.ffr.1]at ha;obtain rfl:=oI ha;refine cC x.fr λmm F q1 Y=>(hX _ q).1 q1.ownL
 ·exact(hX a q).2.1.out e z ha
theorem kM(x:St c s J.heap f bA){m:AV}{e:Value}(ex:D3 c J.heap f m e X)(hX:eX c f bA X)(k:∀h' X',nK c.w h' f m e (rawInt c.fe.locals) X'->GX ((c.fe::c.out).filterMap (·.frame)) X J.heap f X' h'->Q () {J with heap:=h'}):wpAny M c.A (noteFrame e c.fe) Q E J:=by
 refine Qj ex ?_;rintro ea oe vs d mm mv rfl a2 a3 a4 a5 b1 b2 b3 b4 c1 c2 c3 tb;have fr:=hX.free;have Lr:=x.notFrames hX;unfold noteFrame;simp only[x.ffr.1];obtain tb|⟨T,oT,ts,fl,t1,t2,t3,t4,t5,t6,t7,t8,t9⟩:=tb
 ·have hsz:=(Array.getElem?_eq_some_iff.mp tb).1
  refine af (wpAny_field a2 a5 tb ?_);exact qf x.frames x.ff2 x.ffr.1 (MY mm mv a2 a3 a4 a5 b1 b2 b3 b4 c1) hsz x.wd.fok fr Lr c2 c3 k
 ·refine af (wpAny_field a2 a5 t1 ?_)
  refine af (wpAny_field t2 t4 t5 ?_);obtain t6|t6:=t6
  ·subst t6
   refine af (wpAny_setField t2 t4 (Array.getElem?_eq_some_iff.mp t5).1 ?_);have G0:GX ((c.fe::c.out).filterMap (·.frame)) X J.heap f X (J.heap.update T (Obj.mapFields (·.setIfInBounds 3 Value.none))):=GX.at (aI ..) t7;refine qf x.frames (x.ff2.go G0.go λe he L q z=>Lr L z (List.mem_filterMap.mpr (cf e he q))) x.ffr.1 (MY mm mv ((Heap.get?_update_other _ _ t8).trans a2) a3 a4 a5 (b1.sameBut (aI ..) (Ne.symm t9)) b2 (b3.go G0.go x.wd.fok fr) b4 c1) ((Array.getElem?_eq_some_iff.mp t1).1) x.wd.fok fr Lr c2 c3 λh' X' z G=>k h' X' z (G0.trans G)
  ·subst t6
   rw[aA (by simp)]
   exact aj (k J.heap X (IQ ea oe vs d mm mv T oT ts (mL rfl a2 a3 a4 a5) (qL b1 b2 b3 b4) (D1 c1 c2 c3 t7 t8 t9) t1 t2 t3 t4 t5) (.refl ..))
theorem iK{m:AV}{e fl:Value}(ex:nK w J.heap f m e fl X)(ok:f.Ok)(fr:eI f X)(k:∀h',nK w h' f m e (L.elim .none λa=>rawInt a) X->(∀l,GX l X J.heap f X h')->Q () {J with heap:=h'}):wpAny M A (setFlight e L) Q E J:=by
 refine M6 ex ?_;rintro ea oe vs d mm mv T oT ts ⟨rfl,a2,a3,a4,a5⟩ ⟨b1,b2,b3,b4⟩ ⟨c1,c2,c3,c4,c5,c6⟩ d1 d2 d3 d4 d5;refine af (wpAny_field a2 a5 d1 ?_);obtain⟨tc,td,ZM,ZL⟩:=oT;subst d4;have G0:∀l,GX l X J.heap f X (J.heap.update T (Obj.mapFields (·.setIfInBounds 3 (L.elim .none λa=>rawInt a)))):=λl=>GX.at (aI ..) c4
 have l3:=(Array.getElem?_eq_some_iff.mp d5).1
 refine wpAny_setField d2 rfl l3 (k _ (IQ ea oe vs d mm mv T _ _ (mL rfl ((Heap.get?_update_other _ _ c5).trans a2) a3 a4 a5) (qL (b1.sameBut (aI ..) (Ne.symm c6)) b2 (b3.go (G0 []).go ok fr) b4) (D1 c1 c2 c3 c4 c5 c6) d1 (aX _ d2 rfl) d3 rfl (by simp[l3])) G0)
theorem Wd.exact{l:List Addr}(x:Wd w sb h f ss)(G:GX l X h f X' h')(fr:eI f X)(hX:∀a,X a->sb.objs.size<=a)(hl:∀a∈l,sb.objs.size<=a/\¬f.sn a):Wd w sb h' f ss:=by
 refine⟨x.base,λa o p e=>?_,aq x.sbz G.go.size,x.fok,λb q=>aK (x.zl b q) G.go.size,x.snl,?_⟩
 ·have lt:=aF e
  exact G.ex a (λz=>Nat.not_lt.mpr (hX a z) lt) (λz=>Nat.not_lt.mpr (hl a z).1 lt) o (x.stat a o p e)
 ·have s:=x.seen
  induction ss using i7 with
  |none=>exact s
  |some ls=>
   refine jN s ?_;rintro b vs q1 ⟨o,e⟩ q3 q4;have sb:=(q1 b).mpr rfl;exact(kf b vs q1 ⟨o,G.ex b (λz=>(fr b z).2.2 sb) (λz=>(hl b z).2 sb) _ e⟩ (q3.go G.go x.fok fr) q4)
theorem FF.low{l:List Env}(x:FF sb h f l):∀a∈l.filterMap (·.frame),sb.objs.size<=a/\¬f.sn a:=λa m=>by
 refine bW (List.mem_filterMap.mp m) λe he ha=>?_;obtain⟨_,L,o,es,ep,q1,q0,_,_,_,_,_,n3⟩:=x e he;rw[q1]at ha;obtain rfl:=oI ha;exact⟨q0,n3⟩
theorem vB(x:St c s J.heap f bA){m:AV}{e:Value}(ex:D3 c J.heap f m e X)(hX:eX c f bA X)(k:∀h' X',nK c.w h' f m e .none X'->GX ((c.fe::c.out).filterMap (·.frame)) X J.heap f X' h'->Q () {J with heap:=h'}):wpAny M c.A (leaving c.fe e) Q E J:=by
 refine af (kM x ex hX λh' X' z G=>?_);have YV:eI f X':=λa q=>by
  obtain y|y:=G.go.no a q
  ·exact hX.free a y
  ·have:=x.fresh1 y;exact⟨this.2.1.z,this.2.1.y,this.2.1.sn⟩
 exact iK z x.wd.fok YV λqu z' G'=>k qu X' z' (G.trans (G' _))
end
theorem Ya(P):nsOkIn (KF P) 2=true:=by kernel_rfl
theorem EK(P):nsIn (KF P) 2 "sys.recursionlimit"=some none:=by kernel_rfl
theorem oy{P:Params}(X:(KF P).In h):h.NoLimit:=by
 have h2:h.Ns 2 _:=.of_isNs (isNs_of_in X (Ya _))
 exact(cf _ h2 (ns_none_of X h2 (EK _)))
def PF(c:Fm)(a:Fl)(v:Flow)(h:Heap)(f:Fz)(bA:AP):Prop:=match a,v with
 | .next,.next=>True
 | .brk,.brk=>True
 | .ret a,.ret u=>VR c.w h f a u
 |_,_=>False
structure o9(rc:f9)(c:Fm):Prop where
 x:∀(l:List Stmt) (s:S) (bA:AP) (f:Fz) (J:Shared),St c s J.heap f bA->T c (PF c) (rc.x c.cx l s) (execs l c.ev) bA f J
def DY(rc:f9)(d:Nat):Prop:=∀c,Rm c d->(∀p∈c.pin,c.cx.fx=some p.1)->c.cx.cs=none->o9 rc c
set_option backward.match.sparseCases true in
abbrev Ra(Q E:VP)(r:Result)(s:Shared):Prop:=match r with
 | .ok (.ret u)=>Q u s
 | .ok _=>False
 | .error e=>E e s
set_option backward.match.sparseCases true in
noncomputable abbrev W0(fl:Flow):Value:=match fl with| .ret v=>v|_=>.none
def CT(c:Fm)(P:AP)(bk:Option Value)(r:C)(t:Code)(f:Fz)(J:Shared):Prop:=match r with
 | .ok a b ss=>codeAny (Md c.w) c.A t (Ra (λu bT=>∃f' P',Wd c.w c.sb bT.heap f' ss/\Go P J.heap f P' bT.heap f'/\iz J bT/\VR c.w bT.heap f' a u/\(∀q,P' q->¬f'.z q/\¬f'.y q/\¬f'.sn q/\c.sb.objs.size<=q)/\∀v0,bk=some v0->kc b=false/\eD c.w bT.heap f' b v0 P') λY Y=>False) J
 | .exc m ss=>codeAny (Md c.w) c.A t (Ra (λY Y=>False) λe bT=>∃f' X,Wd c.w c.sb bT.heap f' ss/\Go P J.heap f X bT.heap f'/\iz J bT/\(∀q,X q->¬f'.z q/\¬f'.y q/\¬f'.sn q/\c.sb.objs.size<=q)/\nK c.w bT.heap f' m e .none X) J
 | .no=>True
def IU(st:Stmt)(fd:FuncData):Prop:=match st with
 | .FunctionDef _ as b _ _ _ sc _ _ _=>fd.params=as/\fd.body=.stmts b/\fd.scope=sc/\fd.globals=mainNs/\fd.builtins=builtinsNs
 |_=>False
structure zR(w:World)(h:Heap)(f:Fz)(st:Stmt)(a:Addr)(fd:FuncData)(caps:List (Str×AV)):Prop where
 get:∃o,h.get? a=some o/\o.data=.func fd
 pr:IU st fd
 code:h.CodeRec fd.code fd.qualname
 clz:∀x c,fd.closure.lookup x=some c->f.z c
 caps:ue w h f caps fd.closure
 dfl:∀dv,iI (DP st)=some dv->∃as us,dv=as.map OV.v/\dw w h f as us/\∀{M:Model} {A:Around} {E:VP} {J:Shared} {Q:QS (Option (Array Value))},J.heap=h->(∀r,(r.getD #[]).toList=us->Q r J)->wpAny M A (seqItems? fd.defaults) Q E J
section
variable{P:AP}
theorem AS(e:Gx sc=true):sc.kind=.function/\sc.isGenerator=false/\sc.isCoroutine=false:=by
 unfold Gx at e;generalize sc.kind=a at e⊢;generalize sc.isGenerator=b at e⊢;generalize sc.isCoroutine=c at e⊢;obtain _|_:=a<;>first|exact dT e|(cases b<;>cases c<;>first|exact dT e|exact⟨rfl,rfl,rfl⟩)
theorem yb{l:LO}(h:du sc l=true)(m:n∈l.map (·.1)):bD sc.names n=some .local\/bD sc.names n=some .cell:=by
 induction l with
 |nil=>exact nomatch m
 |cons q l ih=>
  have h:(match bD sc.names q.1 with|some .local=>du sc l|some .cell=>du sc l|_=>false)=true:=h
  have k:(bD sc.names q.1=some .local\/bD sc.names q.1=some .cell)/\du sc l=true:=by
   generalize bD sc.names q.1=z at h⊢;obtain _|z:=z
   ·exact dT h
   ·obtain _|_:=z<;>first|exact dT h|exact⟨.inl rfl,h⟩|exact⟨.inr rfl,h⟩
  obtain rfl|z:=List.mem_cons.mp m
  ·exact k.1
  ·exact ih k.2 z
theorem Rm.callee(R:Rm c (d+1))(env)(fx):Rm (fp c env fx) d:=⟨by
  have:=R.depth
  show c.A.depth+1+2*d<=980
  lia,by
  have:=R.units
  show c.A.units+3+20*d<=9800
  lia,R.hand⟩
theorem Rm.lim(R:Rm c d):c.A.depth<recursionLimit:=by
 have:=R.depth
 show _<1000
 lia
theorem St.refx{p:List (Str×Value)}(x:St c s h f bA)(hp:∀q∈p,cQ c h q.1 q.2):St {c with cx:=⟨c.cx.sc,c.cx.cs,fx⟩,pin:=p} s h f bA:=by
 refine⟨x.wd,λa q=>⟨⟨(x.oo a q).1.z,(x.oo a q).1.y,(x.oo a q).1.sn,(x.oo a q).1.sb,(x.oo a q).1.out⟩,(x.oo a q).2⟩,x.frames,x.ff,x.fe,x.fsc,x.ffr,x.ofr,x.tab,?_,?_,hp⟩
 ·refine cC x.fr λm F q1 q2=>(cz m F ⟨q1.ns,q1.cls,q1.ownL,q1.cells,q1.cinj,q1.cL,q1.ck,q1.loc,q1.fo,q1.fd,q1.free⟩ q2)
 ·have q:=x.comp
  refine eE c.cx.cs (λe=>by rw[e]at q;exact q) λcs e=>?_
  rw[e]at q;exact⟨q.env,q.frame,q.loc,q.top,q.free,q.cell,q.ns,q.ownC,q.neL,q.neC⟩
theorem Ce(x:St c s J.heap f bA){a:Addr}{as:List Arg}{l:LO}(hk:sc.kind=.function)(hz:∀y b,cl.lookup y=some b->f.z b)(hc:ue c.w J.heap f caps cl)(k1:eN caps sc.names=true)(k2:fJ sc caps=true)(ag:Ag c f bA J.heap os vs P)(hb:hH as os=some l)(pk:du sc l=true)(Lm:∀y,fx=some y->wa as=some y){Q:QS Env}(k:∀bT bF p,(∀y v0 l',fx=some y->vs=v0::l'->p=[(y,v0)])->(∀q∈p,fx=some q.1)->St ((fp c (eg sc J.heap.objs.size cl qual (some a) code) fx).pins p) ⟨[],l++gy caps,s.ss,none⟩ bT.heap f bF->Go P J.heap f bF bT.heap f->iz J bT->Q (eg sc J.heap.objs.size cl qual (some a) code) bT):
  wpAny M A (newFunctionEnv sc mainNs cl ((as.map (·.arg)).zip vs) qual (some a) code none builtinsNs) Q E J:=by
 have Qt:(J.heap.push {cls:=.type "frame",data:=.dict #[]}).objs.size=J.heap.objs.size+1:=aS ..
 simp only[newFunctionEnv,Option.isSome_none,aZ,if_false];refine af (wpAny_alloc ?_);refine af (wpAny_layCells _ (λname kind cells=>by rcases RB:kind==NameKind.cell with _|_<;>simp[RB]) _ _ _ _ ?_)
 rw[show({J with heap:=J.heap.push {cls:=.type "frame",data:=.dict #[]}}:Shared).heap.objs.size=J.heap.objs.size+1 from Qt]
 have G0:Go P J.heap f (λb=>J.heap.objs.size<=b/\b<(pushCells (J.heap.push {cls:=.type "frame",data:=.dict #[]}) sc.names).objs.size) (pushCells (J.heap.push {cls:=.type "frame",data:=.dict #[]}) sc.names) f:=
  (Go.keeps (λb o e=>pushCells_keeps _ _ b o (aG _ e)) (aq (de _ _) (fO _ _))).less λa q=>.inr (.inr q.1)
 have Gr:∀n,n∈l.map _->cw _ n=false:=λn hn=>by
  unfold cw;rw[lH];refine eE (bD caps n) (λq=>rfl) λav q=>?_
  have z:=qk k2 q
  obtain y|y:=yb pk hn<;>rw[y]at z<;>(injection z with zz;injection zz)
 refine af (kK (c:=fp c _ none) _ (λY Y Y=>rfl) rfl rfl as os vs P l ⟨[],gy caps,s.ss,none⟩ _ _ _ [] (x.entered hk hz hc k1 k2) ?_ hb pk (λn hn=>⟨Gr n hn,rfl,λY q=>nomatch q⟩) ?_)
 ·exact(ag.callee x λa q=>q.1).go (Go.keeps (λb o e=>pushCells_keeps _ _ b o (aG _ e)) (aq (de _ _) (fO _ _))) x.wd.fok (λY q=>q.elim) (λa q=>.inl q) λY Y q=>q
 ·refine λbT bF s' x' lk c1 c2 c3 G R Rl=>aj ?_
  have QE:=λy=>EO.trans (lk y).symm
  have GG:=G0.trans G λa q=>q.elim (λz=>.inr z.1) .inl
  induction fx using Option.casesOn with
  |none=>
   have x2:St _ ⟨[],l++gy caps,s.ss,none⟩ bT.heap f bF:=x'.ext c2.symm c3.symm c1.symm QE
   exact k bT bF [] (λY Y Y q=>nomatch q) (λY q=>nomatch q) x2 GG R
  |some y=>
   have e1:=Lm y rfl
   induction as using List.casesOn with
   |nil=>exact c8 e1
   |cons a0 zp=>
    obtain rfl:=oI e1;induction vs using List.casesOn with
    |nil=>
     have:=ag.length
     have:=(mr hb).2.2
     simp_all
    |cons v0 Qr=>
     have x2:=St.refx (c:=(fp c _ none).pins []) (fx:=some a0.arg) (p:=[(a0.arg,v0)]) x' λq hq=>by
      cases hq with
      |head=>exact(Rl a0 zp v0 Qr rfl rfl)
      |tail _ h=>obtain _|_:=h
     exact k bT bF [(a0.arg,v0)] (λy v l' q1 q2=>by obtain rfl:=oI q1;(injection q2 with zz yy;subst zz yy);rfl) (λq hq=>by
      cases hq with
      |head=>rfl
      |tail _ h=>obtain _|_:=h) (x2.ext c2.symm c3.symm c1.symm QE) GG R
end
section
variable{rc:f9}{d:Nat}{c:Fm}{bA bF o P X:AP}{f f':Fz}{J bT:Shared}{s s':S}{h h':Heap}{os:List OV}{vs:LV}{e:Expr}
theorem sN(cy:Rm c (d+1))(x:St c s J.heap f bA){name:Str}{as:List Arg}{ds:List Expr}{body:List Stmt}{sc:Scope}{t1 t2 t3 t4 t5 t6}
  {a:Addr} {fd:FuncData} {caps:LE} (fn:zR c.w J.heap f (.FunctionDef name ⟨[],as,none,[],[],none,ds⟩ body t1 t2 t3 sc t4 t5 t6) a fd caps) (ag:Ag c f bA J.heap os vs P) {dv:List OV} {l:LO} {fx:Option Str} (hd:iI ds=some dv) (hb:hH as (os++dv.drop (os.length+dv.length-as.length))=some l) (hs:Gx sc=true) (k1:eN caps sc.names=true) (k2:fJ sc caps=true) (pk:du sc l=true) (hl:Nat.ble dv.length as.length=true) (Lm:∀y,fx=some y->wa as=some y)
  {Q E:VP} (k:∀env p bT bF,env.scope=sc->Rm ((fp c env fx).pins p) d->(∀q∈p,fx=some q.1)->(∀y v0 l',fx=some y->vs=v0::l'->p=[(y,v0)])->St ((fp c env fx).pins p) ⟨[],l++gy caps,s.ss,none⟩ bT.heap f bF->Go P J.heap f bF bT.heap f->iz J bT->
   wpAny (Md c.w) (c.A.deeper env) (execs body env) (λfl s'=>Q (W0 fl) s') (λe s'=>wpAny (Md c.w) (c.A.deeper env) (leaving env e) (λY HU=>E e HU) (λe' HU=>E e' HU) s') bT):codeAny (Md c.w) c.A (.call (.ref a) ⟨vs,[]⟩) (Ra Q E) J:=by
 obtain⟨⟨ob,ho,DJ⟩,⟨p1,p2,p3,p4,p5⟩,RE,clz,Af,dfl⟩:=fn;refine fF (AS hs) λs1 s2 s3=>dR (dfl dv hd) ?_;rintro zp us rfl Qw RA
 have hl:=aB hl
 refine fF (mr hb) λb1 b2 b3=>?_;have la:=ag.length;have lu:=Qw.length;rw[ah]at hl b3 hb;rw[aw,List.length_drop,ah]at b3;refine codeAny_call_function cy.lim ho DJ (p3▸s3) (p3▸s2) p2 RE<|mu p1 b2 (RA rfl) (by omega) (by omega) (by omega) ?_
 rw[p3,p4,p5];have RN:Ag c f bA J.heap (os++(zp.map OV.v).drop (os.length+zp.length-as.length)) (vs++us.drop (vs.length+us.length-as.length)) P:=by
  rw[<-List.map_drop,<-la,<-lu];exact ag.app (Qw.drop _)
 refine Ce x s1 clz Af k1 k2 RN hb pk Lm λbT bF p C2 KZ x' G R=>⟨oy x'.X,codeAny_func ?_⟩
 exact k _ p bT bF rfl ⟨(cy.callee _ fx).depth,(cy.callee _ fx).units,(cy.callee _ fx).hand⟩ KZ (λy v0 l' q1 q2=>C2 y v0 _ q1 (by rw[q2];rfl)) x' G R
noncomputable def o8(ow:Bool)(vs:LV):Option Value:=match ow with|true=>vs.head? |false=>none
set_option tactic.hygienic true in
theorem Cv(HS:DY rc d)(cy:Rm c (d+1))(x:St c s J.heap f bA)(ow:Bool){nm:Str}{as:List Arg}{ds:List Expr}{body:List Stmt}{sc:Scope}{t1 t2 t3 t4 t5 t6}{a:Addr}{fd:FuncData}{caps:LE}(fn:zR c.w J.heap f (.FunctionDef nm ⟨[],as,none,[],[],none,ds⟩ body t1 t2 t3 sc t4 t5 t6) a fd caps)(ag:Ag c f bA J.heap os vs P){dv:List OV}{l:LO}(hd:iI ds=some dv)(hb:hH as (os++dv.drop (os.length+dv.length-as.length))=some l)(e1:Gx sc=true)(e2:eN caps sc.names=true)(e3:fJ sc caps=true)(e4:du sc l=true)(e5:Nat.ble dv.length as.length=true):
  CT c P (o8 ow vs) (match rc.x ⟨sc,none,jw ow as⟩ body ⟨[],l++gy caps,s.ss,none⟩with
     | .ok fl s=>fq ow as fl s
     | .exc m s=>.exc m s.ss
     | .no=>.no) (.call (.ref a) ⟨vs,[]⟩) f J:=by
 have Lm:∀y,jw ow as=some y->wa as=some y:=λy q=>by
  induction ow using i8 with
  |true=>exact q
  |false=>exact c8 q
 have run:= @sN d c bA P f J s os vs cy x nm as ds body sc t1 t2 t3 t4 t5 t6 a fd caps fn ag dv l (jw ow as) hd hb e1 e2 e3 e4 e5 Lm
 generalize r:rc.x ⟨sc,none,jw ow as⟩ body ⟨[],l++gy caps,s.ss,none⟩=zz;induction zz using iw with
 |no=>trivial
 |exc m bK=>
  refine run λenv p bT bF Lj rm C2 KZ x' G R=>?_;subst Lj;have t:=(HS ((fp c env (jw ow as)).pins p) rm C2 rfl).x body _ bF f bT x';have t:T ((fp c env (jw ow as)).pins p) (PF _) (rc.x ⟨env.scope,none,jw ow as⟩ body ⟨[],l++gy caps,s.ss,none⟩) (execs body env) bF f bT:=t;rw[r]at t;refine ak (M:=Md c.w) t (λY Y z=>z.elim) λe s' z=>cC z λf1 gq po z=>dI z λX ex hX hn=>?_
  refine vB po.st ex hX λqu LG z G2=>?_;have fr:=hX.free;have lo:∀q,LG q->¬f1.z q/\¬f1.y q/\¬f1.sn q/\c.sb.objs.size<=q:=λq hq=>by
   obtain y|y:=G2.go.no q hq
   ·exact⟨(fr q y).1,(fr q y).2.1,(fr q y).2.2,(hX q y).2.2⟩
   ·have:=po.st.fresh1 y
    exact⟨this.2.1.z,this.2.1.y,this.2.1.sn,this.2.2⟩
  have G3:Go P J.heap f LG qu f1:=(G.trans po.go G.no).trans G2.go λq hq=>by
   obtain y|y:=hn q hq
   ·exact G.no q y
   ·exact .inr (aq G.size y)
  exact⟨f1,LG,po.st.wd.exact G2 fr (λq hq=>(hX q hq).2.2) (po.st.ff2.low),G3,R.trans po.rest,lo,z⟩
 |ok fl bK=>
  have ey:∀{av:AV} (hv:∀Dr h f' bF,PF ((fp c (default) (jw ow as))) fl Dr h f' bF->VR c.w h f' av (W0 Dr)),CT c P (o8 ow vs) (wm ow as av bK) (.call (.ref a) ⟨vs,[]⟩) f J:=λ{av} hv=>by
   have go:∀{b:OV} {ss:OA},ss=bK.ss->(∀y v0,o8 ow vs=some v0->jw ow as=some y->kc b=false/\bD bK.loc y=some b)->(∀v0,o8 ow vs=some v0->∃y,jw ow as=some y)->CT c P (o8 ow vs) (.ok av b ss) (.call (.ref a) ⟨vs,[]⟩) f J:=λ{b ss} Dm YK hy=>by
    subst Dm;refine run λenv p bT bF Lj rm C2 KZ x' G R=>?_;subst Lj;have t:=(HS ((fp c env (jw ow as)).pins p) rm C2 rfl).x body _ bF f bT x';have t:T ((fp c env (jw ow as)).pins p) (PF _) (rc.x ⟨env.scope,none,jw ow as⟩ body ⟨[],l++gy caps,s.ss,none⟩) (execs body env) bF f bT:=t;rw[r]at t;refine ak (M:=Md c.w) t (λDr s' z=>cC z λf1 gq po q=>?_) λY Y z=>z.elim
    have GG:Go P J.heap f gq s'.heap f1:=G.trans po.go G.no
    refine eE (o8 ow vs) (λGw=>⟨f1,λY=>False,po.st.wd,GG.less λY q=>q.elim,R.trans po.rest,hv Dr s'.heap f1 gq q,λY q=>q.elim,λY q=>nomatch q⟩) λv0 Gw=>?_
    refine cF (hy v0 Gw) λy WK=>?_;refine cH (YK y v0 Gw WK) λz1 z2=>?_;refine cC po.st.fr λm F q1 q2=>?_;refine dI (q1.loc y b z2) λv r1 r2 r3=>?_;have Ry:∃l',vs=v0::l':=by
     unfold o8 at Gw
     split at Gw
     ·induction vs using eZ with
      |nil=>exact c8 Gw
      |cons v l'=>obtain rfl:=oI Gw;exact⟨l',rfl⟩
     ·exact c8 Gw
    refine cF Ry λl' Ry=>?_;have hp:=KZ y v0 l' WK Ry;have pn:cQ ((fp c env (jw ow as)).pins p) s'.heap y v0:=po.st.pin (y,v0) (by show(y,v0)∈p;rw[hp];exact .head _)
    have:v=v0:=cQ.eq ⟨m,q1.ns,r1⟩ pn
    subst this;refine⟨f1,F y,po.st.wd,GG.less λa q=>.inl (q1.fo y a q).1,R.trans po.rest,hv Dr s'.heap f1 gq q,λa q=>?_,λv1 e1=>by obtain rfl:=oI e1;exact⟨z1,r2⟩⟩
    have:=po.st.oo a (q1.fo y a q).1
    exact⟨this.1.z,this.1.y,this.1.sn,(q1.fo y a q).2.2.2.2⟩
   unfold wm
   split
   ·exact go rfl (λy v0 q=>nomatch q) λv0 q=>nomatch q
   ·rename_i a0 zp
    split
    ·rename_i b hb
     split
     ·trivial
     ·rename_i hk
      exact go rfl (λy v0 Y e=>by obtain rfl:=oI e;exact⟨hk,hb⟩) λv0 Y=>⟨a0.arg,rfl⟩
    ·trivial
   ·trivial
  induction fl using Lc with
  |brk=>trivial
  |next=>exact ey λDr h f' bF q=>by obtain _|_:=Dr<;>first|exact .none|exact q.elim
  |ret av=>exact ey λDr h f' bF q=>by obtain _|_:=Dr<;>first|exact q|exact q.elim
set_option tactic.hygienic true in
theorem tw(HS:DY rc d)(cy:Rm c (d+1))(x:St c s J.heap f bA)(ow:Bool){st:Stmt}{a:Addr}{fd:FuncData}{caps:LE}(fn:zR c.w J.heap f st a fd caps)(ag:Ag c f bA J.heap os vs P):
  CT c P (o8 ow vs) (mc rc ow st os caps s.ss) (.call (.ref a) ⟨vs,[]⟩) f J:=by
 obtain _|_:=st<;>try trivial
 rename_i nm ar body t1 t2 t3 sc t4 t5 t6
 obtain⟨po,as,va,ko,kd,kw,ds⟩:=ar;obtain _|_:=po<;>try trivial
 obtain _|_:=va<;>try trivial
 obtain _|_:=ko<;>try trivial
 obtain _|_:=kd<;>try trivial
 obtain _|_:=kw<;>try trivial
 unfold mc;dsimp only;rcases hd:iI ds with _|_<;>try trivial
 rename_i dv
 dsimp only;rcases hb:hH as (os++dv.drop (os.length+dv.length-as.length))with _|_<;>try trivial
 rename_i l
 dsimp only;rcases e1:Gx sc with _|_<;>try trivial
 rcases e2:eN caps sc.names with _|_<;>try trivial
 rcases e3:fJ sc caps with _|_<;>try trivial
 rcases e4:du sc l with _|_<;>try trivial
 rcases e5:Nat.ble dv.length as.length with _|_<;>try trivial
 exact Cv HS cy x ow fn ag hd hb e1 e2 e3 e4 e5
end
structure FM where
 a:Addr
 st:Stmt
 qual:String
 defs:Value
 dvs:List Value
 md:Value
def Dq:List FM:=[⟨35,fu 2 0,"Null.__init__",vn,[],m3⟩,
 ⟨57,fu 3 0,"Vector.__init__",(r 50),[vn],m3⟩,
 ⟨85,fu 4 0,"Symbol.__init__",vn,[],m3⟩,
 ⟨107,fu 5 0,"Call.__init__",(r 100),[vn],m3⟩,
 ⟨128,fu 6 0,"Builtin.__init__",vn,[],m3⟩,
 ⟨150,fu 7 0,"Environment.__init__",(r 143),[vn],m3⟩,
 ⟨206,cJ 10,"null",vn,[],m3⟩,
 ⟨213,cJ 11,"logical",vn,[],m3⟩,
 ⟨220,cJ 12,"integer",vn,[],m3⟩,
 ⟨227,cJ 13,"character",vn,[],m3⟩,
 ⟨234,cJ 14,"named",vn,[],m3⟩,
 ⟨240,cJ 15,"list_of",(r 235),[vn],m3⟩,
 ⟨254,cJ 17,"length",vn,[],m3⟩,
 ⟨261,cJ 18,"is_vector",vn,[],m3⟩,
 ⟨268,cJ 19,"is_atomic",vn,[],m3⟩,
 ⟨275,cJ 20,"is_function",vn,[],m3⟩,
 ⟨282,cJ 21,"share",vn,[],m3⟩,
 ⟨289,cJ 23,"get_attr",vn,[],m4⟩,
 ⟨303,cJ 25,"put_attr",vn,[],m4⟩,
 ⟨308,cJ 26,"set_names",vn,[],m4⟩,
 ⟨313,cJ 27,"names_of",vn,[],m4⟩,
 ⟨320,cJ 28,"dim_of",vn,[],m4⟩,
 ⟨332,cJ 30,"class_attr",vn,[],m4⟩,
 ⟨359,fu 33 0,"Refusal.__init__",vn,[],m5⟩,
 ⟨454,fu 39 0,"Matching.__init__",vn,[],m6⟩,
 ⟨461,fu 39 1,"Matching.exact",vn,[],m6⟩,
 ⟨468,fu 39 2,"Matching.partial",vn,[],m6⟩,
 ⟨475,fu 39 3,"Matching.partial_of",vn,[],m6⟩,
 ⟨482,fu 39 4,"Matching.positional",vn,[],m6⟩,
 ⟨489,fu 39 5,"Matching.is_free",vn,[],m6⟩,
 ⟨494,fu 39 6,"Matching.rest",vn,[],m6⟩,
 ⟨526,cJ 43,"match_names",(r 521),[vn],m6⟩,
 ⟨532,cJ 44,"take",(r 527),[vn],m6⟩,
 ⟨539,cJ 46,"is_factor",vn,[],m7⟩,
 ⟨544,cJ 47,"pick",vn,[],m7⟩,
 ⟨549,cJ 48,"which_true",vn,[],m7⟩,
 ⟨556,cJ 50,"function_arg",vn,[],m8⟩,
 ⟨561,cJ 51,"item_values",vn,[],m8⟩,
 ⟨568,cJ 52,"value_names",vn,[],m8⟩,
 ⟨575,cJ 53,"call_each",vn,[],m8⟩,
 ⟨582,cJ 54,"use_names",vn,[],m8⟩,
 ⟨589,cJ 55,"dimnames_value",vn,[],m8⟩,
 ⟨787,cJ 91,"kind_order",vn,[],uj⟩,
 ⟨794,cJ 92,"common_kind",vn,[],uj⟩,
 ⟨829,cJ 97,"to_logical",vn,[],uj⟩,
 ⟨850,cJ 100,"to_text",vn,[],uj⟩,
 ⟨857,cJ 101,"item_as",vn,[],uj⟩,
 ⟨864,cJ 102,"is_atomic_kind",vn,[],uj⟩,
 ⟨890,cJ 106,"with_names",vn,[],uj⟩,
 ⟨895,cJ 107,"as_kind",vn,[],uj⟩,
 ⟨902,cJ 108,"condition",vn,[],uj⟩,
 ⟨909,cJ 110,"needed_arg",vn,[],Ro⟩,
 ⟨916,cJ 111,"flag_arg",vn,[],Ro⟩,
 ⟨923,cJ 113,"joined_name",vn,[],CZ⟩,
 ⟨928,cJ 114,"combine_ones",vn,[],CZ⟩,
 ⟨933,cJ 115,"as_columns",vn,[],CZ⟩,
 ⟨940,cJ 116,"common_length",vn,[],CZ⟩,
 ⟨947,cJ 117,"all_ones",vn,[],CZ⟩,
 ⟨954,cJ 118,"simplified",vn,[],CZ⟩,
 ⟨961,cJ 120,"b_lapply",vn,[],oJ⟩,
 ⟨968,cJ 121,"b_sapply",vn,[],oJ⟩,
 ⟨975,cJ 122,"check_form",vn,[],oJ⟩,
 ⟨980,cJ 123,"b_vapply",vn,[],oJ⟩,
 ⟨987,cJ 124,"form_matrix",vn,[],oJ⟩,
 ⟨992,cJ 125,"walk_together",vn,[],oJ⟩,
 ⟨999,cJ 126,"together_names",vn,[],oJ⟩,
 ⟨1006,cJ 127,"b_map",vn,[],oJ⟩,
 ⟨1013,cJ 128,"reduce_steps",vn,[],oJ⟩,
 ⟨1020,cJ 129,"b_reduce",vn,[],oJ⟩,
 ⟨1027,cJ 130,"test_each",vn,[],oJ⟩,
 ⟨1032,cJ 131,"b_filter",vn,[],oJ⟩,
 ⟨1039,cJ 132,"found_place",vn,[],oJ⟩,
 ⟨1046,cJ 133,"b_position",vn,[],oJ⟩,
 ⟨1053,cJ 134,"b_find",vn,[],oJ⟩,
 ⟨1165,fu 150 0,"Evaluator.__init__",(r 1158),[(vi 20000 1795),(vi 40 1796)],lQ⟩,
 ⟨1172,fu 150 1,"Evaluator.new_env",vn,[],lQ⟩,
 ⟨1309,fu 150 20,"Evaluator.call_builtin",vn,[],lQ⟩,
 ⟨1346,fu 150 25,"Evaluator.call_value",(r 1339),[vn],lQ⟩,
 ⟨1374,cJ 153,"_law_pick",vn,[],m1⟩,
 ⟨1381,cJ 154,"_law_figure",vn,[],m1⟩,
 ⟨1388,cJ 155,"_law_value",vn,[],m1⟩,
 ⟨1395,cJ 156,"_law_names",vn,[],m1⟩,
 ⟨1400,cJ 157,"_law_same",vn,[],m1⟩,
 ⟨1405,cJ 158,"_law_simple",vn,[],m1⟩,
 ⟨1412,cJ 159,"_law_told",vn,[],m1⟩,
 ⟨1417,cJ 160,"law",vn,[],m1⟩]
protected def FM.fd (m:FM):FuncData:=vW m.st m.qual 3 m.defs m.md (.ref (m.a-1)) 0
noncomputable def MH:Value->AV
 | .int i _=>.int i
 |_=>.none
noncomputable def zK:Value->Bool
 | .none=>true
 | .int _ _=>true
 |_=>false
theorem sU:gW=Dq.map λm=>(m.a,m.st):=by kernel_rfl
theorem kr(P):(Dq.map λm=>(KF P).lookup m.a)=Dq.map λm=>some ⟨.type "function",none,.func m.fd,#[]⟩:=by kernel_rfl
def ri(P:Params)(m:FM):Bool:=match(KF P).lookup (m.a-1)with
 |some ⟨_,_,.fields vs,_⟩=>(match vs.toList with
  |_::.str s _::_=>dM s m.fd.qualname
  |_=>false)
 |_=>false
theorem BV(P):(Dq.all λm=>ri P m)=true:=by kernel_rfl
def qR(P:Params)(m:FM):Bool:=match m.defs with
 | .none=>m.dvs.isEmpty
 | .ref t=>(match(KF P).lookup t with
  |some ⟨_,_,.seq dh _,_⟩=>dh.toList==m.dvs&&m.dvs.all zK
  |_=>false)
 |_=>false
theorem Fa(P):(Dq.all λm=>qR P m)=true:=by kernel_rfl
theorem Fc:(Dq.map λm=>iI (DP m.st))=Dq.map λm=>some (m.dvs.map λv=>OV.v (MH v)):=by kernel_rfl
noncomputable def O7:Stmt->Bool
 | .FunctionDef .. =>true
 |_=>false
theorem Fb:(Dq.all λm=>O7 m.st)=true:=by kernel_rfl
theorem Pq:∀{us:LV},us.all zK=true->dw w h f (us.map MH) us:=by
 intro us;induction us with
 |nil=>intro _;exact .nil
 |cons v us ih=>
  intro e;rw[List.all_cons,aO]at e;refine .cons ?_ (ih e.2);obtain _|_:=v<;>first|(cases e.1;done)|skip
  ·exact .none
  ·exact .int _ _
set_option tactic.hygienic true in
theorem vJ{P:Params}{m:FM}(hc:ri P m=true):∃o vs t,(KF P).lookup (m.a-1)=some o/\o.data=.fields vs/\vs[1]? =some (.str m.fd.qualname t):=by
 unfold ri at hc;rcases q:(KF P).lookup (m.a-1)with _|⟨c',d',dt,sl⟩<;>rw[q]at hc
 ·exact dT hc
 obtain _|_:=dt<;>try exact dT hc
 rename_i vs
 have hc:(match vs.toList with|_::.str s _::_=>dM s m.fd.qualname|_=>false)=true:=hc
 rcases q2:vs.toList with _|⟨v1,l⟩<;>rw[q2]at hc
 ·exact dT hc
 obtain _|⟨v2,l⟩:=l
 ·exact dT hc
 obtain _|_:=v2<;>try exact dT hc
 exact mK _ vs _ rfl rfl (by rw[<-Array.getElem?_toList,q2,<-cR.mp hc];rfl)
set_option tactic.hygienic true in
theorem yI{P:Params}{m:FM}(hd:qR P m=true):(m.defs=.none/\m.dvs=[])\/∃t o dh n,m.defs=.ref t/\(KF P).lookup t=some o/\o.data=.seq dh n/\dh.toList=m.dvs/\m.dvs.all zK=true:=by
 unfold qR at hd;rcases q:m.defs with _|_<;>rw[q]at hd<;>try exact dT hd
 ·exact .inl ⟨rfl,List.isEmpty_iff.mp hd⟩
 ·rename_i t
  have hd:(match(KF P).lookup t with
   |some ⟨_,_,.seq dh _,_⟩=>dh.toList==m.dvs&&m.dvs.all zK
   |_=>false)=true:=hd
  rcases q:(KF P).lookup t with _|⟨c',d',dt,sl⟩<;>rw[q]at hd
  ·exact dT hd
  obtain _|_:=dt<;>try exact dT hd
  have z:=Bool.and_eq_true_iff.mp hd
  exact .inr ⟨t,⟨c',d',_,sl⟩,_,_,rfl,q,rfl,eq_of_beq z.1,z.2⟩
theorem Pg{m:FM}(hf:(match m.st with| .FunctionDef .. =>true|_=>false)=true):m.fd.closure=[]/\m.fd.code=.ref (m.a-1)/\m.fd.defaults=m.defs/\IU m.st m.fd:=by
 unfold FM.fd;generalize m.st=st at hf⊢;induction st using Stmt.casesOn with
 |FunctionDef=>exact(V0 rfl rfl rfl rfl rfl rfl rfl rfl)
 |_=>exact dT hf
theorem Fp(X:(KF w.params).In h){m:FM}(hd:qR w.params m=true):m.dvs.all zK=true/\∀{M} {A} {E:VP} {J} {Q:QS (Option (Array Value))},J.heap=h->(∀r,(r.getD #[]).toList=m.dvs->Q r J)->wpAny M A (seqItems? m.defs) Q E J:=by
 obtain⟨q1,q2⟩|⟨t,o,dh,n,q1,q2,q3,q4,q5⟩:=yI hd<;>rw[q1]
 ·rw[q2]
  exact⟨rfl,λY k=>af (aj (aj (k none rfl)))⟩
 ·exact⟨q5,λeh k=>wpAny_seqItems (eh▸X _ _ q2) q3 (k _ q4)⟩
theorem Al(X:(KF w.params).In h){a:Addr}(e:dc gW a=some st):∃fd,zR w h f st a fd []:=by
 have hm:=fY e
 rw[sU]at hm;refine bW (List.mem_map.mp hm) λm Gu e1=>?_;clear hm
 (injection e1 with zz yy;subst zz yy)
 refine lg (Pg (List.all_eq_true.mp Fb m Gu)) λh1 h2 h3 h4=>⟨m.fd,(cf _ (X _ _ (List.map_inj_left.mp (kr w.params) m Gu)) rfl),h4,?_,(λx c q=>by rw[h1]at q;exact c8 q),.nil,λdv q=>?_⟩
 ·refine jM (vJ (List.all_eq_true.mp (BV w.params) m Gu)) λo vs t q1 q2 q3=>IS _ o vs t h2 (X _ _ q1) q2 q3
 ·obtain rfl:=oI ((List.map_inj_left.mp Fc m Gu).symm.trans q)
  have qt:=Fp X (List.all_eq_true.mp (Fa w.params) m Gu)
  refine(eF _ m.dvs (by rw[bh];rfl) (Pq qt.1) (λeh k=>?_))
  rw[h3];exact qt.2 eh k
section
variable{P:AP}
def PA(c:Fm)(ow:AP)(n:Nat)(os:List OV)(vs:LV)(h:Heap)(f:Fz)(bA:AP):Prop:=∃P,Ag c f bA h os vs P/\∀a,P a->ow a\/n<=a
theorem Cb(H:dz rc d c)(x:St c s J.heap f bA)(ow):TO c bA J (An rc c.cx ow e s) (eval e c.ev) bA f J:=by
 induction ow using i8 with
 |true=>exact H.e e s bA f J x
 |false=>exact(H.v x).toO
theorem iu(H:dz rc d c)(pos)(ow):∀l s bA f J,St c s J.heap f bA->T c (PA c bA J.heap.objs.size) (bY rc c.cx ow l s) (spliced (backTo pos (starEach l c.ev))) bA f J:=by
 intro l;induction l with
 |nil=>intro s bA f J x;exact Calls.spliced_nil ⟨f,bA,.refl x,_,.nil,λY q=>q.elim⟩
 |cons e l ih=>
  intro s bA f J x;rw[Ca];refine fS (cG e) (λp=>by trivial) λp=>?_
  dsimp only;rw[cY p];refine(Cb H x ow).via (k:=λv=>(λvs=>v::vs)<$>spliced (backTo pos (starEach l c.ev))) (λQ E z=>?_) λa bK v bJ bU bE dZ bM cj=>?_
  ·refine Calls.spliced_cons<|ak z (λv s' y=>oq y) λY Y y=>y
  ·refine dI cj λF r hF hn=>(ih bK bE bU bJ bM.st).map λos eS vs il ec fh eA hZ=>bW hZ λP ag hP=>(cf (λa=>F a\/P a) (.cons (r.go eA.go bM.st.wd.fok bM.st.free λb q=>⟨(hF b q).1,(hF b q).2.1.y,(hF b q).2.1.sn⟩) (hF.go eA.go (λb q=>(hF b q).1) r.there λb q=>.inr (eA.go.no b q)) ag (λb q1 q2=>?_)) (λb q=>?_))
   ·obtain y|y:=hP b q2
    ·exact(hF b q1).1 y
    ·exact Nat.not_lt.mpr y (r.there b q1)
   ·obtain q|q:=q
    ·exact hn b q
    ·obtain y|y:=hP b q
     ·exact bM.go.no b y
     ·exact .inr (aq bM.go.size y)
end
structure nJ(rc:f9)(c:Fm):Prop where
 f:∀(a:Addr) (st:Stmt) (os:List OV) (vs:List Value) (P:AP) (s:S) (bA:AP) (f:Fz) (J:Shared),St c s J.heap f bA->dc gW a=some st->Ag c f bA J.heap os vs P->CT c P (o8 (eQ vV a) vs) (rc.f a st os s.ss) (.call (.ref a) ⟨vs,[]⟩) f J
 c:∀(st:Stmt) (caps:List (Str×AV)) (u:Value) (os:List OV) (vs:List Value) (P:AP) (s:S) (bA:AP) (f:Fz) (J:Shared),St c s J.heap f bA->VR c.w J.heap f (.clo st caps) u->Ag c f bA J.heap os vs P->CT c P none (rc.c st os caps s.ss) (.call u ⟨vs,[]⟩) f J
section
variable{P:AP}
theorem St.behind(x:St c s J.heap f bA)(hP:eX c f bA P)(G:Go P J.heap f P' bT.heap f')(wd:Wd c.w c.sb bT.heap f' ss):St c {s with ss:=ss} bT.heap f' bA/\(∀m v,cQ c J.heap m v->cQ c bT.heap m v)/\∀{F},(∀a,F a->P a\/J.heap.objs.size<=a)->(∀q,F q->¬f'.z q/\¬f'.y q/\¬f'.sn q/\c.sb.objs.size<=q)->eX c f' bA F:=by
 refine⟨x.frame G hP.free (λa q z=>(hP a z).1 q) (λe he L q z=>(hP L z).2.1.out e he q) wd,λm v r=>?_,λ{F} hn hf a q=>?_⟩
 ·refine cC x.fr λmm FF q1 Y=>q1.name G x.wd.fok hP.free x.free (λa q z=>(hP a z).1 q) r
 ·refine lg (hf a q) λz1 z2 z3 z4=>?_
  obtain y|y:=hn a q
  ·exact⟨(hP a y).1,⟨z1,z2,z3,.inl z4,(hP a y).2.1.out⟩,z4⟩
  ·have fr:=x.fresh1 y
   exact⟨fr.1,⟨z1,z2,z3,.inl z4,fr.2.1.out⟩,z4⟩
theorem CT.exc{m:AV}(x:St c s J.heap f bA)(hP:eX c f bA P)(z:CT c P bk (.exc m ss) (.call fv ⟨us,[]⟩) f J):wA c (call fv us) (λY Y=>False) (λe bT=>∃f' bF,cD c (λa=>bA a\/P a) f J {s with ss:=ss} f' bF bT/\PX c (λa=>bA a\/P a) J.heap.objs.size m e bT.heap f' bF) J:=ak (bz z) (λY Y z=>z) λe bT z=>mM z λf' X wd G R fr ex=>fF (x.behind hP G wd) λb1 b2 b3=>⟨f',bA,⟨b1,(G.more λa q=>.inr q).less λa q=>.inr (.inl (.inl q)),R⟩,X,ex.toR (.inl rfl),b3 G.no fr,λa q=>(G.no a q).imp_left .inr⟩
theorem CT.toT{r:C}(x:St c s J.heap f bA)(hP:eX c f bA P)(z:CT c P bk r (.call fv ⟨us,[]⟩) f J):T c (PO c o k) (r.toR s λv Y s=>cZ v s) (call fv us) (λa=>bA a\/P a) f J:=by
 induction r using Rb with
 |no=>trivial
 |exc m ss=>exact z.exc x hP
 |ok a b ss=>
  refine ak (bz z) (λu bT z=>iZ z λf' P' wd G R r fr QU=>?_) λY Y z=>z
  refine fF (x.behind hP G wd) λb1 b2 b3=>(cz f' bA ⟨b1,(G.more λa q=>.inr q).less λa q=>.inr (.inl (.inl q)),R⟩ (.v r))
theorem CT.toL{r:C}(x:St c {s with loc:=eP s.loc n} J.heap f bA)(nm:cQ c J.heap n v0)(hP:eX c f bA P)(z:CT c P (some v0) r (.call fv ⟨us,[]⟩) f J):T c (PO c o k) (r.toL n s) (call fv us) (λa=>bA a\/P a) f J:=by
 induction r using Rb with
 |no=>trivial
 |exc m ss=>exact z.exc x hP
 |ok a b ss=>
  refine ak (bz z) (λu bT z=>iZ z λf' P' wd G R r fr QU=>?_) λY Y z=>z
  refine fF (x.behind hP G wd) λb1 b2 b3=>cH (QU v0 rfl) λk1 k2=>?_
  have b5:=b1.put' (s:={s with ss:=ss}) (b2 n v0 nm) k2 (b3 G.no fr) (λz=>by rw[ky k1]at z;exact dT z)
  refine(cz f' _ ⟨b5,(G.more λa q=>.inr q).less λa q=>?_,R⟩ (.v r))
  obtain q|q:=q
  ·exact .inr (.inl (.inl q))
  ·exact .inl q
theorem T.viaB{P:QT Z β}{Q:QT xg mO}{r:R Z}{K:β->(QS mO)->QS VP}(x:T c P r t bA f J)(hw:∀Q E,wpAny (Md c.w) c.A t (λv s'=>K v Q E s') E J->wpAny (Md c.w) c.A t' Q E J)(y:∀a s v bT f' bF,r=.ok a s->cD c bA f J s f' bF bT->P a v bT.heap f' bF->∃(o:AP) (kX:Sem mO),(∀Q E,wpAny (Md c.w) c.A kX Q E bT->K v Q E bT)/\(∀a,o a->bA a\/J.heap.objs.size<=a)/\T c Q (g a s) kX o f' bT):T c Q (r.bind g) t' bA f J:=by
 induction r using iw with
 |ok a s=>
  show T c Q (g a s) _ _ _ _
  generalize e:g a s=zz;induction zz using iw with
  |ok b bK=>
   refine hw _ _ (ak x (λv bT z=>cC z λf' o' p q=>?_) λY Y z=>z.elim)
   refine dR (y a s v bT f' o' rfl p q) λo kX h1 ho z=>?_;rw[e]at z;exact h1 _ _ (z.up p.go ho p.rest)
  |exc m bK=>
   refine hw _ _ (ak x (λv bT z=>cC z λf' o' p q=>?_) λY Y z=>z.elim)
   refine dR (y a s v bT f' o' rfl p q) λo kX h1 ho z=>?_;rw[e]at z;exact h1 _ _ (z.up p.go ho p.rest)
  |no=>trivial
 |exc m s=>exact hw _ _ (ak x (λY Y z=>z.elim) λY Y z=>z)
 |no=>trivial
theorem Ag.pre:∀{us:LV},dw c.w h f as us->Ag c f bA h os vs P->Ag c f bA h (as.map OV.v++os) (us++vs) P:=by
 induction as with
 |nil=>intro us q g;rw[q.inv_nil];exact g
 |cons a l ih=>intro us q g;obtain⟨v,us,rfl,r,rs⟩:=q.inv_cons;exact .v1 r (ih rs g)
theorem qQ(X:(KF w.params).In h){a:Addr}(e:dc gW a=some st):∃m∈Dq,m.a=a/\m.st=st/\h.get? a=some ⟨.type "function",none,.func m.fd,#[]⟩:=by
 have hm:=fY e
 rw[sU]at hm;refine bW (List.mem_map.mp hm) λm Gu e1=>?_
 (injection e1 with zz yy;subst zz yy)
 exact(uG m Gu rfl rfl (X _ _ (List.map_inj_left.mp (kr w.params) m Gu)))
theorem tv(H:dz rc d c)(HC:nJ rc c)(pl:c9 args=true)(x:St c s J.heap f bA){a:Addr}(ng:dc gW a=some st)(rp:dw c.w J.heap f as us)(ow:Bool):
  TO c bA J ((bY rc c.cx ow args s).bind λos s=>(rc.f a st (as.map OV.v++os) s.ss).toR s λv Y s=>cZ v s) (callWith pos (.ref a) us (backTo pos (starEach args c.ev)) []) bA f J:=by
 refine nN (qQ x.X ng) ?_;rintro m hm rfl rfl ho;refine T.viaB (K:=λvs Q E bK=>(bK.heap.get? m.a=some ⟨.type "function",none,.func m.fd,#[]⟩/\(⟨.type "function",none,.func m.fd,#[]⟩:Obj).data=.func m.fd)/\wA c (call (.ref m.a) (us++vs) []) Q E bK) (iu H pos ow args s bA f J x) (λQ E z=>Calls.callWith_function (eW pl z)) λos bK vs bJ bU bE dZ bM cj=>?_
 refine bW cj λP ag hP=>?_;refine nN (qQ bM.st.X ng) λm' WN e1 e2 rH=>?_;have zE:=bM.st.X _ _ (List.map_inj_left.mp (kr c.w.params) m hm);have Dc:=Ag.pre (rp.go bM.go x.wd.fok x.free) ag;exact(eF (λb=>bE b\/P b) _ (λQ E z=>⟨⟨zE,rfl⟩,z⟩) (λb q=>q.elim (bM.go.no b) (hP b)) ((HC.f m.a m.st _ _ P bK bE bU bJ bM.st ng Dc).toT bM.st Dc.foK))
end
section
variable{P:AP}
theorem Ag.less(ho:∀a,o a->bA a)(g:Ag c f bA h os vs P):Ag c f o h os vs P:=by
 induction g with
 |nil=>exact .nil
 |cons r hF l hd ih=>exact .cons r (λa q=>⟨λz=>(hF a q).1 (ho a z),(hF a q).2⟩) ih hd
set_option tactic.hygienic true in
theorem ER(H:fE rc d c)(HC:∀p,nJ rc (c.pins p))(pl:c9 (e::l)=true)(x:St c s J.heap f bA){a:Addr}(ng:dc gW a=some st)(hi:eQ vV a=true)(z:bQ c.cx e s=some (n,ov)):
  TO c bA J ((bY rc c.cx true l s).bind λos s=>(match bQ c.cx e s with
    |some (_,o)=>(rc.f a st (o::os) s.ss).toL n s
    |none=>.no)) (callWith pos (.ref a) [] (backTo pos (starEach (e::l) c.ev)) []) bA f J:=by
 refine nN (qQ x.X ng) ?_;rintro m hm rfl rfl ho;refine pd (x.mineP z) ?_;rintro v F r nm ⟨p,rfl⟩ w lk hk dn kk;have x':=x.pinned nm;refine T.unpinO (n:=n) (v:=v) (T.viaB (c:=c.hold n v) (K:=λvs Q E bK=>(bK.heap.get? m.a=some ⟨.type "function",none,.func m.fd,#[]⟩/\(⟨.type "function",none,.func m.fd,#[]⟩:Obj).data=.func m.fd)/\wA c (call (.ref m.a) ([]++(v::vs)) []) Q E bK) (iu (H _) pos true l s bA f J x') (λQ E z=>?_) λos bK vs bJ bU bE dZ bM cj=>?_)
 ·refine Calls.callWith_function (o:=⟨.type "function",none,.func m.fd,#[]⟩) (fd:=m.fd) (eW pl ?_)
  rw[cY rfl];exact Calls.spliced_cons (kk z)
 ·refine bW cj λP ag hP=>?_
  have zE:bJ.heap.get? m.a=some ⟨.type "function",none,.func m.fd,#[]⟩:=bM.st.X _ _ (List.map_inj_left.mp (kr c.w.params) m hm)
  refine(eF (λb=>bE b\/P b) (call (.ref m.a) ([]++(v::vs)) []) (λQ E z=>⟨⟨zE,rfl⟩,z⟩) (λb q=>q.elim (bM.go.no b) (hP b)) ?_)
  split
  ·rename_i n' o' z'
   refine i5 (dK (c:=c.hold n v) z') ?_;rintro⟨p',e'⟩ w1 l1 Ll LB
   (injection e' with zz yy;subst zz yy)
   refine iZ (bM.st.take w1 l1 Ll LB) λv' F' t1 t2 t3 t4 t5 t6=>?_;have:v=v':=cQ.eq bM.st.the t5;subst this;have Dc:Ag (c.hold n v) bU (λb=>bE b/\¬F' b) bJ.heap (o'::os) (v::vs) λb=>F' b\/P b:=.cons t2 t3 (ag.less λb q=>q.1) λb q1 q2=>(ag.foK b q2).1 (t4 b q1)
   have ct:=HC ((n,v)::c.pin)|>.f m.a m.st _ _ _ _ _ _ bJ t1 ng Dc
   rw[hi]at ct;have ct:CT (c.hold n v) (λb=>F' b\/P b) (some v) (rc.f m.a m.st (o'::os) bK.ss) (.call (.ref m.a) ⟨v::vs,[]⟩) bU bJ:=ct
   have T1:=ct.toL (o:=bA) (k:=J.heap.objs.size) (n:=n) (s:=bK) t1 t5 Dc.foK
   have e2:(λb=>(bE b/\¬F' b)\/F' b\/P b)=λb=>bE b\/P b:=funext λb=>propext ⟨λq=>by
    obtain q|q|q:=q
    ·exact .inl q.1
    ·exact .inl (t4 b q)
    ·exact .inr q,λq=>by
    by_cases zf:F' b
    ·exact .inr (.inl zf)
    ·exact q.elim (λy=>.inl ⟨y,zf⟩) λy=>.inr (.inr y)⟩
   rw[e2]at T1;exact T1
  ·trivial
theorem qm(H:fE rc d c)(HC:∀p,nJ rc (c.pins p))(pl:c9 args=true)(x:St c s J.heap f bA){a:Addr}(rp:dw c.w J.heap f as us):
  TO c bA J (lz rc c.cx a as args s) (callWith pos (.ref a) us (backTo pos (starEach args c.ev)) []) bA f J:=by
 unfold lz;refine eE (dc gW a) (λng=>by trivial) λst ng=>?_
 have no:=tv (pos:=pos) H.at (HC c.pin) pl x ng rp false
 refine fS (eQ vV a) (λhi=>no) λhi=>?_
 obtain _|⟨a1,as⟩:=as
 ·obtain rfl:=rp.inv_nil
  obtain _|⟨e,l⟩:=args
  ·exact no
  ·dsimp only
   refine eE (bQ c.cx e s) (λz=>tv H.at (HC c.pin) pl x ng .nil true) λq z=>ER H HC pl x ng hi z
 ·exact no
end
section
variable{P:AP}
def VR.Jc(w:World)(h:Heap)(f:Fz):AV->Value->Prop
 | .clo st caps,u=>∃a o fd,u=.ref a/\f.z a/\h.get? a=some o/\o.cls=.type "function"/\o.data=.func fd/\xJ st fd/\h.CodeRec fd.code fd.qualname/\(∀c o,fd.code=.ref c->h.get? c=some o->f.z c/\o.cls≠.type "frame")/\(∀x c,fd.closure.lookup x=some c->f.z c)/\ue w h f caps fd.closure
 |_,_=>True
theorem VR.inv_clo(r:VR w h f (.clo st caps) u):∃a o fd,u=.ref a/\f.z a/\h.get? a=some o/\o.cls=.type "function"/\o.data=.func fd/\xJ st fd/\h.CodeRec fd.code fd.qualname/\(∀c o,fd.code=.ref c->h.get? c=some o->f.z c/\o.cls≠.type "frame")/\(∀x c,fd.closure.lookup x=some c->f.z c)/\ue w h f caps fd.closure:=by
 have j:∀{a:AV} {v:Value},VR w h f a v->VR.Jc w h f a v:=λr=>by
  induction r using VR.casesOn with
  |clo a1 a2 a3 a4 a5 a6 a7 a8 a9=>exact⟨_,_,_,rfl,a1,a2,a3,a4,a5,a6,a7,a8,a9⟩
  |_=>trivial
 exact j r
theorem xJ.ok(q:xJ st fd):IU st fd/\fd.defaults=.none:=by
 induction st using Stmt.casesOn with
 |FunctionDef=>
  refine V7 q λq1 q2 q3 q4 q5 q6 q7=>⟨mL q1 q2 q3 q4 q7,q5⟩
 |_=>exact q.elim
theorem vL(H:dz rc d c)(HC:nJ rc c)(pl:c9 args=true)(x:St c s J.heap f bA)(r:VR c.w J.heap f (.clo st caps) u):
  TO c bA J ((bY rc c.cx false args s).bind λos s=>(rc.c st os caps s.ss).toR s λv Y s=>cZ v s) (callWith pos u [] (backTo pos (starEach args c.ev)) []) bA f J:=by
 obtain⟨a,ob,fd,rfl,z,e1,e2,e3,q,cr,zc,zl,cp⟩:=r.inv_clo;refine T.viaB (K:=λvs Q E bK=>(bK.heap.get? a=some ob/\ob.data=.func fd)/\wA c (call _ ([]++vs) []) Q E bK) (iu H pos false args s bA f J x) (λQ E z=>Calls.callWith_function (eW pl z)) λos bK vs bJ bU bE dZ bM cj=>bW cj λP ag hP=>?_
 have zE:=(bM.go.hz x.wd.fok x.free a z).exact e1 (by rw[e2];decide)
 exact(eF (λb=>bE b\/P b) _ (λQ E z=>⟨⟨zE,e3⟩,z⟩) (λb q=>q.elim (bM.go.no b) (hP b)) ((HC.c st caps _ _ _ P bK bE bU bJ bM.st (r.go bM.go x.wd.fok x.free) ag).toT bM.st ag.foK))
theorem Kl(r:VR w h f (.clo st caps) u):∃a fd,u=.ref a/\(DP st=[]->zR w h f st a fd caps):=by
 obtain⟨a,ob,fd,rfl,z,e1,e2,e3,q,cr,zc,zl,cp⟩:=r.inv_clo;refine(cz a fd rfl (λYF=>⟨(cf ob e1 e3),q.ok.1,cr,zl,cp,λdv WS=>?_⟩))
 rw[YF]at WS;obtain rfl:=oI WS;refine(eF _ _ rfl .nil (λY k=>?_));rw[q.ok.2];exact af (aj (aj (k none rfl)))
end
def MA(P:Params)(p:Addr×List (Str×Addr)):Bool:=match bD p.2 "__init__" with
 |some f=>findIn (KF P) (.ref p.1) "__init__"==some (some (.ref f))&&typeIn (KF P) (.ref f)==some (.type "function")&&keepIn (KF P) (.ref p.1)&&eQ vV f&&makesIn (KF P) p.1
 |none=>true
theorem FI(P):(iW.all λp=>MA P p)=true:=by kernel_rfl
theorem w5{P:Params}{C:Addr}(h1:dc iW C=some ms)(h2:bD ms "__init__"=some fI):findIn (KF P) (.ref C) "__init__"=some (some (.ref fI))/\typeIn (KF P) (.ref fI)=some (.type "function")/\keepIn (KF P) (.ref C)=true/\eQ vV fI=true/\makesIn (KF P) C=true:=by
 have z:=List.all_eq_true.mp (FI P) (C,ms) (fY h1)
 unfold MA at z;dsimp only at z;rw[h2]at z;dsimp only at z;simp only[aO,beq_iff_eq]at z;refine cH z ?_;rintro⟨⟨⟨z1,z2⟩,z3⟩,z4⟩ z5;exact(mL z1 z2 z3 z4 z5)
section
variable{P:AP}
theorem St.deep(hA:A.frames=c.A.frames)(x:St c s h f bA):St {c with A:=A} s h f bA:=by
 refine⟨x.wd,λa q=>⟨⟨(x.oo a q).1.z,(x.oo a q).1.y,(x.oo a q).1.sn,(x.oo a q).1.sb,(x.oo a q).1.out⟩,(x.oo a q).2⟩,hA.trans x.frames,x.ff,x.fe,x.fsc,x.ffr,x.ofr,x.tab,?_,?_,x.pin⟩
 ·refine cC x.fr λm F q1 q2=>(cz m F ⟨q1.ns,q1.cls,q1.ownL,q1.cells,q1.cinj,q1.cL,q1.ck,q1.loc,q1.fo,q1.fd,q1.free⟩ q2)
 ·have q:=x.comp
  refine eE c.cx.cs (λe=>by rw[e]at q;exact q) λcs e=>?_
  rw[e]at q;exact⟨q.env,q.frame,q.loc,q.top,q.free,q.cell,q.ns,q.ownC,q.neL,q.neC⟩
theorem Ag.deep(g:Ag c f bA h os vs P):Ag {c with A:=A} f bA h os vs P:=by
 induction g with
 |nil=>exact .nil
 |cons r hF l hd ih=>exact .cons r (λa q=>⟨(hF a q).1,⟨(hF a q).2.1.z,(hF a q).2.1.y,(hF a q).2.1.sn,(hF a q).2.1.sb,(hF a q).2.1.out⟩,(hF a q).2.2⟩) ih hd
theorem sD(A:Around)(C)(us:LV):(A.under (.builtin "type.__call__" ⟨.ref C::us,[]⟩)).frames=A.frames/\(A.under (.builtin "type.__call__" ⟨.ref C::us,[]⟩)).handled=A.handled/\(A.under (.builtin "type.__call__" ⟨.ref C::us,[]⟩)).depth=A.depth+1/\(A.under (.builtin "type.__call__" ⟨.ref C::us,[]⟩)).units=A.units+1:=(qL rfl rfl rfl rfl)
noncomputable def Yi(v:AV)(b:OV)(s:S):R OV:=match v with| .none=>.ok b s|_=>.no
theorem yg(HC:∀c',Rm c' (d+1)->nJ rc c')(cy:Rm c (d+2))(x:St c s J.heap f bA){C:Addr}(h1:dc iW C=some ms)(h2:bD ms "__init__"=some fI)(h3:dc gW fI=some st)(ag:Ag c f bA J.heap os vs P)(hk:k<=J.heap.objs.size):
  T c (PO c (λa=>bA a\/P a) k) ((rc.f fI st (.oi C []::os) s.ss).toR s Yi) (call (.ref C) vs) (λa=>bA a\/P a) f J:=by
 refine i5 (w5 (P:=c.w.params) h1 h2) λm1 m2 m3 m4 m5=>lg (sD c.A C vs) λu1 u2 u3 u4=>?_
 have kp:∀b o,J.heap.get? b=some o->((J.heap.push emptyDict).push (PySem.W.instObj C J.heap.objs.size)).get? b=some o:=λb o e=>bZ _ _ _ _ (bZ _ _ _ _ e)
 have sz:J.heap.objs.size<=((J.heap.push emptyDict).push (PySem.W.instObj C J.heap.objs.size)).objs.size:=aq (de _ _) (de _ _)
 have hx:((J.heap.push emptyDict).push (PySem.W.instObj C J.heap.objs.size)).get? (J.heap.objs.size+1)=some (PySem.W.instObj C J.heap.objs.size):=by rw[<-(aS ..)];exact aE _ rfl
 have Zs:=ag.go (Go.keeps kp sz) x.wd.fok (λY q=>q.elim) (λa q=>.inl q) λY Y q=>q
 have fr:∀b,(b=J.heap.objs.size+1\/b=J.heap.objs.size\/∃n,(bD ([]:LO) n).isSome/\False)->J.heap.objs.size<=b:=λb q=>by
  obtain q|q|⟨_,q,_⟩:=q
  ·rw[q];exact bx _
  ·exact aR q.symm
  ·exact dT q
 have r0:eD c.w _ f _ _ λb=>b=J.heap.objs.size+1\/b=J.heap.objs.size\/∃n,(bD ([]:LO) n).isSome/\False:=
  .oi (g:=λY=>.none) hx (Heap.Ns1.of_empty ((Heap.Ns.new J.heap (.type "dict")).push _)) (Nat.ne_of_lt (bp _)) (λn o e=>nomatch e) (λY Y=>rfl) (λY Y q=>q.elim) λY Y Y q=>q.elim
 have RN:Ag c f bA _ _ _ λb=>(b=J.heap.objs.size+1\/b=J.heap.objs.size\/∃n,(bD _ n).isSome/\False)\/P b:=
  .cons r0 (λb q=>x.fresh1 (fr b q)) Zs λb q z=>Nat.not_lt.mpr (fr b q) (ag.there b z)
 have rm:Rm {c with A:=c.A.under _} (d+1):=⟨by
  rw[u3];have:=cy.depth;lia,by
  rw[u4];have:=cy.units;lia,u2.trans cy.hand⟩
 have ct:=(HC _ rm).f fI st _ _ _ s bA f {J with heap:=(J.heap.push emptyDict).push _} ((x.keeps kp sz).deep u1) h3 RN.deep
 rw[m4]at ct;have xE:∀{R},codeAny _ _ _ _ _->codeAny (Md c.w) c.A (.call (.ref C) ⟨vs,[]⟩) R J:=λ{R} z=>
  make_core (makes_of x.X m5) (looks_findIn x.X m1) (λself=>bind_fn x.X self m2) (.inl rfl) z
 have GG:∀{P'} {h'} {f'},Go (λb=>(b=J.heap.objs.size+1\/b=J.heap.objs.size\/∃n,(bD _ n).isSome/\False)\/P b) _ f P' h' f'->Go P J.heap f P' h' f':=λG=>(Go.keeps kp sz).trans G λb q=>q.elim (λz=>.inr (fr b z)) .inl
 generalize r:rc.f fI st _ s.ss=zz;induction zz using Rb with
 |no=>trivial
 |exc m ss=>
  rw[r]at ct;refine bz (xE (bt ct λr s' z=>?_));obtain e|(v|_|_|_):=r<;>first|exact z.elim|skip
  refine mM z λf' X wd G R RG ex=>?_;have G:=GG G;refine fF (x.behind ag.foK G wd) λb1 b2 b3=>⟨f',bA,⟨b1,(G.more λa q=>.inr q).less λa q=>.inr (.inl (.inl q)),R⟩,X,ex.toR (.inl rfl),b3 G.no RG,λa q=>(G.no a q).imp_left .inr⟩
 |ok av b ss=>
  obtain _|_:=av<;>first|trivial|skip
  rw[r]at ct;refine bz (xE (bt ct λr s' z=>?_));obtain e|(v|_|_|_):=r<;>first|exact z.elim|skip
  refine iZ z λf' P' wd G R rv RG QU=>?_;have G:=GG G;refine fF (x.behind ag.foK G wd) λb1 b2 b3=>cH (QU _ rfl) λk1 k2=>?_
  obtain _|_:=rv;exact⟨rfl,f',bA,⟨b1,(G.more λa q=>.inr q).less λa q=>.inr (.inl (.inl q)),R⟩,P',k2,b3 G.no RG,λa q=>(G.no a q).elim (λz=>.inl (.inr z)) λz=>.inr (aq hk z)⟩
theorem EN(H:dz rc d' c)(HC:∀c':Fm,Rm c' (d+1)->nJ rc c')(cy:Rm c (d+2))(pl:c9 args=true)(x:St c s J.heap f bA){C:Addr}:
  TO c bA J (DH rc c.cx C args s) (callWith pos (.ref C) [] (backTo pos (starEach args c.ev)) []) bA f J:=by
 unfold DH;refine eE (dc iW C) (λh1=>by trivial) λms h1=>?_
 dsimp only;refine eE (bD ms "__init__") (λh2=>by trivial) λfI h2=>?_
 dsimp only;refine eE (dc gW fI) (λh3=>by trivial) λst h3=>i5 (w5 (P:=c.w.params) h1 h2) λm1 m2 m3 m4 m5=>T.viaB (K:=λvs Q E bK=>(KF c.w.params).In bK.heap/\wA c (call _ ([]++vs) []) Q E bK) (iu H pos true args s bA f J x) (λQ E z=>callWith_of (by rw[ft pl];rfl) (λh X=>keeps_K m3 h X) (eW pl z)) λos bK vs bJ bU bE dZ bM cj=>bW cj λP ag hP=>(eF (λb=>bE b\/P b) _ (λQ E z=>⟨bM.st.X,z⟩) (λb q=>q.elim (bM.go.no b) (hP b)) ?_)
 exact(yg HC cy bM.st h1 h2 h3 ag bM.go.size).mono λY Y Y Y Y z=>z.up (λb q=>q.elim (bM.go.no b) (hP b)) (aC _)
end
def fR(O:vX)(d:Nat):Prop:=∀(c:Fm),Rm c d->∀(a:Addr) (st:Stmt) (os:List OV) (vs:LV) (P:AP) (s:S) (bA:AP) (f:Fz) (J:Shared),St c s J.heap f bA->dc gW a=some st->Ag c f bA J.heap os vs P->∀r,O a os s.ss=some r->CT c P (o8 (eQ vV a) vs) r (.call (.ref a) ⟨vs,[]⟩) f J
section
variable{P:AP}
theorem pT(HS:DY rc d)(HO:fR O (d+1))(cy:Rm c (d+1)):nJ (qX O rc) c:=by
 refine⟨λa st os vs P s bA f J x ng ag=>?_,λst caps u os vs P s bA f J x r ag=>?_⟩
 ·show CT c P _ (match O a os s.ss with|some r=>r|none=>mc rc _ st os [] s.ss) _ f J
  refine eE (O a os s.ss) (λq=>?_) (λr q=>HO c cy a st os vs P s bA f J x ng ag r q)
  refine cF (Al x.X ng) λfd fn=>tw HS cy x _ fn ag
 ·show CT c P none (kj rc st os caps s.ss) _ f J
  unfold kj
  split
  ·rename_i q
   refine cC (Kl r) ?_;rintro a fd rfl fn;exact tw HS cy x false (fn q) ag
  ·trivial
structure k9(rc:f9)(d:Nat)(c:Fm):Prop where
 e:fE rc d c
 c:∀p,nJ rc (c.pins p)
 m:∀c':Fm,Rm c' (d+1)->nJ rc c'
theorem ql(H:k9 rc d c)(cy:Rm c (d+2))(pl:c9 args=true)(x:St c s J.heap f bA)(r:VR c.w J.heap f a v):
  TO c bA J (jD rc c.cx a args s) (callWith pos v [] (backTo pos (starEach args c.ev)) []) bA f J:=by
 induction a using AV.casesOn with
 |bi n=>refine cH r.i λxo Y=>?_;subst xo;exact Cw H.e.at cy.hand pl x
 |ty n=>obtain rfl:=r.i;exact Ct H.e.at cy.hand pl x
 |ad a=>
  obtain rfl:=r.i;show T c _ (match dc iW a with|some _=>DH rc c.cx a args s|none=>lz rc c.cx a [] args s) _ bA f J
  rcases q:dc iW a with _|_
  ·exact qm H.e H.c pl x .nil
  ·exact EN H.e.at H.m cy pl x
 |clo=>exact vL H.e.at (H.c c.pin) pl x r
 |_=>trivial
end
section
variable{P:AP}
theorem tQ(H:k9 rc d c)(cy:Rm c (d+2))(pl:c9 args=true)(x:St c s J.heap f bA):
  TO c bA J ((vl (rc.e c.cx (.Name y p) s)).bind λfv s=>match fv with
  | .bi n=>Hw rc c.cx n args s
  |_=>jD rc c.cx fv args s) (eval (.Call (.Name y p) args [] pos) c.ev) bA f J:=by
 refine(H.e.at.v x).viaO (λQ E z=>Call_Name rfl z) λa bK v bJ bU bE dZ bM cj=>?_
 have any:=ql (pos:=pos) H cy pl bM.st cj
 induction a using AV.casesOn with
 |bi n=>
  obtain _|⟨e,_|e2,l⟩:=args
  ·exact any
  ·show T c _ (if n="len" then(match nA c.cx e bK with|some (.ol xs)=>cZ _ bK|_=>jD rc c.cx _ [e] bK)else jD rc c.cx _ [e] bK) _ _ _ _
   by_cases q:n="len"
   ·subst q
    refine eE (nA c.cx e bK) (λz=>any) λw z=>?_
    induction w using rD with
    |ol xs=>
     rw[fM,aO]at pl;obtain⟨rfl,_⟩:=cj.i;exact vA bM.st z pl.1
    |_=>exact any
   ·rw[au q];exact any
  ·exact any
 |_=>exact any
end
section
variable{P:AP}
theorem vm:∀{l} {env} {pos},c9 l=true->(backTo pos (starEach l env)).all (λp=> !p.1)=true:=by
 intro l;induction l with
 |nil=>intro _ _ _;exact rfl
 |cons e l ih=>
  intro env pos h;rw[fM]at h;rw[aO]at h;rw[cY h.1];show(!false&&(backTo pos _).all _)=true;rw[ih h.2];rfl
theorem jt(pl:c9 args=true)(hb:eu ob=true)(hp:Nat.beq iX.endLine pos.line=true)(hn:Nat.blt args.length 30=true){Q:VP}(k:wA c (eval ob c.ev) (λov bK=>wA c (getMethod ov name (do return (<-importBound ob c.ev).getD true)) (λfx eS=>wA c (callWith pos fx.1 fx.2 (backTo pos (starEach args c.ev)) []) Q E eS) E bK) E J):
  wA c (eval (.Call (.Attribute ob name iX) args [] pos) c.ev) Q E J:=by
 have hf:methodCallForm (args.length+([]:List Keyword).length) (backTo pos (starEach args c.ev)) (backToKw pos (keywordEach [] c.ev))=true:=by
  unfold methodCallForm;rw[vm pl];have:=aB hn;show(true&&true&&decide (args.length+0+(if true=true then 0 else 1)<30))=true
  simp;omega
 rw[arm_eval_Call,xa hb];refine af (ak k (λov bK z=>af (ay ?_)) λY Y z=>z)
 unfold methodCall;rw[hf];refine af (aD ?_);refine ak z (λfx eS z2=>?_) λY Y z=>z
 have UH:methodCallPos true ob c.ev iX pos=pure pos:=by
  unfold methodCallPos;rw[aA (by rw[show(iX.endLine==pos.line)=true from by rw[bo hp];simp];rfl)]
 rw[UH];exact af (aj z2)
end
section
variable{P:AP}
theorem eD.ol_at(r:eD w h f (.ol xs) v F):∃a vs,v=.ref a/\fG h a vs/\dw w h f xs vs/\xs.length<=4000/\∀b,F b↔b=a:=r.inv_ol.inv_ol
theorem lI(x:St c s J.heap f bA)(nm:cQ c J.heap n v)(z:bQ c.cx ob s=some (n,.ol xs)){a:Addr}(hv:v=.ref a):
  ∃vs,fG J.heap a vs/\dw c.w J.heap f xs vs/\xs.length<=4000/\∀h' tk (ys:LA) (us:LV),Heap.SameBut a J.heap h'->fG h' a us->dw c.w J.heap f ys us->ys.length<=4000->∃bF,cD c bA f J (s.set n (.ol ys)) f bF {J with heap:=h',toks:=tk}:=by
 refine i5 (dK z) ?_;rintro⟨p,rfl⟩ w1 l1 Ll LB;refine iZ (x.take w1 l1 Ll LB) λv' F t1 t2 t3 t4 t5 t6=>?_;have:=cQ.eq nm t5;subst this;refine mM t2.ol_at λa' vs e1 l r ln hF=>?_;rw[hv]at e1
 (injection e1 with zz;subst zz)
 refine(uG vs l r ln (λh' tk ys us hs l' r' Rp=>?_));have fa:=t3 a ((hF a).mpr rfl);have G:Go (λb=>b=a) J.heap f (λb=>b=a) h' f:=Go.at hs rfl
 have fr:eI f λb=>b=a:=λb q=>by subst q;exact⟨fa.2.1.z,fa.2.1.y,fa.2.1.sn⟩
 have Qz:=by
  refine cC t1.fr λm FF q1 Y=>q1.name G x.wd.fok fr t1.free (λb q z=>fa.1 (z▸q)) nm
 subst hv;have hG:eX c f (λb=>bA b/\¬F b) λb=>b=a:=λb q=>by subst q;exact fa
 have x3:=(t1.other hs fa.1 fa.2.1).put' Qz (.fl (.ol l' (r'.go G x.wd.fok fr) Rp)) hG (dT)
 refine⟨_,x3,((Go.at hs (t4 a ((hF a).mpr rfl))).less λb q=>?_),rfl,rfl⟩;obtain q|q:=q
 ·exact .inl q.1
 ·exact .inl (by subst q;exact t4 b ((hF b).mpr rfl))
theorem yU(H:fE rc d c)(x:St c s J.heap f bA)(z:bQ c.cx ob s=some (n,.ol K6))(pl:cG e=true)(hp:Nat.beq iX.endLine pos.line=true)(hb:eu ob=true):
  TO c bA J ((vl (rc.e c.cx e s)).bind λa s=>(match bQ c.cx ob s with
    |some (_,.ol xs)=>(match dF (xs.length+1)with|true=>cZ .none (s.set n (.ol (xs++[a])))|false=>.no)
    |_=>.no)) (eval (.Call (.Attribute ob "append" iX) [e] [] pos) c.ev) bA f J:=by
 refine pd (x.mineP z) ?_;rintro v F r nm ⟨p,rfl⟩ w lk hk dn kk;refine mM r.ol_at ?_;rintro la Q4 rfl ⟨n0,l0⟩ r0 WC _;have hw:∀{Q E},wA c (eval e c.ev) (λu bK=>bK.TypeIs _ "list"/\argsOk "list.append" ⟨[.ref la,u],[]⟩/\∃S,Meets _ S/\S c.A _ bK) E J->wA c (eval (.Call (.Attribute _ "append" iX) [e] [] pos) c.ev) Q E J:=λ{Q E} y=>by
  refine jt (by rw[fM,pl];rfl) rfl hp rfl (kk (Calls.getMethod_list_append l0 rfl rfl ?_))
  rw[cY pl];exact seqMethod1_meets PySem.F.slot_list_append PySem.F.entry_list_append y
 have t:T (c.hold n _) _ (vl (rc.e c.cx e s)) (eval e c.ev) bA f J:=(H _).v (x.pinned nm)
 generalize vl _=r at t⊢;obtain⟨a,bK⟩|⟨m,bK⟩|w:=r
 ·show TO c bA J (match bQ c.cx _ bK with|some (_,.ol xs)=>(match dF _ with|true=>cZ .none _|false=>.no)|_=>.no) _ bA f J
  rcases z':bQ c.cx _ bK with _|⟨n',o⟩
  ·trivial
  obtain _|_|xs|_|_:=o<;>try trivial
  obtain rfl:=fA z';dsimp only;rcases q2:dF _ with _|_
  ·trivial
  refine hw (ak t (λu bT z=>cC z λf' o' p y=>?_) λY Y z=>z.elim)
  refine nN (lI p.unpin.st p.st.the z' rfl) ?_;rintro vs ⟨m,l⟩ r ln k;refine⟨(cf _ l rfl),PySem.F.args_list_append_2 _ _,_,list_append la vs.toArray m u (by rw[aH,<-r.length,aW];omega),l,?_⟩
  obtain⟨jK,p2⟩:=k _ bT.toks _ _ (aI ..) (by
   have:=IsL.update l λx=>x.push u
   rw[List.push_toArray]at this;exact⟨_,this⟩) (r.append (.cons y .nil)) (by rw[aw];exact fK q2)
  exact(cz f' jK ⟨p2.st,p.unpin.go.trans p2.go p.go.no,p.rest.trans p2.rest⟩ (.v .none))
 ·exact hw (ak t (λY Y y=>y.elim) λe bT z=>cC z λf' o' p y=>(cz f' o' p.unpin y.unpin))
 ·trivial
end
section
variable{P:AP}
theorem pW(x:St c s J.heap f bA){a:Addr}(q:f.sn a):∃l vs,s.ss=some l/\fG J.heap a vs/\dw c.w J.heap f l vs/\l.length<=4000/\
  ∀h' tk (ys:LA) (us:LV),Heap.SameBut a J.heap h'->fG h' a us->dw c.w J.heap f ys us->ys.length<=4000->cD c bA f J {s with ss:=some ys} f bA {J with heap:=h',toks:=tk}:=by
 have sn:=x.wd.seen
 refine eE s.ss (λhs=>by rw[hs]at sn;exact absurd q (sn a)) λl hs=>?_
 rw[hs]at sn;refine jN sn λb vs q1 q2 q3 q4=>?_;have:=(q1 a).mp q;subst this;refine(M1 l vs rfl q2 q3 q4 (λh' tk ys us hb l' r' Rp=>?_));have G:∀o,Go o J.heap f o h' f:=λo=>⟨λb nb=>by
  by_cases e:b=a
  ·subst e
   exact⟨λy=>absurd q (x.wd.fok.ys b y),λY ns=>absurd q ns⟩
  ·exact .of_keep λob e'=>(hb.2 b e).trans e',.refl f,λY z=>.inl z,λY z=>.inl z,λY z=>.inl z,λY z=>.inl z,aR hb.1.symm⟩
 have wd:Wd c.w c.sb h' f (some ys):=by
  refine⟨x.wd.base,λb o p e=>?_,aq x.wd.sbz (aR hb.1.symm),x.wd.fok,λb z=>hb.1.symm▸x.wd.zl b z,x.wd.snl,a,us,q1,l',r'.go (G λY=>False) x.wd.fok λY z=>z.elim,Rp⟩
  have lt:=aF e
  exact(hb.2 b λz=>Nat.not_lt.mpr (x.wd.snl a (.inl q)) (z▸lt)).trans (x.wd.stat b o p e)
 exact⟨x.frame (G λY=>False) (λY z=>z.elim) (λY Y z=>z) (λY Y Y Y z=>z) wd,G bA,rfl,rfl⟩
theorem vh(H:dz rc d c)(x:St c s J.heap f bA)(QI:f.sn la)(pl:cG e=true):
  TO c bA J ((vl (rc.e c.cx e s)).bind λa s=>(match s.ss with
    |some l=>(match dF (l.length+1)with|true=>cZ .none {s with ss:=some (l++[a])}|false=>.no)
    |none=>.no)) (callWith pos (.builtin "list.append") [.ref la] (backTo pos (starEach [e] c.ev)) []) bA f J:=by
 have hw:∀{Q E:VP},wA c (eval e c.ev) (λu bK=>bK.TypeIs _ "list"/\argsOk "list.append" ⟨[.ref la,u],[]⟩/\∃S,Meets _ S/\S c.A _ bK) E J->wA c (callWith pos (.builtin "list.append") [.ref la] (backTo pos (starEach [e] c.ev)) []) Q E J:=λ{Q E} y=>by
  rw[cY pl];exact seqMethod1_meets PySem.F.slot_list_append PySem.F.entry_list_append y
 have t:=H.v (e:=e) x
 generalize q:vl _=zz;induction zz using iw with
 |no=>trivial
 |exc m bK=>
  rw[q]at t;exact hw (ak t (λY Y y=>y.elim) λe bT y=>y)
 |ok a bK=>
  rw[q]at t;show TO c bA J (match bK.ss with|some l=>_|none=>_) _ bA f J
  refine eE bK.ss (λhs=>by trivial) λl hs=>?_
  dsimp only;refine fS (dF _) (λq2=>by trivial) λq2=>hw (ak t (λu bT z=>cC z λf' o' p y=>?_) λY Y z=>z.elim)
  refine mM (pW p.st (p.go.le.sn la QI)) ?_;rintro l' vs e1 ⟨m,lt⟩ r ln k;rw[hs]at e1;obtain rfl:=oI e1;have lv:=r.length;refine⟨(cf _ lt rfl),PySem.F.args_list_append_2 _ _,_,list_append la vs.toArray m u (by rw[aH,aW];omega),lt,?_⟩
  have p2:=k _ bT.toks _ _ (aI ..) (by
   have:=IsL.update lt λx=>x.push u
   rw[List.push_toArray]at this;exact⟨_,this⟩) (r.append (.cons y .nil)) (by rw[aw];exact fK q2)
  exact(cz f' o' ⟨p2.st,p.go.trans p2.go p.go.no,p.rest.trans p2.rest⟩ (.v .none))
end
section
open PySem.MeetsSeq PySem.MeetsSeq2 PySem.SeqRoads2
open PySem.AutoSeq1 (wpAny_loadPart')
theorem tH{s:Shared}(f)(Q:QS β)(DT)(j)(ey)(s'):∀n i,i<=j->j<i+n->
  (∀m,m<j->∀Q,Q (.yield DT) s->wpAny M A (f m DT) Q E s)->(∀Q,Q (.done ey) s'->wpAny M A (f j DT) Q E s)->Q ey s'->wpAny M A (forIn (List.range' i n) DT f) Q E s:=by
 intro n;induction n with
 |zero=>intro i h1 h2 _ _ _;exact absurd h2 (by lia)
 |succ n ih=>
  intro i h1 h2 H K q;rw[List.range'_succ,List.forIn_cons];by_cases e:i=j
  ·subst e
   exact af (K _ (aj q))
  ·exact af (H i (by lia) _ (ih _ (by lia) (by lia) H K q))
set_option backward.match.sparseCases true in
theorem tE(l:Addr)(dh:Array Value)(n:Nat)(x:Value)(j:Nat)(hj:j<dh.size)(Gv:EqGives dh[j] x true)(YA:∀m (hm:m<dh.size),m<j->EqGives dh[m] x false):
  Meets (Builtin.«tuple.index» ⟨[.ref l,x],[]⟩)
   (λY R s=>s.heap.get? l=some {cls:=.type "tuple",dict:=none,data:=.seq dh n,slots:= #[]}/\R (.ok (.ret (.int j s.toks))) {s with toks:=s.toks+1}):=
 .of_wp λIo w A R s h=>by
  obtain⟨hp,g,d,tk,os⟩:=s;refine cH h λhl h=>?_
  wp_walk using wpAny_loadPart' hl
  show wpAny (model Io w) A.in1 (forIn ([:min dh.size dh.size]:Std.Legacy.Range) ((none,()):Option Fin×Unit) (λ(i:Nat) ZZ=>
      match dh[i]? with
      |some y=>do
       let lN<-eqBool y x
       if lN=true then do
         let lN<-retInt ((i:Nat):Int)
         pure (ForInStep.done (some lN,()))
        else pure (ForInStep.yield (none,()))
      |x=>pure (ForInStep.yield (none,())))) _ _ _
  rw[Std.Legacy.Range.forIn_eq_forIn_range'];have hsz:([:min dh.size dh.size]:Std.Legacy.Range).size=dh.size:=by simp[Std.Legacy.Range.size]
  rw[hsz];refine tH _ _ _ j (some (.done (.ret (.int j tk))),()) ⟨hp,g,d,tk+1,os⟩ _ _ (bb _) (by simpa using hj) (λm hm Q q=>?_) (λQ q=>?_) (aj (cf _ rfl h))
  ·have lt:m<dh.size:=by lia
   rw[Array.getElem?_eq_getElem lt];exact af (YA m lt hm Io w _ _ _ _ (aj q))
  ·rw[Array.getElem?_eq_getElem hj]
   refine af (Gv Io w _ _ _ _ ?_);exact af (af (wpAny_mkInt (aj (aj q))))
end
section
variable{P:AP}
theorem mU(pl:cG e=true):c9 [e]=true:=by rw[fM,pl];rfl
theorem Aa(H:dz rc d c)(x:St c s J.heap f bA){id:String}(pl:cG e=true){g:AV->S->R OV}(y:∀a bK u bJ bU bE,cD c bA f J bK bU bE bJ->VR c.w bJ.heap bU a u->T c (PO c bE bJ.heap.objs.size) (g a bK) (call (.builtin id) [v,u]) bE bU bJ):
  TO c bA J ((vl (rc.e c.cx e s)).bind g) (callWith pos (.builtin id) [v] (backTo pos (starEach [e] c.ev)) []) bA f J:=by
 refine(H.v x).viaO (λQ E z=>?_) λa bK u bJ bU bE dZ bM cj=>y a bK u bJ bU bE bM cj
 refine Calls.callWith_builtin (ft (mU pl)) (eW (mU pl) ?_);rw[cY pl];exact Calls.spliced_cons (ak z (λu s' q=>Calls.spliced_nil q) λY Y q=>q)
theorem Cp{j:Int}{n:Nat}(e:o5 i (.int j::xs)=some n):∃m,o5 i xs=some m/\n=if j=i then m+1 else m:=by
 have e:(match o5 i xs with|some n=>some _|none=>none)=some n:=e
 generalize o5 i xs=o at e⊢;obtain _|m:=o
 ·exact c8 e
 ·exact cf m rfl (oI e).symm
theorem Kh{n:Nat}(r:dw w h f xs vs)(e:o5 i xs=some n):∃ns,IntsAre vs ns/\n=ns.count i:=by
 induction xs generalizing vs n with
 |nil=>obtain rfl:=oI e;rw[r.inv_nil];exact cf [] .nil rfl
 |cons a l ih=>
  induction a using AV.casesOn with
  |int j=>
   refine bW (Cp e) ?_;rintro m q rfl;obtain⟨v,us,rfl,k,r2⟩:=r.inv_cons;refine cF k.i ?_;rintro t rfl;refine bW (ih r2 q) ?_;rintro ns h1 rfl;refine cf _ (.cons _ _ h1) ?_;rw[List.count_cons];by_cases z:j=i
   ·rw[aA z,aA (beq_iff_eq.mpr z)]
   ·rw[au z,au λq=>z (beq_iff_eq.mp q)];rfl
  |_=>exact c8 e
theorem ry(x:St c s J.heap f bA)(r:VR c.w J.heap f (.lst xs) v)(ra:VR c.w J.heap f a u):
  T c (PO c bA k) (match(generalizing:=false) a with
    | .int i=>(match o5 i xs with|some n=>cZ (.int n) s|none=>.no)
    |_=>.no) (call (.builtin "list.count") [v,u]) bA f J:=by
 induction a using AV.casesOn with
 |int i=>
  refine cF ra.i ?_;rintro t rfl;dsimp only;rcases q:o5 i xs with _|m
  ·trivial
  obtain⟨y,vs,rfl,z,l,r1,n1⟩:=r.inv_lst;refine bW (Kh r1 q) λns h1 h2=>?_;subst h2;exact count_list_ints l.list h1 (cz f bA (.tk x) (.v (.int _ _)))
 |_=>trivial
theorem vE(x:St c s J.heap f bA)(r:VR c.w J.heap f (.dct es) v)(ra:VR c.w J.heap f a u):
  T c (PO c bA k) (match(generalizing:=false) a with
    | .str x=>cZ (match bD es x with|some a=>a|none=>.none) s
    |_=>.no) (call (.builtin "dict.get") [v,u]) bA f J:=by
 induction a using AV.casesOn with
 |str y=>
    refine bW ra.i ?_;rintro t rfl _;obtain⟨b,m,rfl,z,ne,hm,r',hn⟩:=r.i;refine call_meetsIn PySem.F.slot_dict_get hm.typeIs PySem.F.entry_dict_get (PySem.F.args_dict_get_2 _ _) (meets_dict_get _ _ (strKind_is _ _ _ _) (by simpa using ne)) (cf _ hm ?_)
    refine(cz f bA (.tk x) ?_);refine eE (bD es y) (λq=>by rw[hn y q];exact .v .none) λav q=>bW (r'.get q) λv e1 e2=>?_;rw[e1];exact .v e2
 |_=>trivial
theorem JZ{m n:Nat}(r:dw w h f xs vs)(e:uD x m xs=some n):∃j,n=m+j/\∃y t,vs[j]? =some (.str y t)/\y=x/\∀i,i<j->∃z u,vs[i]? =some (.str z u)/\z≠x:=by
 induction xs generalizing vs m n with
 |nil=>exact c8 e
 |cons a l ih=>
  induction a using AV.casesOn with
  |str y=>
   obtain⟨v,us,rfl,k,r2⟩:=r.inv_cons;refine bW k.i ?_;rintro t rfl _;have e:(match dM y x with|true=>some m|false=>uD x _ l)=some n:=e
   rcases q:dM y x with _|_<;>rw[q]at e
   ·obtain⟨j,rfl,z,t',h1,h2,h3⟩:=ih r2 e
    refine⟨j+1,Nat.succ_add_eq_add_succ m j,z,t',h1,h2,λi hi=>?_⟩;obtain _|i:=i
    ·exact(cz y t rfl (iC.mp q))
    ·exact h3 i (Nat.lt_of_succ_lt_succ hi)
   ·obtain rfl:=oI e
    exact⟨0,rfl,y,t,rfl,cR.mp q,λi hi=>absurd hi (Nat.not_lt_zero i)⟩
  |_=>exact c8 e
theorem Ej:(x.cps.toList==y.cps.toList)=true↔x=y:=by
 obtain⟨⟨x⟩⟩:=x;obtain⟨⟨y⟩⟩:=y;simp
theorem rx(x:St c s J.heap f bA)(r:VR c.w J.heap f (.tup xs) v)(ra:VR c.w J.heap f a u):
  T c (PO c bA k) (match(generalizing:=false) a with
    | .str x=>(match uD x 0 xs with|some n=>cZ (.int n) s|none=>.no)
    |_=>.no) (call (.builtin "tuple.index") [v,u]) bA f J:=by
 induction a using AV.casesOn with
 |str y=>
  refine bW ra.i ?_;rintro t rfl _;dsimp only;rcases q:uD y 0 xs with _|m
  ·trivial
  ·obtain⟨b,vs,rfl,z,⟨nn,l⟩,r',n1⟩:=r.i
   obtain⟨j,rfl,w,t',e1,e2,e3⟩:=JZ r' q;subst e2;refine(List.getElem?_eq_some_iff.mp e1).elim λhj Zh=>?_;refine call_meets PySem.F.slot_tuple_index (cf _ l rfl) PySem.F.entry_tuple_index (PySem.F.args_tuple_index_2 _ _) (tE _ _ nn _ j (by simpa using hj) ?_ λi hi lt=>?_) ⟨l,f,bA,.tk x,?_⟩
   ·rw[List.getElem_toArray,Zh]
    have:=PySem.SeqRoads2.EqGives.str w w t' t
    rwa [show(w.cps.toList==w.cps.toList)=true by simp]at this
   ·refine cC (e3 i lt) λz u e4 e5=>(List.getElem?_eq_some_iff.mp e4).elim λZU Lv=>?_
    rw[List.getElem_toArray,Lv];have:=PySem.SeqRoads2.EqGives.str z w u t;rwa [show(z.cps.toList==w.cps.toList)=false from beq_eq_false_iff_ne.mpr λq=>e5 (Ej.mp (by rw[q];simp))]at this
   ·rw[show((0+j))=j by simp]
    exact .v (.int _ _)
 |_=>trivial
end
def PQ(P:Params)(p:Addr×List (Str×Addr)):Bool:=p.2.all λq=>findIn (KF P) (.ref p.1) q.1==some (some (.ref q.2))&&typeIn (KF P) (.ref q.2)==some (.type "function")&& !ef q.1
theorem Cs(P):(iW.all λp=>PQ P p)=true:=by kernel_rfl
theorem Cj:∀p∈iW,p.1∈[jE,gG,o6,jd,nI,o7,qH,dD]:=by decide+kernel
theorem tq{P:Params}{C:Addr}{m:Str}(h1:dc iW C=some ms)(h2:bD ms m=some fI):findIn (KF P) (.ref C) m=some (some (.ref fI))/\typeIn (KF P) (.ref fI)=some (.type "function")/\ef m=false/\pQ P C:=by
 have z:=List.all_eq_true.mp (Cs P) (C,ms) (fY h1)
 have z:=List.all_eq_true.mp z (m,fI) (gc h2)
 simp only[aO,beq_iff_eq,Bool.not_eq_true']at z;exact(qL z.1.1 z.1.2 z.2 (Aq (Cj _ (fY h1))))
section
variable{P:AP}
theorem T.viaH{P:QT Z β}{Q:QT xg mO}{r:R Z}{K:β->(QS mO)->QS VP}(x:T c P r t bA f J)(hw:∀Q E,wA c t (λv s'=>K v Q E s') E J->wA c t' Q E J)(y:∀a s v bT f' bF,r=.ok a s->cD c bA f J s f' bF bT->P a v bT.heap f' bF->(g a s=.no)\/∃(o:AP) (tk:Nat) (kX:Sem mO),(∀Q E,wA c kX Q E {bT with toks:=tk}->K v Q E bT)/\(∀a,o a->bA a\/J.heap.objs.size<=a)/\T c Q (g a s) kX o f' {bT with toks:=tk}):T c Q (r.bind g) t' bA f J:=by
 induction r using iw with
 |ok a s=>
  show T c Q (g a s) _ _ _ _
  generalize e:g a s=zz;induction zz using iw with
  |ok b bK=>
   refine hw _ _ (ak x (λv bT z=>cC z λf' o' p q=>?_) λY Y z=>z.elim)
   obtain e'|⟨o,tk,kX,h1,ho,z⟩:=y a s v bT f' o' rfl p q
   ·rw[e]at e';injection e'
   ·rw[e]at z
    exact h1 _ _ (z.up p.go ho ⟨p.rest.1,p.rest.2⟩)
  |exc m bK=>
   refine hw _ _ (ak x (λv bT z=>cC z λf' o' p q=>?_) λY Y z=>z.elim)
   obtain e'|⟨o,tk,kX,h1,ho,z⟩:=y a s v bT f' o' rfl p q
   ·rw[e]at e';injection e'
   ·rw[e]at z
    exact h1 _ _ (z.up p.go ho ⟨p.rest.1,p.rest.2⟩)
  |no=>trivial
 |exc m s=>exact hw _ _ (ak x (λY Y z=>z.elim) λY Y z=>z)
 |no=>trivial
def uS(rc:f9)(cx:Cx)(m:Str)(args:List Expr)(s:S):R OV:=match args,dM m "append" with
 |[e],true=>(vl (rc.e cx e s)).bind λa s=>(match s.ss with
  |some l=>(match dF (l.length+1)with|true=>cZ .none {s with ss:=some (l++[a])}|false=>.no)
  |none=>.no)
 |_,_=>.no
def Ai(rc:f9)(cx:Cx)(m:Str)(args:List Expr)(xs:LA)(s:S):R OV:=match args,dM m "count" with
 |[e],true=>(vl (rc.e cx e s)).bind λa s=>(match a with
  | .int i=>(match o5 i xs with|some n=>cZ (.int n) s|none=>.no)
  |_=>.no)
 |_,_=>.no
def Ah(rc:f9)(cx:Cx)(m:Str)(args:List Expr)(xs:LA)(s:S):R OV:=match args,dM m "index" with
 |[e],true=>(vl (rc.e cx e s)).bind λa s=>(match a with
  | .str x=>(match uD x 0 xs with|some n=>cZ (.int n) s|none=>.no)
  |_=>.no)
 |_,_=>.no
def Ak(rc:f9)(cx:Cx)(m:Str)(args:List Expr)(es:LE)(s:S):R OV:=match args,dM m "get" with
 |[e],true=>(vl (rc.e cx e s)).bind λa s=>(match a with
  | .str x=>cZ (match bD es x with|some a=>a|none=>.none) s
  |_=>.no)
 |_,_=>.no
def AR(rc:f9)(cx:Cx)(m:Str)(args:List Expr)(c:Addr)(fs:LE)(s:S):R OV:=match dc iW c with
 |none=>.no
 |some ms=>match bD ms m with
  |none=>.no
  |some f=>lz rc cx f [.ins c fs] args s
def Aj(rc:f9)(cx:Cx)(m:Str)(args:List Expr)(c:Addr)(fs:LE)(s:S):R OV:=match bD fs m with
 |some f=>(match hU c m with|true=>jD rc cx f args s|false=>.no)
 |none=>AR rc cx m args c fs s
def wR(rc:f9)(cx:Cx)(m:Str)(args:List Expr)(a:AV)(s:S):R OV:=match a with
  | .seen=>uS rc cx m args s
  | .lst xs=>Ai rc cx m args xs s
  | .tup xs=>Ah rc cx m args xs s
  | .dct es=>Ak rc cx m args es s
  | .ins c fs=>Aj rc cx m args c fs s
  |_=>.no
theorem Rk{a:Addr}{o:Obj}(e:h.get? a=some o)(hd:o.dict=none):∀b,Value.ref a=.ref b->∃o,h.get? b=some o/\o.dict=none:=λb q=>by(injection q with zz;subst zz);exact(cf o e hd)
def pO(c:Fm)(bA:AP)(f:Fz)(J:Shared)(m:Str)(args:List Expr)(pos:Pos)(pb:Sem Bool)(v:Value)(r:R OV):Prop:=
 (r=.no)\/∃(tk:Nat) (kX:Sem Value),(∀Q E,wA c kX Q E {J with toks:=tk}->wA c (getMethod v m pb) (λfx eS=>wA c (callWith pos fx.1 fx.2 (backTo pos (starEach args c.ev)) []) Q E eS) E J)/\TO c bA J r kX bA f {J with toks:=tk}
theorem qO(q:c9 [e]=true):cG e=true:=by
 rw[fM]at q;rw[aO]at q;exact q.1
section
variable{m:Str}{pb:Sem Bool}
theorem yv(H:k9 rc d c)(cy:Rm c (d+2))(pl:c9 args=true)(x:St c s J.heap f bA)(r:VR c.w J.heap f .seen v):pO c bA f J m args pos pb v (uS rc c.cx m args s):=by
 unfold uS;refine fS (dM m "append") (λq=>.inl (by induction args using eZ with|nil=>rfl|cons e l=>obtain _|_:=l<;>rfl)) λq=>?_
 induction args using eZ with
 |nil=>exact .inl rfl
 |cons e l=>induction l using eZ with
  |cons=>exact .inl rfl
  |nil=>
   rw[cR.mp q];refine bW r.i ?_;rintro la rfl QI;refine dR (pW x QI) ?_;rintro l0 Q4 e0 ⟨n0,h0⟩ _;exact .inr (cz J.toks _ (λQ E z=>Calls.getMethod_list_append h0 rfl rfl z) (vh H.e.at x QI (qO pl)))
theorem BR(H:k9 rc d c)(cy:Rm c (d+2))(pl:c9 args=true)(x:St c s J.heap f bA)(r:VR c.w J.heap f (.lst xs) v):pO c bA f J m args pos pb v (Ai rc c.cx m args xs s):=by
 unfold Ai;refine fS (dM m "count") (λq=>.inl (by induction args using eZ with|nil=>rfl|cons e l=>obtain _|_:=l<;>rfl)) λq=>?_
 induction args using eZ with
 |nil=>exact .inl rfl
 |cons e l=>induction l using eZ with
  |cons=>exact .inl rfl
  |nil=>
   rw[cR.mp q];obtain⟨y,vs,rfl,z,l,r1,n1⟩:=r.i;refine cF (id l) λnn l'=>.inr (cz J.toks _ (λQ E z=>getMethod_builtin l.list.typeIs PySem.F.plainAttrs_list PySem.F.slot_list_count PySem.F.type_list_count (Rk l' rfl) z) (Aa H.e.at x (qO pl) λa bK u bJ bU bE bM cj=>ry bM.st (r.go bM.go x.wd.fok x.free) cj))
theorem BQ(H:k9 rc d c)(cy:Rm c (d+2))(pl:c9 args=true)(x:St c s J.heap f bA)(r:VR c.w J.heap f (.tup xs) v):pO c bA f J m args pos pb v (Ah rc c.cx m args xs s):=by
 unfold Ah;refine fS (dM m "index") (λq=>.inl (by induction args using eZ with|nil=>rfl|cons e l=>obtain _|_:=l<;>rfl)) λq=>?_
 induction args using eZ with
 |nil=>exact .inl rfl
 |cons e l=>induction l using eZ with
  |cons=>exact .inl rfl
  |nil=>
   rw[cR.mp q];obtain⟨y,vs,rfl,z,l,r1,n1⟩:=r.i;refine cF (id l) λnn l'=>.inr (cz J.toks _ (λQ E z=>getMethod_builtin l.tup.typeIs PySem.F.plainAttrs_tuple PySem.F.slot_tuple_index PySem.F.type_tuple_index (Rk l' rfl) z) (Aa H.e.at x (qO pl) λa bK u bJ bU bE bM cj=>rx bM.st (r.go bM.go x.wd.fok x.free) cj))
theorem BU(H:k9 rc d c)(cy:Rm c (d+2))(pl:c9 args=true)(x:St c s J.heap f bA){xs:LE}(r:VR c.w J.heap f (.dct xs) v):pO c bA f J m args pos pb v (Ak rc c.cx m args xs s):=by
 unfold Ak;refine fS (dM m "get") (λq=>.inl (by induction args using eZ with|nil=>rfl|cons e l=>obtain _|_:=l<;>rfl)) λq=>?_
 induction args using eZ with
 |nil=>exact .inl rfl
 |cons e l=>induction l using eZ with
  |cons=>exact .inl rfl
  |nil=>
   rw[cR.mp q];obtain⟨y,mm,rfl,z,ne,hm,r1,hn⟩:=r.i;exact .inr (cz J.toks _ (λQ E z=>getMethod_builtin hm.typeIs PySem.F.plainAttrs_dict PySem.F.slot_dict_get PySem.F.type_dict_get hm.noDict z) (Aa H.e.at x (qO pl) λa bK u bJ bU bE bM cj=>vE bM.st (r.go bM.go x.wd.fok x.free) cj))
theorem BS(H:k9 rc d c)(cy:Rm c (d+2))(pl:c9 args=true)(x:St c s J.heap f bA){cl:Addr}{fs:LE}(r:VR c.w J.heap f (.ins cl fs) v):pO c bA f J m args pos pb v (Aj rc c.cx m args cl fs s):=by
 refine Aw r.inv_ins ?_;rintro y dd mm ox rfl a1 a2 a3 a4 a5 a6 a7 a8 a9 K3;refine bW (jn a3 a4 a5 a6 a7.ns) λod I lk=>?_;unfold Aj;generalize q:bD fs m=zz;induction zz using i7 with
 |some fv=>
  refine fS (hU cl m) (λok=>.inl rfl) λok=>cH (f7 (P:=c.w.params) ok) λK hf=>bW (a9.get q) λu g1 g2=>.inr (cz _ _ (λQ E z=>method_usual x.X I K.ga K.gx hf rfl (gg x.X K hf a3 a4 a5 a6 a7.ns g1 g2.handed z)) ?_)
  exact ql H cy pl x g2
 |none=>
  unfold AR;dsimp only;refine eE (dc iW cl) (λh1=>.inl rfl) λms h1=>?_
  dsimp only;refine eE (bD ms m) (λh2=>.inl rfl) λfI h2=>lg (tq (P:=c.w.params) h1 h2) λk1 k2 k3 K=>.inr (cz J.toks _ (λQ E z=>method_fn x.X I K.ga K.gx k1 k2 ?_ z) (qm H.e H.c pl x (.cons r .nil)))
  unfold shadowIn;dsimp only;rw[lk m,K3 m k3 q];rfl
theorem yu(H:k9 rc d c)(cy:Rm c (d+2))(pl:c9 args=true)(x:St c s J.heap f bA)(r:VR c.w J.heap f a v):pO c bA f J m args pos pb v (wR rc c.cx m args a s):=by
 induction a using AV.casesOn with
 |seen=>exact yv H cy pl x r
 |lst xs=>exact BR H cy pl x r
 |tup xs=>exact BQ H cy pl x r
 |dct es=>exact BU H cy pl x r
 |ins cl fs=>exact BS H cy pl x r
 |_=>exact .inl rfl
end
end
section
variable{P:AP}
theorem yx(H:fE rc d c)(x:St c s J.heap f bA)(z:bQ c.cx ob s=some (n,.ol K6))(pl:cG e=true)(hp:Nat.beq iX.endLine pos.line=true):
  TO c bA J ((vl (rc.e c.cx e s)).bind λa s=>(match a with
     | .lst ys=>(match bQ c.cx ob s with
      |some (_,.ol xs)=>(match dF (xs.length+ys.length)with|true=>cZ .none (s.set n (.ol (xs++ys)))|false=>.no)
      |_=>.no)
     |_=>.no)) (eval (.Call (.Attribute ob "extend" iX) [e] [] pos) c.ev) bA f J:=by
 refine pd (x.mineP z) ?_;rintro v F r nm ⟨p,rfl⟩ w lk hk dn kk;refine mM r.ol_at ?_;rintro la Q4 rfl ⟨n0,l0⟩ r0 WC _;have hw:∀{Q E},wA c _ (λu bK=>bK.TypeIs _ "list"/\argsOk "list.extend" ⟨[.ref la,u],[]⟩/\∃S,Meets _ S/\S c.A _ bK) E J->wA c _ Q E J:=λ{Q E} y=>by
  refine jt (mU pl) rfl hp rfl (kk (getMethod_builtin (cf _ l0 rfl) PySem.F.plainAttrs_list PySem.F.slot_list_extend PySem.F.type_list_extend (Rk l0 rfl) ?_));rw[cY pl];exact seqMethod1_meets PySem.F.slot_list_extend PySem.F.entry_list_extend y
 have t:T _ _ (vl (rc.e c.cx e s)) _ bA f J:=(H ((n,.ref la)::c.pin)).v (x.pinned nm)
 generalize vl _=r at t⊢;obtain⟨a,bK⟩|⟨m,bK⟩|w:=r
 ·induction a using AV.casesOn with
  |lst ys=>
   show TO c bA J (match bQ c.cx _ bK with|some (_,.ol xs)=>(match dF _ with|true=>cZ .none _|false=>.no)|_=>.no) _ bA f J
   rcases z':bQ c.cx _ bK with _|⟨n',o⟩
   ·trivial
   obtain _|_|xs|_|_:=o<;>try trivial
   obtain rfl:=fA z';dsimp only;rcases q2:dF _ with _|_
   ·trivial
   refine hw (ak t (λu bT z=>cC z λf' o' p y=>?_) λY Y z=>z.elim)
   refine nN (lI p.unpin.st p.st.the z' rfl) ?_;rintro vs ⟨m,l⟩ r ln k;obtain⟨lb,us,rfl,z2,⟨m2,l2⟩,r2,n2⟩:=y.inv_lst;have lv:=r.length;have lu:=r2.length;refine⟨(cf _ l rfl),PySem.F.args_list_extend_2 _ _,_,PySem.AutoSeq1.list_extend_list_list_0 la vs.toArray m lb us.toArray m2 ?_ (by rw[aH,aW];omega) (by rw[aH,aH,aW];omega),l,l2,?_⟩
   ·rw[aO]
    intro z3;unfold Builtin.List.listTooLong at z3;simp at z3;rw[aW]at z3;omega
   ·obtain⟨jK,p2⟩:=k _ bT.toks _ _ (aI ..) (by
     have:=IsL.update l λx=>x++us.toArray
     rw[List.append_toArray]at this;exact⟨_,this⟩) (r.append r2) (by rw[aw];exact(fK q2))
    exact(cz f' jK ⟨p2.st,p.unpin.go.trans p2.go p.go.no,p.rest.trans p2.rest⟩ (.v .none))
  |_=>trivial
 ·exact hw (ak t (λY Y y=>y.elim) λe bT z=>cC z λf' o' p y=>(cz f' o' p.unpin y.unpin))
 ·trivial
theorem vo(H:fE rc d c)(HC:∀p,nJ rc (c.pins p)){m:Str}(pl:c9 l=true)(hp:Nat.beq iX.endLine pos.line=true)(hn:Nat.blt l.length 30=true)(x:St c s J.heap f bA){cl:Addr}{fs:LO}(z:bQ c.cx ob s=some (n,.oi cl fs))(h1:dc iW cl=some ms)(h2:bD ms m=some fI)(ng:dc gW fI=some st)(hi:eQ vV fI=true)(hl:bD fs m=none):
  TO c bA J ((bY rc c.cx true l s).bind λos s=>(match bQ c.cx ob s with
     |some (_,.oi cl fs)=>(rc.f fI st (.oi cl fs::os) s.ss).toL n s
     |_=>.no)) (eval (.Call (.Attribute ob m iX) l [] pos) c.ev) bA f J:=by
 refine lg (tq (P:=c.w.params) h1 h2) λk1 k2 k3 K=>pd (x.mineP z) ?_;rintro v F r nm ⟨p,rfl⟩ w lk hk dn kk
 refine nN (qQ x.X ng) ?_;rintro mm hm rfl rfl ho;refine T.unpinO (T.viaB (K:=λvs Q E bK=>(bK.heap.get? mm.a=some ⟨.type "function",none,.func mm.fd,#[]⟩/\(⟨.type "function",none,.func mm.fd,#[]⟩:Obj).data=.func mm.fd)/\wA c (call (.ref mm.a) ([v]++vs) []) Q E bK) (iu (H _) pos true l s bA f J (x.pinned nm)) (λQ E y=>?_) λos bK vs bJ bU bE dZ bM cj=>?_)
 ·refine jt pl rfl hp hn (kk ?_)
  refine xK r.i ?_;rintro _ _ _ _ _ rfl rfl e1 e2 e3 e4 e5 e6 e7;refine bW (jn e1 rfl rfl rfl e2.ns) λod I Ym=>method_fn x.X I K.ga K.gx k1 k2 ?_ (Calls.callWith_function (eW pl y))
  unfold shadowIn;dsimp only;rw[Ym m,e5 m hl];rfl
 ·refine bW cj λP ag hP=>?_
  refine(eF (λb=>bE b\/P b) _ (λQ E z=>⟨⟨(bM.st.X _ _ (List.map_inj_left.mp (kr c.w.params) mm hm)),rfl⟩,z⟩) (λb q=>q.elim (bM.go.no b) (hP b)) ?_)
  rcases z':bQ c.cx _ bK with _|⟨n',o⟩
  ·trivial
  obtain _|_|_|_|⟨i9,oK⟩:=o<;>try trivial
  refine i5 (dK z') ?_;rintro⟨p',e'⟩ w1 l1 Ll LB
  (injection e' with zz yy;subst zz yy)
  refine iZ (bM.st.take w1 l1 Ll LB) λv' F' t1 t2 t3 t4 t5 t6=>?_;have:=cQ.eq bM.st.the t5;subst this;have Dc:Ag _ bU (λb=>bE b/\¬F' b) bJ.heap _ _ λb=>F' b\/P b:=.cons t2 t3 (ag.less λb q=>q.1) λb q1 q2=>(ag.foK b q2).1 (t4 b q1)
  have ct:=HC _|>.f mm.a mm.st _ _ _ _ _ _ bJ t1 ng Dc
  rw[hi]at ct;have T1:=ct.toL (o:=bA) (k:=J.heap.objs.size) t1 t5 Dc.foK;have e2:(λb=>(bE b/\¬F' b)\/F' b\/P b)=λb=>bE b\/P b:=funext λb=>propext ⟨λq=>by
   obtain q|q|q:=q
   ·exact .inl q.1
   ·exact .inl (t4 b q)
   ·exact .inr q,λq=>by
   by_cases zf:F' b
   ·exact .inr (.inl zf)
   ·exact q.elim (λy=>.inl ⟨y,zf⟩) λy=>.inr (.inr y)⟩
  rw[e2]at T1;exact T1
theorem EB(H:fE rc d c){m:Str}(x:St c s J.heap f bA)(z:bQ c.cx ob s=some (n,.ol xs))(pl:cG e=true)(hp:Nat.beq iX.endLine pos.line=true)(hb:eu ob=true):TO c bA J (match dM m "append" with
   |true=>(vl (rc.e c.cx e s)).bind λa s=>(match bQ c.cx ob s with
    |some (_,.ol xs)=>(match dF (xs.length+1)with|true=>cZ .none (s.set n (.ol (xs++[a])))|false=>.no)
    |_=>.no)
   |false=>(match dM m "extend" with
    |true=>(vl (rc.e c.cx e s)).bind λa s=>(match a with
     | .lst ys=>(match bQ c.cx ob s with
      |some (_,.ol xs)=>(match dF (xs.length+ys.length)with|true=>cZ .none (s.set n (.ol (xs++ys)))|false=>.no)
      |_=>.no)
     |_=>.no)
    |false=>.no)) (eval (.Call (.Attribute ob m iX) [e] [] pos) c.ev) bA f J:=by
 rcases q:dM m "append" with _|_
 ·rcases q:dM m "extend" with _|_
  ·trivial
  ·rw[cR.mp q]
   exact yx H x z pl hp
 ·rw[cR.mp q]
  exact yU H x z pl hp hb
theorem EC(H:k9 rc d c){m:Str}(pl:c9 l=true)(hp:Nat.beq iX.endLine pos.line=true)(hn:Nat.blt l.length 30=true)(x:St c s J.heap f bA){cl:Addr}{fs:LO}(z:bQ c.cx ob s=some (n,.oi cl fs)):TO c bA J (match dc iW cl with
  |none=>.no
  |some ms=>match bD ms m with
   |none=>.no
   |some f=>match dc gW f,eQ vV f,bD fs m with
    |some st,true,none=>(bY rc c.cx true l s).bind λos s=>(match bQ c.cx ob s with
     |some (_,.oi c fs)=>(rc.f f st (.oi c fs::os) s.ss).toL n s
     |_=>.no)
    |_,_,_=>.no) (eval (.Call (.Attribute ob m iX) l [] pos) c.ev) bA f J:=by
 rcases h1:dc iW cl with _|ms
 ·trivial
 dsimp only;rcases h2:bD ms m with _|fI
 ·trivial
 dsimp only;rcases h3:dc gW fI with _|st
 ·trivial
 rcases h4:eQ vV fI with _|_
 ·trivial
 rcases h5:bD fs m with _|_
 ·exact vo H.e H.c pl hp hn x z h1 h2 h3 h4 h5
 ·trivial
theorem Cu(H:k9 rc d c)(cy:Rm c (d+2)){m:Str}(pl:c9 l=true)(hp:Nat.beq iX.endLine pos.line=true)(hn:Nat.blt l.length 30=true)(hb:eu ob=true)(x:St c s J.heap f bA):
  TO c bA J (wi rc c.cx ob m l s) (eval (.Call (.Attribute ob m iX) l [] pos) c.ev) bA f J:=by
 have p1:∀{e},c9 [e]=true->cG e=true:=λ{e} q=>by
  rw[fM]at q;rw[aO]at q;exact q.1
 have fz:TO c bA J ((vl (rc.e c.cx ob s)).bind (wR rc c.cx m l)) (eval (.Call (.Attribute ob m iX) l [] pos) c.ev) bA f J:=by
  refine T.viaH (H.e.at.v x) (λQ E z=>jt pl hb hp hn z) λa bK v bJ bU bE dZ bM cj=>?_
  obtain z|⟨tk,kX,h1,h2⟩:=yu H cy pl bM.st cj
  ·exact .inl z
  ·exact .inr (mK bE tk kX h1 bM.go.no (h2.mono λY Y Y Y Y z=>z.up bM.go.no bM.go.size))
 unfold wi;rw[hb];generalize z:bQ c.cx ob s=zz;obtain _|⟨n,o⟩:=zz
 ·exact fz
 ·induction o using rD with
  |ol xs=>
   obtain _|⟨e,l⟩:=l
   ·trivial
   ·obtain _|_:=l
    ·exact EB H.e x z (p1 pl) hp hb
    ·trivial
  |oi cl fs=>exact EC H pl hp hn x z
  |_=>exact fz
theorem Fj(H:k9 rc d c)(cy:Rm c (d+2)){m:Str}(pl:c9 l=true)(x:St c s J.heap f bA):TO c bA J (match Nat.beq ap.endLine pos.line,Nat.blt l.length 30,eu ob with
  |true,true,true=>wi rc c.cx ob m l s
  |_,_,_=>.no) (eval (.Call (.Attribute ob m ap) l [] pos) c.ev) bA f J:=by
 rcases h1:Nat.beq ap.endLine pos.line with _|_<;>try trivial
 rcases h2:Nat.blt l.length 30 with _|_<;>try trivial
 rcases h3:eu ob with _|_<;>try trivial
 exact Cu H cy pl h1 h2 h3 x
theorem yD(H:k9 rc d c)(cy:Rm c (d+2)){g:Expr}(x:St c s J.heap f bA):TO c bA J (uX rc c.cx g l pos s) (eval (.Call g l [] pos) c.ev) bA f J:=by
 unfold uX;generalize pl:c9 l=zz;induction zz using i8 with
 |false=>trivial
 |true=>
  induction g using Expr.casesOn with
  |Attribute ob m ap=>
   exact Fj H cy pl x
  |Name y p=>exact tQ H cy pl x
  |_=>trivial
end
inductive j5(w:World)(h:Heap)(f:Fz)(I:Addr):List AV->Prop
 |lst {ax:Addr} {vs:List Value} {xs:List AV} {i:Nat}:f.z ax->fG h ax vs->dw w h f xs (vs.drop i)->h.IsListIter I ax i->j5 w h f I xs
 |tup {ax:Addr} {vs:List Value} {xs:List AV} {i:Nat}:f.z ax->qJ h ax vs->dw w h f xs (vs.drop i)->h.IsTupleIter I ax i->j5 w h f I xs
 |rng {k n:Nat}:IsRangeIter h I (k:Int) (n:Int) 1->j5 w h f I ((List.range' k n).map λ(k:Nat)=>AV.int (k:Int))
structure K1(I:Addr)(h h':Heap):Prop where
 keep:∀b,b≠I->∀o,h.get? b=some o->h'.get? b=some o
 size:h.objs.size<=h'.objs.size
section
variable{P:AP}
theorem K1.of_same(hs:Heap.SameBut I h h'):K1 I h h':=⟨λb ne o e=>(hs.2 b ne).trans e,aR hs.1.symm⟩
theorem K1.go(k:K1 I h h')(ho:bA I):Go bA h f bA h' f:=⟨λb nb=>.of_keep (k.keep b λq=>nb (q▸ho)),.refl f,λY q=>.inl q,λY q=>.inl q,λY q=>.inl q,λY q=>.inl q,k.size⟩
theorem Wd.one(x:Wd w sb h f ss)(k:K1 I h h')(hz:¬f.z I)(hy:¬f.y I)(hn:¬f.sn I)(hb:sb.objs.size<=I):Wd w sb h' f ss:=by
 refine⟨x.base,λb o p e=>k.keep b (λq=>?_) o (x.stat b o p e),aq x.sbz k.size,x.fok,λb q=>aK (x.zl b q) k.size,x.snl,?_⟩
 ·have:=aF e;rw[q]at this;exact absurd this (Nat.not_lt.mpr hb)
 ·have s:=x.seen
  induction ss using i7 with
  |none=>exact s
  |some l=>
   refine jN s ?_;rintro b vs q1 ⟨o,e⟩ q3 q4;exact(kf b vs q1 ⟨o,k.keep _ (λq=>hn (q▸(q1 b).mpr rfl)) _ e⟩ (q3.mono (λb z o e=>.inl (k.keep b (λq=>hz (q▸z)) o e)) (λb y=>.of_keep (k.keep b λq=>hy (q▸y))) (.refl f)) q4)
theorem St.one(x:St c s h f bA)(k:K1 I h h')(no:¬bA I)(fr:ni c f I)(hb:c.sb.objs.size<=I):St c s h' f bA:=
 x.frame (k.go rfl) (λb q=>by subst q;exact⟨fr.z,fr.y,fr.sn⟩) (λb q z=>no (z▸q)) (λe he L q z=>fr.out e he (z▸q)) (x.wd.one k fr.z fr.y fr.sn hb)
theorem VR.one(k:K1 I h h')(hz:¬f.z I)(hy:¬f.y I)(r:VR w h f a v):VR w h' f a v:=r.mono (λb z o e=>.inl (k.keep b (λq=>hz (q▸z)) o e)) (λb y=>.of_keep (k.keep b λq=>hy (q▸y))) (.refl f)
theorem dw.one'(k:K1 I h h')(hz:¬f.z I)(hy:¬f.y I){a:LA}{v:LV}(r:dw w h f a v):dw w h' f a v:=r.mono (λb z o e=>.inl (k.keep b (λq=>hz (q▸z)) o e)) (λb y=>.of_keep (k.keep b λq=>hy (q▸y))) (.refl f)
theorem vQ.hard{i:Nat}(k:ed h h' I)(x:h.IsListIter I ax i):h'.IsListIter I ax i:=by
 obtain⟨o,e,c,d⟩:=x;exact⟨o,k.exact e (by rw[c];decide),c,d⟩
theorem tX.hard{i:Nat}(k:ed h h' I)(x:h.IsTupleIter I ax i):h'.IsTupleIter I ax i:=by
 obtain⟨o,e,c,d⟩:=x;exact⟨o,k.exact e (by rw[c];decide),c,d⟩
theorem j5.mono(hk:∀a,f.z a->ed h h' a)(hy:∀a,f.y a->jx h h' a)(le:f.Le f')(hI:ed h h' I)(x:j5 w h f I xs):j5 w h' f' I xs:=by
 induction x using j5.casesOn with
 |lst z l r it=>exact .lst (le.z _ z) (l.hard (hk _ z)) (r.mono hk hy le) (vQ.hard hI it)
 |tup z l r it=>exact .tup (le.z _ z) (l.hard (hk _ z)) (r.mono hk hy le) (tX.hard hI it)
 |rng it=>exact .rng (hI.exact it (show Value.type "range_iterator"≠.type "frame" by decide))
theorem j5.there(x:j5 w h f I xs):I<h.objs.size:=by
 induction x using j5.casesOn with
 |lst _ _ _ it=>obtain⟨_,e,_⟩:=it;exact aF e
 |tup _ _ _ it=>obtain⟨_,e,_⟩:=it;exact aF e
 |rng e=>exact aF e
theorem j5.go(G:Go o h f o' h' f')(ok:f.Ok)(fr:eI f o)(hI:¬o I)(hy:¬f.y I)(hs:¬f.sn I)(x:j5 w h f I xs):j5 w h' f' I xs:=x.mono (G.hz ok fr) (G.sy fr) G.le (G.hard hI hy hs)
theorem jh{Q:VP}(r:VR c.w J.heap f a v)(e:dh a=some xs)(k:∀ob,ob.isFreed=false->j5 c.w (J.heap.push ob) f J.heap.objs.size xs->Q (.ref J.heap.objs.size) {J with heap:=J.heap.push ob}):wpAny (Md c.w) A (pyIter v) Q E J:=by
 have mv:∀{ob} {xs} {vs},dw c.w J.heap f xs vs->dw c.w (J.heap.push ob) f xs (vs.drop 0):=λr=>by rw[List.drop_zero];exact r.push _
 induction a using AV.casesOn with
 |lst l=>
  obtain rfl:=oI e;obtain⟨y,vs,rfl,z,l,r1,n1⟩:=r.inv_lst;exact wpAny_pyIter_list l.list (k _ rfl (.lst z (l.hard λo e=>.inl (bZ _ _ _ _ e)) (mv r1) (ej _ (aE _ rfl) rfl rfl)))
 |tup l=>
  obtain rfl:=oI e;obtain⟨y,vs,rfl,z,l,r1,n1⟩:=r.i;exact iter_tuple l.tup (k _ rfl (.tup z (l.hard λo e=>.inl (bZ _ _ _ _ e)) (mv r1) (ej _ (aE _ rfl) rfl rfl)))
 |rng n=>
  obtain rfl:=oI e;obtain⟨y,t,u,u',rfl,z,hr,hs⟩:=r.i;refine wpAny_pyIter_range hr (lC hs) (k _ rfl ?_);rw[List.range_eq_range'];refine .rng ?_;rw[<-ie];exact aE _ rfl
 |_=>exact c8 e
theorem lD{Q:QS (Option Value)}(x:j5 c.w J.heap f I (a::xs))(hz:¬f.z I)(hy:¬f.y I)(k:∀v h' tk,K1 I J.heap h'->VR c.w J.heap f a v->j5 c.w h' f I xs->Q (some v) {J with heap:=h',toks:=tk}):wpAny (Md c.w) A (pyNext (.ref I)) Q E J:=by
 have dr:∀{vs:LV} {i},dw c.w J.heap f _ _->∃v,vs[i]? =some v/\VR c.w J.heap f a v/\dw c.w J.heap f xs _:=λ{vs i} r=>by
  obtain⟨v,us,hq,r1,r2⟩:=r.inv_cons;have lt:=(Nat.lt_or_ge i vs.length).resolve_right λz=>nomatch (List.drop_eq_nil_of_le z).symm.trans hq
  rw[List.drop_eq_getElem_cons lt]at hq;injection hq with zz yy
  subst zz yy;exact ej _ (az lt) r1 r2
 generalize hl:a::xs=l at x;induction x using j5.casesOn with
 |lst z l r it=>
  subst hl;refine dI (dr r) λv e r1 r2=>wpAny_pyNext_list_item it l.list (List.getElem?_toArray.trans e) λh' Li hs=>?_
  have k1:=K1.of_same hs
  exact k v h' J.toks k1 r1 (.lst z (l.hard λo e=>.inl (k1.keep _ (λq=>hz (q▸z)) o e)) (r2.one' k1 hz hy) Li)
 |tup z l r it=>
  subst hl;refine dI (dr r) λv e r1 r2=>wpAny_pyNext_tuple_item it l.tup (List.getElem?_toArray.trans e) λh' Li hs=>?_
  have k1:=K1.of_same hs
  exact k v h' J.toks k1 r1 (.tup z (l.hard λo e=>.inl (k1.keep _ (λq=>hz (q▸z)) o e)) (r2.one' k1 hz hy) Li)
 | @rng m n it=>
  cases n with
  |zero=>injection hl
  |succ n=>
   (injection hl with zz yy;subst zz yy)
   refine wpAny_pyNext_range_item it (by lia) λh' Li hs=>k _ h' _ (K1.of_same hs) (.int _ _) (.rng ?_)
   have e1:((m+1))=m+1:=by push_cast;rfl
   have e2:n=((n+1):Int)-1:=by push_cast;lia
   rw[e2];exact Li
theorem lE{Q:QS (Option Value)}(hh:A.handled=none)(x:j5 c.w J.heap f I [])(k:∀h' tk,K1 I J.heap h'->Q none {J with heap:=h',toks:=tk}):wpAny (Md c.w) A (pyNext (.ref I)) Q E J:=by
 have dr:∀{vs} {i},dw c.w J.heap f [] _->vs[i]? =none:=λ{vs i} r=>by
  rw[List.getElem?_eq_none_iff];exact List.drop_eq_nil_iff.mp r.inv_nil
 refine jT ?_;generalize hl:([])=l at x;induction x using j5.casesOn with
 |lst z l r it=>
  subst hl;exact wpAny_pyNext_list_end hh it l.list (List.getElem?_toArray.trans (dr r)) λh' he sz=>k h' J.toks ⟨λb ne o e=>he b o ne e,sz⟩
 |tup z l r it=>
  subst hl;exact wpAny_pyNext_tuple_end hh it l.tup (List.getElem?_toArray.trans (dr r)) λh' he sz=>k h' J.toks ⟨λb ne o e=>he b o ne e,sz⟩
 | @rng m n it=>
  cases n with
  |zero=>exact wpAny_pyNext_range_end hh it (by simp) λh' he sz=>k h' J.toks ⟨λb ne o e=>he b o ne e,sz⟩
  |succ n=>rw[List.range'_succ]at hl;injection hl
end
section
variable{P:AP}
theorem FR.reown{F:Str->AP}(x:FR c s h f bA m F)(k:∀a,(a=c.fe.locals\/(∃y,c.fe.cells.lookup y=some a)\/∃y,F y a)->bA a->o a):FR c s h f o m F:=
 ⟨x.ns,x.cls,k _ (.inl rfl) x.ownL,λy q=>let⟨a,v,e1,e2,e3⟩:=x.cells y q;⟨a,v,e1,e2,λz=>k a (.inr (.inl ⟨y,e1⟩)) (e3 z)⟩,x.cinj,x.cL,λy a q=>(x.ck y a q).imp_left (k a (.inr (.inl ⟨y,q⟩))),x.loc,λy a q=>⟨k a (.inr (.inr ⟨y,q⟩)) (x.fo y a q).1,(x.fo y a q).2⟩,x.fd,x.free⟩
theorem St.compR(x:St c s h f bA)(dG:c.cx.cs=some cs):pP c cs s h f bA:=by
 have q:=x.comp
 rw[dG]at q;exact q
theorem St.compTurn(x:St c s h f bA)(dG:c.cx.cs=some cs)(k:K1 c.ev.locals h h'){cl:LE}(ns:∃m,h'.Ns1 c.ev.locals m/\∀y a,bD cl y=some a->∃v,m y=some v/\VR c.w h' f a v):St c {s with cl:=cl} h' f bA:=by
 have cr:=x.compR dG
 have hC:=x.oo _ cr.ownC
 refine cC x.fr λm F q1 q2=>?_;have q2:=q2 (by rw[dG];rfl)
 have ne:∀a,(a=c.fe.locals\/(∃y,c.fe.cells.lookup y=some a)\/∃y,F y a)->a≠c.ev.locals:=λa z=>by
  obtain z|⟨y,z⟩|⟨y,z⟩:=z
  ·rw[z];exact λq=>cr.neL q.symm
  ·exact λq=>cr.neC y a z q.symm
  ·exact λq=>q2 y (q▸z)
 have OH:c.ev.locals≠Pt\/s.dl=none:=by
  refine bW cr.ns λmm hn Y=>jM hn λob es ep e1 e2 Y=>eE s.dl (λd=>.inr rfl) λl d=>?_
  left
  intro q;obtain⟨_,_,ps,_,_,⟨_,r⟩,_⟩:=x.tab l d;rw[q,r]at e1;obtain rfl:=oI e1;injection e2
 have G:Go (λb=>b=c.ev.locals) h f (λb=>b=c.ev.locals) h' f:=k.go rfl
 have fr:eI f λb=>b=c.ev.locals:=λb q=>by subst q;exact⟨hC.1.z,hC.1.y,hC.1.sn⟩
 have q3:FR c s h f (λa=>bA a/\a≠c.ev.locals) m F:=q1.reown λa z q=>⟨q,ne a z⟩
 have q4:=(q3.frame G x.wd.fok fr (λa q=>x.free a q.1) λa q z=>q.2 z).reown λa Y q=>q.1
 have wd:Wd c.w c.sb h' f s.ss:=by
  refine⟨x.wd.base,λb ob p e=>k.keep b (λq=>?_) ob (x.wd.stat b ob p e),aq x.wd.sbz k.size,x.wd.fok,λb q=>aK (x.wd.zl b q) k.size,x.wd.snl,?_⟩
  ·obtain hb|hb:=hC.1.sb
   ·have:=aF e;rw[q]at this;exact absurd this (Nat.not_lt.mpr hb)
   ·exact p (q.trans hb)
  ·have sn:=x.wd.seen
   refine eE s.ss (λhs=>by rw[hs]at sn;exact sn) λl hs=>?_
   rw[hs]at sn;refine jN sn ?_;rintro b vs r1 ⟨ob,e⟩ r3 r4;exact(kf b vs r1 ⟨ob,k.keep _ (λq=>hC.1.sn (q▸(r1 b).mpr rfl)) _ e⟩ (r3.one' k hC.1.z hC.1.y) r4)
 refine⟨wd,λa q=>⟨(x.oo a q).1,aK (x.oo a q).2 k.size⟩,x.frames,x.ff.go G λe he L q y=>by
  subst y;exact hC.1.out e he q,x.fe,x.fsc,x.ffr,x.ofr,λl e=>?_,(cz m F ⟨q4.ns,q4.cls,q4.ownL,q4.cells,q4.cinj,q4.cL,q4.ck,q4.loc,q4.fo,q4.fd,q4.free⟩ (λY=>q2)),?_,?_⟩
 ·exact x.tab_go wd (λY o e'=>.inl (k.keep Pt (Ne.symm (OH.resolve_right λz=>c8 (z.symm.trans e))) o e')) id e
 ·rw[dG]
  exact⟨cr.env,cr.frame,cr.loc,cr.top,cr.free,cr.cell,ns,cr.ownC,cr.neL,cr.neC⟩
 ·exact λp hp=>q3.name G x.wd.fok fr (λa q=>x.free a q.1) (λa q z=>q.2 z) (x.pin p hp)
theorem lK(x:St c s J.heap f bA)(dG:c.cx.cs=some cs)(hl:bD cs.names n=some .local)(r:VR c.w J.heap f a v)(k:∀bT,cD c bA f J {s with cl:=dy s.cl n a} f bA bT->Q () bT):wpAny M A (assign (.Name n p) c.ev v) Q E J:=by
 have cr:=x.compR dG
 refine bW cr.ns λm hn hm=>jM (id hn) λob es ep e1 e2 e3=>wpAny_assign_Name ?_
 rw[storeName_local (cr.loc n hl) (by rw[cr.env.kind];rfl)]
 refine gJ hn e1 λh' o' rI hs rH WM=>?_;have k1:=K1.of_same hs;have hC:=(x.oo _ cr.ownC).1;refine k _ ⟨x.compTurn dG k1 (cf _ rI (λy b e=>?_)),k1.go cr.ownC,rfl,rfl⟩;rw[dA]at e;by_cases q:n=y
 ·rw[aA q]at e
  obtain rfl:=oI e;exact(cf v (aA q.symm) (r.one k1 hC.z hC.y))
 ·rw[au q]at e
  refine bW (hm y b e) λu u1 u2=>(cf u ((au λz=>q z.symm).trans u1) (u2.one k1 hC.z hC.y))
theorem sx(x:St c s J.heap f bA)(oW:∀p∈c.pin,p.1≠n)(hb:cn c.cx n s=true)(r:eD c.w J.heap f ov v G)(hG:eX c f bA G)(hk:uc ov=false)(k:∀bT bF,cD c (λa=>bA a\/G a) f J (s.set n ov) f bF bT->Q () bT):wpAny M A (assign (.Name n p) c.ev v) Q E J:=af (ay (ju x oW hb r hG hk k))
theorem Fo:∀{xs:LA} {J} {Q:QS LV},j5 c.w J.heap f I xs->¬f.z I->¬f.y I->(∀vs h' tk,K1 I J.heap h'->dw c.w h' f xs vs->j5 c.w h' f I []->Q vs {J with heap:=h',toks:=tk})->wpAny (Md c.w) A (draw (.ref I) xs.length) Q E J:=by
 intro xs;induction xs with
 |nil=>intro J Q x hz hy k;exact aj (k [] J.heap J.toks ⟨λY Y Y e=>e,aC _⟩ .nil x)
 |cons a xs ih=>
  intro J Q x hz hy k;refine af (lD x hz hy λv h' tk k1 r x'=>?_);refine af (aD (ih x' hz hy λvs qu Q6 k2 r2 x2=>aj (k _ qu Q6 ⟨λb ne o e=>k2.keep b ne o (k1.keep b ne o e),aq k1.size k2.size⟩ (.cons ((r.one k1 hz hy).one k2 hz hy) r2) x2)))
theorem jH(hh:c.A.handled=none)(wd:Wd c.w c.sb J.heap f s.ss)(r:VR c.w J.heap f a v)(ha:a=.lst xs\/a=.tup xs){Q:QS LV}(k:∀vs h' tk,(∀b o,J.heap.get? b=some o->h'.get? b=some o)->J.heap.objs.size<=h'.objs.size->dw c.w h' f xs vs->Q vs {J with heap:=h',toks:=tk}):wA c (unpackItems v xs.length none) Q E J:=by
 have it:dh a=some xs:=by obtain z|z:=ha<;>subst z<;>rfl
 have hn:∃T id,J.TypeIs v T/\typeLookup (.type T) (Str.ofString "__iter__")=pure (some (.builtin id)):=by
  obtain z|z:=ha<;>subst z
  ·obtain⟨y,vs,rfl,z,l,_⟩:=r.inv_lst
   exact(cz _ _ l.list.typeIs slot_list_iter.lookup)
  ·cases r with
   |tup z l _ _=>exact(cz _ _ l.tup.typeIs PySem.F.slot_tuple_iter.lookup)
 refine cC hn λT id hT hl=>?_;have nz:=λz=>Nat.lt_irrefl _ (wd.zl _ (.inl z))
 have ny:=λz=>Nat.lt_irrefl _ (wd.zl _ (.inr (.inl z)))
 refine af<|af (wpAny_specialOf hT hl (aj ?_));refine af (aD (jh r it λob hf x=>?_));refine af (aD (Fo x nz ny λvs h' tk k1 r2 x2=>?_));rw[au (by rw[r2.length];exact Nat.lt_irrefl _)]
 refine af (aD (lE hh x2 λqu Q6 k2=>?_));refine aj (k vs qu Q6 (λb o e=>?_) (aq (aq (de _ _) k1.size) k2.size) (r2.one' k2 nz ny));have ne:=Nat.ne_of_lt (aF e);exact k2.keep b ne o (k1.keep b ne o (bZ _ _ _ _ e))
theorem mj{xs:List Str}(h:h9 (e::l)=some xs):∃y p ys,e=.Name y p/\h9 l=some ys/\xs=y::ys:=by
 induction e using Expr.casesOn with
 |Name y p=>
  have h:(match h9 l with|some xs=>some _|none=>none)=some xs:=h
  generalize h9 l=o at h⊢;obtain _|ys:=o
  ·exact c8 h
  ·exact mK y _ ys rfl rfl (oI h).symm
 |_=>exact c8 h
theorem lP:∀{ts} {xs},h9 ts=some xs->(assignEach ts env).length=xs.length/\(assignEach ts env).findIdx? (·.1)=none:=by
 intro ts;induction ts with
 |nil=>intro xs h;obtain rfl:=oI h;exact⟨rfl,rfl⟩
 |cons e l ih=>
  intro xs h;refine jM (mj h) ?_;rintro y p ys rfl h2 rfl;refine cH (ih h2) λi1 i2=>⟨aN _ i1,by
   show List.findIdx? _ ((false,_)::assignEach l env)=none
   rw[List.findIdx?_cons,i2];rfl⟩
theorem tU(h1:cx.cs=none)(h0:dQ cx y=false)(h2:bD cx.sc.names y=some .local\/(bD cx.sc.names y=some .cell/\cw s.loc y=false)):cn cx y s=true:=by
 unfold cn;rw[h1,h0];obtain h2|⟨h2,h3⟩:=h2<;>dsimp only<;>rw[h2]
 unfold cw at h3;generalize bD s.loc y=o at h3⊢;obtain _|o:=o
 ·rfl
 ·obtain _|_:=o<;>first|rfl|exact tZ h3
theorem tV(h:cn c.cx y s=true):dQ c.cx y=false:=by
 unfold cn at h;generalize c.cx.cs=o at h;generalize dQ c.cx y=b at h;obtain _|_:=b
 ·rfl
 ·obtain _|_:=o<;>exact dT h
theorem rB(h:cn c.cx y s=true):cn c.cx y (s.set n (.v a))=true:=by
 refine cH (ji h) λh1 h2=>tU h1 (tV h) (h2.imp_right λz=>⟨z.1,?_⟩)
 have z:=z.2
 show(match bD (dy s.loc n _) y with|some (.k _)=>true|_=>false)=false
 rw[dA];by_cases q:n=y
 ·rw[aA q]
 ·rw[au q];exact z
theorem kP{ys:List Str}(h:fL c.cx s (y::ys)=true):cn c.cx y s=true/\fL c.cx s ys=true:=by
 have h:(match cn c.cx y s with|true=>fL c.cx s ys|false=>false)=true:=h
 generalize cn c.cx y s=b at h;obtain _|_:=b
 ·exact dT h
 ·exact⟨rfl,h⟩
theorem tW:∀{ys},fL c.cx s ys=true->fL c.cx (s.set n (.v a)) ys=true:=by
 intro ys;induction ys with
 |nil=>intro _;exact rfl
 |cons y ys ih=>
  refine λh=>cH (kP h) λh1 h2=>?_
  unfold fL;rw[rB h1];exact ih h2
theorem By:∀{ts} {xs} {as:LA} {vs:LV} {s s'} {bA} {J} {fl} {Q:UP},h9 ts=some xs->St c s J.heap f bA->fL c.cx s xs=true->(∀p∈c.pin,dQ c.cx p.1=true)->dw c.w J.heap f as vs->f6 xs as s=.ok fl s'->
  (fl=.next->∀bT bF,cD c bA f J s' f bF bT->Q () bT)->wpAny M A (assignInOrder ((assignEach ts c.ev).map (·.2)) vs) Q E J:=by
 intro ts;induction ts with
 |nil=>
  intro xs as vs s s' bA J fl Q h x hb hp r e k;obtain rfl:=oI h;induction as using eZ with
  |nil=>(injection e with zz yy;subst zz yy);obtain _|_:=r;exact aj (k rfl _ _ (.refl x))
  |cons=>injection e
 |cons t ts ih=>
  intro xs as vs s s' bA J fl Q h x hb hp r e k;refine jM (mj h) ?_;rintro y p ys rfl h2 rfl;refine cH (kP hb) λb1 b2=>?_;induction as using eZ with
  |nil=>injection e
  |cons a as=>
   cases r with
   | @cons _ v _ vs r1 r2=>
    refine af (aD (sx x (λq hq z=>?_) b1 (.fl (.v r1)) (λY z=>z.elim) rfl λbT bF po=>?_))
    ·have:=hp q hq
     rw[z]at this;unfold cn at b1;rw[this]at b1;rcases dG:c.cx.cs with _|_<;>rw[dG]at b1<;>exact dT b1
    ·have po:cD c bA f J _ f bF bT:=⟨po.st,⟨λa na=>po.go.kp a λz=>z.elim na False.elim,po.go.le,λa z=>(po.go.nz a z).imp_right λy=>y.imp_left λy=>y.elim id False.elim,λa z=>(po.go.ny a z).imp_right λy=>y.imp_left λy=>y.elim id False.elim,λa z=>(po.go.ns a z).imp_right λy=>y.imp_left λy=>y.elim id False.elim,λa z=>(po.go.no a z).imp_left λy=>y.elim id False.elim,po.go.size⟩,po.rest⟩
     exact ih h2 po.st (tW b2) hp (r2.go po.go x.wd.fok x.free) e λq Ih v5 CY=>k q Ih v5 (CY.up po.go po.go.no po.rest)
end
theorem R.bind_ok{r:R Z}{f:Z->S->R β}{b:β}(h:r.bind f=.ok b s'):∃a s,r=.ok a s/\f a s=.ok b s':=by
 induction r using iw with
 |ok a s=>exact(cz a s rfl h)
 |exc m s=>injection h
 |no=>injection h
abbrev uf:VP:=λY Y=>False
section
variable{P:AP}
theorem v8{P:QT Z β}{r:R Z}{a:Z}(x:T c P r t bA f J)(h:r=.ok a s):wA c t (λv bT=>∃f' bF,cD c bA f J s f' bF bT/\P a v bT.heap f' bF) uf J:=by
 rw[h]at x;exact x
structure rM(c:Fm)(bA:AP)(f:Fz)(h:Heap)(la:Addr)(ys:List AV):Prop where
 at_:∃vs,fG h la vs/\dw c.w h f ys vs
 ok:eX c f bA λb=>b=la
theorem rM.there(x:rM c bA f h la ys):la<h.objs.size:=let⟨_,⟨_,e⟩,_⟩:=x.at_;aF e
theorem rM.go(x:rM c bA f h la ys)(G:Go o h f o' h' f')(ok:f.Ok)(fr:eI f o)(hd:¬o la)(no:∀a,bF a->bA a\/o a\/h.objs.size<=a):rM c bF f' h' la ys:=by
 refine bW x.at_ λvs l r=>?_;have fl:=x.ok la rfl;exact⟨(cf vs (l.hard (G.hard hd fl.2.1.y fl.2.1.sn)) (r.go G ok fr)),x.ok.go G (λa q=>by subst q;exact hd) (λa q=>by subst q;exact x.there) no⟩
theorem rM.post(x:rM c bA f J.heap la ys)(st:St c s J.heap f bA)(p:cD c bA f J s' f' bF bT):rM c bF f' bT.heap la ys:=x.go p.go st.wd.fok st.free (x.ok la rfl).1 λa z=>(p.go.no a z).imp_right .inr
structure It(c:Fm)(bA:AP)(f:Fz)(h:Heap)(I:Addr)(xs:List AV):Prop where
 it:j5 c.w h f I xs
 ok:eX c f bA λb=>b=I
theorem It.go(x:It c bA f h I xs)(G:Go o h f o' h' f')(ok:f.Ok)(fr:eI f o)(hd:¬o I)(no:∀a,bF a->bA a\/o a\/h.objs.size<=a):It c bF f' h' I xs:=
 have fl:=x.ok I rfl
 ⟨x.it.go G ok fr hd fl.2.1.y fl.2.1.sn,x.ok.go G (λa q=>by subst q;exact hd) (λa q=>by subst q;exact x.it.there) no⟩
set_option backward.match.sparseCases true in
theorem sS{t:Expr}(x:j5 w J.heap f I xs)(k:Q () J):wpAny M A (letOwnedTupleGo t (.ref I) v) Q E J:=by
 have qt:∀{a:Addr},(∃(o:Obj) (T:String) (vs:Array Value),J.heap.get? I=some o/\o.cls=.type T/\o.data=.fields vs/\(T="list_iterator"\/T="tuple_iterator"\/T="range_iterator")):=λ{a}=>by
  induction x using j5.casesOn with
  |lst z l r it=>refine dI it λo e1 e2 e3=>?_;exact(xH o _ _ e1 e2 e3 (.inl rfl))
  |tup z l r it=>refine dI it λo e1 e2 e3=>?_;exact(xH o _ _ e1 e2 e3 (.inr (.inl rfl)))
  |rng e=>exact(xH _ _ _ e rfl rfl (.inr (.inr rfl)))
 refine uH (qt (a:=I)) λo T vs e1 e2 e3 hT=>?_;have main:∀a,wpAny M A (do
   let o<-load I
   match o.cls,o.data with
   | .type n,.fields vs=>
    if["enumerate","zip","dict_itemiterator","dict_reverseitemiterator","odict_iterator","itertools.zip_longest","itertools.pairwise"].contains n&&vs[0]? ==some (rawInt a)then
     rule "for.unpacks-the-owned-tuple"
     updateField I 0 .none
   |_,_=>pure ()) Q E J:=λa=>by
  refine af (wpAny_load e1 ?_);refine e2▸e3▸?_;dsimp only;have:(["enumerate","zip","dict_itemiterator","dict_reverseitemiterator","odict_iterator","itertools.zip_longest","itertools.pairwise"]:List String).contains T=false:=by
   obtain z|z|z:=hT<;>subst z<;>decide
  rw[this,Bool.false_and,au Bool.false_ne_true];exact aj k
 unfold letOwnedTupleGo;obtain _|_:=t<;>first|exact aj k|skip
 all_goals
  obtain _|_:=v<;>first|exact aj k|exact main _
theorem jf(h:gP sc y=true):bD sc.names y=some .local:=by
 unfold gP at h;generalize bD sc.names y=o at h⊢;obtain _|k:=o
 ·exact dT h
 ·obtain _|_:=k<;>first|rfl|exact dT h
def KJ(t:Expr)(a:AV)(l cl:LE):Prop:=(∃y p,t=.Name y p/\cl=dy l y a)\/∃y p z q u1 u2 a1 a2,t=.Tuple [.Name y p,.Name z q] u1 u2/\a=.tup [a1,a2]/\cl=dy (dy l y a1) z a2
theorem CC{t:Expr}{l cl:LE}:km t a l=some cl->KJ t a l cl:=by
 induction t using Expr.casesOn with
 |Name y p=>exact λh=>.inl (cz y p rfl ((aJ h).symm))
 |Tuple es u1 u2=>induction es using eZ with
  |nil=>exact c8
  |cons e1 es=>induction e1 using Expr.casesOn with
   |Name y p=>induction es using eZ with
    |nil=>exact c8
    |cons e2 es=>induction e2 using Expr.casesOn with
     |Name z q=>induction es using eZ with
      |cons=>exact c8
      |nil=>induction a using AV.casesOn with
       |tup as=>induction as using eZ with
        |nil=>exact c8
        |cons a1 as=>induction as using eZ with
         |nil=>exact c8
         |cons a2 as=>induction as using eZ with
          |cons=>exact c8
          |nil=>exact λh=>.inr (VV y p z q u1 u2 a1 a2 rfl rfl ((aJ h).symm))
       |_=>exact c8
     |_=>exact c8
   |_=>exact c8
 |_=>exact c8
theorem KB{a:Bool}(h:(match a with|true=>b|false=>false)=true):a=true/\b=true:=by
 induction a using i8 with
 |true=>exact⟨rfl,h⟩
 |false=>exact dT h
theorem xU(hh:c.A.handled=none)(x:St c s J.heap f bA)(dG:c.cx.cs=some cs){t:Expr}{cl:LE}(hb:km t a s.cl=some cl)(ht:g7 cs t=true)(r:VR c.w J.heap f a v)(k:∀bT,cD c bA f J {s with cl:=cl} f bA bT->Q () bT):wA c (assign t c.ev v) Q E J:=by
 obtain⟨y,p,rfl,rfl⟩|⟨y,p,z,q,u1,u2,a1,a2,rfl,rfl,rfl⟩:=CC hb
 ·exact lK x dG (jf ht) r k
 ·refine cH (KB ht) λhy ht=>af (ay ?_)
  refine af (aD (jH hh x.wd r (.inr rfl) λvs h' tk kp sz rs=>?_));refine dR rs.two ?_;rintro v1 v2 rfl r1 r2;have x1:=x.keeps kp sz;refine af (aD (lK x1 dG (jf hy) r1 λbJ bM=>?_));refine af (aD (lK bM.st dG (jf ht) (r2.go bM.go x1.wd.fok x1.free) λil eA=>aj (k il ?_)))
  have p0:cD c bA f J s f bA {J with heap:=h',toks:=tk}:=⟨x1,.keeps kp sz,rfl,rfl⟩
  exact(eA.up bM.go (λY q=>.inl q) bM.rest).up p0.go (λY q=>.inl q) p0.rest
theorem JY(H:dz rc d c)(he:c.ev=env):∀l s bA J f b s',St c s J.heap f bA->zD rc c.cx l s=.ok b s'->
  wA c (forIn l true λc r=>if r=true then do let ok<-isTrue c env (eval c env);pure (ForInStep.yield ok)else pure (ForInStep.yield r)) (λok bT=>ok=b/\∃f' bF,cD c bA f J s' f' bF bT) uf J:=by
 intro l;induction l with
 |nil=>
  intro s bA J f b s' x h
  (injection h with zz yy;subst zz yy)
  exact aj ⟨rfl,f,bA,.refl x⟩
 |cons e l ih=>
  refine λs bA J f b s' x h=>cC (R.bind_ok h) λb1 s1 h1 h2=>?_
  subst he;rw[List.forIn_cons];refine af (af (ak (v8 (H.b e s bA f J x) h1) (λok j0 z=>cC z λf1 gq p1 q1=>aj ?_) λY Y z=>z.elim))
  obtain rfl:=q1;induction ok using Bool.casesOn with
  |true=>exact ak (ih s1 gq j0 f1 b s' p1.st h2) (λok Df z=>cH z λz y=>iA y λf2 jK p2=>⟨z,f2,jK,p2.up p1.go p1.go.no p1.rest⟩) λY Y z=>z
  |false=>
   cases h2
   have Sx:∀l:List Expr,wA c (forIn l false λe r=>if r=true then do let ok<-isTrue e c.ev (eval e c.ev);pure (ForInStep.yield ok)else pure (ForInStep.yield r)) (λok Ih=>ok=false/\∃f' bF,cD c bA f J s' f' bF Ih) uf j0:=λl=>by
    induction l with
    |nil=>rw[List.forIn_nil];exact aj ⟨rfl,f1,gq,p1⟩
    |cons e l ih=>rw[List.forIn_cons];exact af (aj ih)
   exact Sx l
end
noncomputable def pI(ce:Expr)(depth:Nat)(it acc:Value)(env:Env)(t:Expr)(p:Pos)(iS:List Expr)(body:Sem Fin->Sem Fin):Sem Fin:=do
 standAt p
 match<-pyNext it with
 |none=>pure (.done .next)
 |some v=>
  letOwnedTupleGo t it v
  assign t env v
  let mut ok:=true
  for c in iS do
   if ok then ok<-isTrue c env (eval c env)
  if ok then body (again (.compLoop ce depth it acc env))else again (.compLoop ce depth it acc env)
section
variable{P:AP}
theorem wy{t:Expr}{body:Sem Fin->Sem Fin}{R:QS Result}(tree:compTurn (.ListComp elt gens sc pos) depth it acc env=pI (.ListComp elt gens sc pos) depth it acc env t p iS body)(H:wpAny (Md w) A (pyNext it) (λr bK=>match r with
   |none=>R (.ok .next) bK
   |some v=>wpAny (Md w) A (letOwnedTupleGo t it v) (λY eS=>wpAny (Md w) A (assign t env v) (λY qz=>wpAny (Md w) A (forIn iS true λc r=>if r=true then do let ok<-isTrue c env (eval c env);pure (ForInStep.yield ok)else pure (ForInStep.yield r)) (λok uA=>
     if ok=true then(∀Q,(∀Ik,codeAny (Md w) A (.compLoop (.ListComp elt gens sc pos) depth it acc env) R Ik->Q (.again (.compLoop (.ListComp elt gens sc pos) depth it acc env)) Ik)->wpAny (Md w) A (body (again (.compLoop (.ListComp elt gens sc pos) depth it acc env))) Q uf uA)else codeAny (Md w) A (.compLoop (.ListComp elt gens sc pos) depth it acc env) R uA) uf qz) uf eS) uf bK) uf J):
  codeAny (Md w) A (.compLoop (.ListComp elt gens sc pos) depth it acc env) R J:=by
 refine codeAny_of_tree ?_;show wpAny _ A _ _ _ J;refine wpAny_onRaise ?_;rw[tree];refine af (ay (af (ak H (λr bK d9=>?_) λY Y z=>z.elim)))
 induction r using i7 with
 |none=>exact aj d9
 |some v=>
  refine af (ak d9 (λY eS UC=>af (ak UC (λY qz UB=>af (ak UB (λok uA Mo=>?_) λY Y z=>z.elim)) λY Y z=>z.elim)) λY Y z=>z.elim)
  induction ok using i8 with
  |false=>exact aj ⟨rfl,Mo⟩
  |true=>exact ak (Mo (λey s'=>match ey with| .done f=>R _ s'| .again c'=>c'.quiet=true/\codeAny _ A c' R s') λIk UA=>⟨rfl,UA⟩) (λY Y z=>z) λY Y z=>z.elim
theorem E5{q:Addr}(x:eI f bA)(y:¬f.z q/\¬f.y q/\¬f.sn q):eI f λa=>bA a\/a=q:=λa z=>by
 obtain z|z:=z
 ·exact x a z
 ·subst z;exact y
abbrev HM(c:Fm)(iS:List Expr)(g:S->R Bool):Prop:=∀(s:S) (bA:AP) (J:Shared) (f:Fz) (b:Bool) (s':S),St c s J.heap f bA->g s=.ok b s'->wA c (forIn iS true λe r=>if r=true then do let ok<-isTrue e c.ev (eval e c.ev);pure (ForInStep.yield ok)else pure (ForInStep.yield r)) (λok bT=>ok=b/\∃f' bF,cD c bA f J s' f' bF bT) uf J
abbrev qS(c:Fm)(la:Addr)(fb:S->R LA)(body:Sem Fin->Sem Fin):Prop:=∀(s:S) (bA:AP) (J:Shared) (f:Fz) (zs ys:LA) (s':S),St c s J.heap f bA->rM c bA f J.heap la ys->fb s=.ok zs s'->ys.length+zs.length<=4000->∀(K:Sem Fin) (Q:QS Fin),(∀f' bF bT,cD c (λa=>bA a\/a=la) f J s' f' bF bT->rM c bF f' bT.heap la (ys++zs)->wA c K Q uf bT)->wA c (body K) Q uf J
theorem s8(hh:c.A.handled=none)(dG:c.cx.cs=some cs){t:Expr}{body:Sem Fin->Sem Fin}(ht:g7 cs t=true)(tree:∀it,compTurn (.ListComp elt gens sc pos) depth it (.ref la) c.ev=pI (.ListComp elt gens sc pos) depth it (.ref la) c.ev t p iS body){g:S->R Bool}(hg:HM c iS g)(hb:qS c la fb body):
  ∀(xs:LA) s bA J f (ys zs:LA) s' (RR:QS Result),St c s J.heap f bA->It c bA f J.heap I xs->rM c bA f J.heap la ys->I≠la->dU fb t g xs s=.ok zs s'->ys.length+zs.length<=4000->
   (∀f' bF bT,cD c (λa=>bA a\/a=I\/a=la) f J s' f' bF bT->rM c bF f' bT.heap la (ys++zs)->RR (.ok .next) bT)->codeAny (Md c.w) c.A (.compLoop (.ListComp elt gens sc pos) depth (.ref I) (.ref la) c.ev) RR J:=by
 intro xs;induction xs with
 |nil=>
  intro s bA J f ys zs s' RR x it acc ne e cI k;cases e;have fI:=it.ok I rfl;refine wy (tree _) (lE hh it.it λh' tk k1=>?_);have x1:=x.one k1 fI.1 fI.2.1 fI.2.2;have G:Go (λb=>b=I) J.heap f (λb=>b=I) h' f:=k1.go rfl
  have rT:=acc.go G x.wd.fok (λb q=>by subst q;exact⟨fI.2.1.z,fI.2.1.y,fI.2.1.sn⟩) (λq=>ne q.symm) λa z=>.inl z
  refine k f bA _ ⟨x1,(k1.go (.inr (.inl rfl))).less λa q=>.inr (.inl (.inl q)),rfl,rfl⟩ ?_
  rw[aU];exact rT
 |cons a l ih=>
  intro s bA J f ys zs s' RR x it acc ne e cI k;have fI:=it.ok I rfl;rw[rh]at e;cases RF:km t a s.cl with
  |none=>rw[RF]at e;cases e
  |some cl=>
   rw[RF]at e;refine cC (R.bind_ok e) λb s3 e3 e=>wy (tree _) (lD it.it fI.2.1.z fI.2.1.y λv h' tk k1 r mY=>?_)
   have x1:=x.one k1 fI.1 fI.2.1 fI.2.2
   have YT:eI f λb=>b=I:=λb q=>by subst q;exact⟨fI.2.1.z,fI.2.1.y,fI.2.1.sn⟩
   have G:Go (λb=>b=I) J.heap f (λb=>b=I) h' f:=k1.go rfl
   have Dx:It c bA f h' I l:=⟨mY,it.ok⟩
   have G1:Go (λa=>bA a\/a=I\/a=la) J.heap f bA h' f:=(k1.go (.inr (.inl rfl))).less λa q=>.inr (.inl (.inl q))
   refine sS mY<|xU hh x1 dG RF ht (r.one k1 fI.2.1.z fI.2.1.y) λDf p2=>?_;have VI:=(acc.go G x.wd.fok YT (λq=>ne q.symm) λa z=>.inl z).post x1 p2
   have Q1:=Dx.go p2.go x1.wd.fok x1.free fI.1 λa z=>.inl z
   refine ak (hg _ bA Df f b s3 p2.st e3) (λok Q3 z=>cH z λz y=>iA y λf3 DF p3=>?_) λY Y z=>z.elim
   subst z;have G3:=(G1.trans p2.go λa q=>.inl (.inl q)).trans p3.go λa q=>.inl (.inl q)
   have IL:=VI.post p2.st p3
   have RU:=Q1.go p3.go p2.st.wd.fok p2.st.free (Q1.ok I rfl).1 λa z=>(p3.go.no a z).imp_right .inr
   have R3:=iz.trans ⟨rfl,rfl⟩ (p2.rest.trans p3.rest)
   induction ok using Bool.casesOn with
   |false=>
    refine ih s3 DF Q3 f3 ys zs s' RR p3.st RU IL ne e cI λf' bF bT p' rU=>k f' bF bT ⟨p'.st,G3.trans p'.go λa q=>?_,R3.trans p'.rest⟩ rU
    obtain q|q:=q
    ·exact G3.no a q
    ·exact .inl (.inr q)
   |true=>
    rw[aA rfl];refine cC (R.bind_ok e) λz1 s4 e4 e=>cC (R.bind_ok e) λz2 s5 e5 e=>?_
    cases e
    rw[aw]at cI;refine λQ kQ=>hb s3 DF Q3 f3 z1 ys s4 p3.st IL e4 (by lia) _ Q λf4 Ua Wb p4 VH=>aj (kQ Wb ?_)
    have fl:=IL.ok la rfl
    have G4:=G3.trans p4.go λa q=>by
     obtain q|q:=q
     ·exact G3.no a q
     ·exact .inl (.inr (.inr q))
    have Q0:=RU.go p4.go p3.st.wd.fok (E5 p3.st.free ⟨fl.2.1.z,fl.2.1.y,fl.2.1.sn⟩) (λz=>z.elim (RU.ok I rfl).1 ne) λa z=>.inr (p4.go.no a z)
    refine ih s4 Ua Wb f4 _ z2 s' RR p4.st Q0 VH ne e5 (by rw[aw];lia) λf' bF bT p' rU=>k f' bF bT ⟨p'.st,G4.trans p'.go λa q=>?_,(R3.trans p4.rest).trans p'.rest⟩ (by rw[<-bj];exact rU)
    obtain q|q:=q
    ·exact G4.no a q
    ·exact .inl (.inr q)
end
noncomputable abbrev ly:Obj:={cls:=.type "dict",data:=.dict #[]}
theorem Co{g:Addr}{q:Str}{Q:QS Env}(hc:∀x∈sc.names,x.2≠.cell)(k:Q {scope:=sc,locals:=J.heap.objs.size,globals:=g,cells:=cl,qual:=q,func:=none,code:=env.code,frame:=env.frame,builtins:=env.builtins} {J with heap:=J.heap.push ly}):wpAny M A (newFunctionEnv sc g cl [] q none .none (some env)) Q E J:=by
 simp only[newFunctionEnv,if_true];refine af (wpAny_alloc ?_);rw[forIn_yield_id cl (λx hx c=>by
  obtain⟨name,kind⟩:=x;have:(kind==NameKind.cell)=false:=by simpa using hc _ hx
  simp only[this,aZ,if_false])]
 refine af (aj (af ?_));exact aj (aj k)
theorem kO{k:NameKind}{l:List (Str×NameKind)}(h:dJ cx ((y,k)::l)=true):dJ cx l=true/\((k=.free/\bD cx.sc.names y=some .cell)\/k=.local\/k=.globalImplicit):=by
 induction k using NameKind.casesOn with
 |free=>
  have h:(match bD cx.sc.names y with|some .cell=>dJ cx l|_=>false)=true:=h
  generalize bD cx.sc.names y=o at h⊢;obtain _|k:=o
  ·exact dT h
  ·obtain _|_:=k<;>first|exact dT h|exact⟨h,.inl ⟨rfl,rfl⟩⟩
 |«local»=>exact⟨h,.inr (.inl rfl)⟩
 |globalImplicit=>exact⟨h,.inr (.inr rfl)⟩
 |_=>exact dT h
theorem jX{k:NameKind}(h:dJ cx names=true)(m:(x,k)∈names):(k=.free/\bD cx.sc.names x=some .cell)\/k=.local\/k=.globalImplicit:=by
 induction names with
 |nil=>exact nomatch m
 |cons p l ih=>
  obtain⟨y,k'⟩:=p;obtain w|w:=List.mem_cons.mp m
  ·injection w with w1 w2
   exact w1▸w2▸(kO h).2
  ·exact ih (kO h).1 w
theorem ml{k:NameKind}{l:List (Str×NameKind)}(h:fU sc ((y,k)::l)=true):fU sc l=true/\(k=.local->bD sc.names y=some .local):=by
 induction k using NameKind.casesOn with
 |«local»=>
  have h:(match gP sc y with|true=>fU sc l|false=>false)=true:=h
  rcases q:gP sc y with _|_<;>rw[q]at h
  ·exact dT h
  ·exact⟨h,λY=>jf q⟩
 |_=>exact⟨h,λq=>nomatch q⟩
theorem yk(h:fU sc names=true)(m:(x,NameKind.local)∈names):bD sc.names x=some .local:=by
 induction names with
 |nil=>exact nomatch m
 |cons p l ih=>
  obtain⟨y,k'⟩:=p;obtain w|w:=List.mem_cons.mp m
  ·injection w with w1 w2
   exact w1▸(ml h).2 w2.symm
  ·exact ih (ml h).1 w
noncomputable def gw(cells:List (Str×Addr)):List (Str×NameKind)->List (Str×Addr)->List (Str×Addr)
 |[],acc=>acc
 |(x,.free)::l,acc=>gw cells l ((x,(cells.lookup x).getD 0)::acc)
 |_::l,acc=>gw cells l acc
theorem yO(he:env.cells=cells)(g)(hg:∀n k cs,g (n,k) cs=if k==.free then(do let a<-cellOf env n;pure (.yield ((n,a)::cs)))else pure (.yield cs)):∀names acc,(∀x,(x,NameKind.free)∈names->(cells.lookup x).isSome)->forIn names acc g=pure (gw cells names acc):=by
 intro names;induction names with
 |nil=>intro acc _;exact rfl
 |cons hd l ih=>
  obtain⟨x,k⟩:=hd;intro acc H;rw[List.forIn_cons,hg];have H':=λy q=>H y (.tail _ q)
  obtain _|_:=k<;>first
   |(rw[au (by decide)]
     exact ih acc H')
   |(rw[aA (by decide)]
     refine cF (Option.isSome_iff_exists.mp (H x (.head _))) λa ha=>?_;have hc:cellOf env x=pure a:=by unfold cellOf;rw[he,ha]
     rw[hc];show(forIn l _ g)=pure (gw cells l _);rw[ha];exact ih _ H')
theorem lL:∀{names} {acc},(∀x,(x,NameKind.free)∈names->(cells.lookup x).isSome)->(∀p∈acc,cells.lookup p.1=some p.2)->∀p∈gw cells names acc,cells.lookup p.1=some p.2:=by
 intro names;induction names with
 |nil=>intro acc _ H p m;exact H p m
 |cons hd l ih=>
  obtain⟨x,k⟩:=hd;intro acc H1 H p m;have H':=λy q=>H1 y (.tail _ q)
  obtain _|_:=k<;>first
   |exact ih H' H p m
   |(refine ih H' (λq hq=>?_) p m
     obtain z|z:=List.mem_cons.mp hq
     ·subst z
      refine cF (Option.isSome_iff_exists.mp (H1 x (.head _))) λa ha=>?_;rw[ha];rfl
     ·exact H q z)
theorem lM:∀{names:List (Str×NameKind)} {acc:List (Str×Addr)} {p:Str×Addr},p∈acc->p∈gw cells names acc
 |[],acc,p,m=>m
 |(x,k)::l,acc,p,m=>by
  obtain _|_:=k<;>first
   |exact lM (names:=l) (acc:=acc) m
   |exact lM (names:=l) (acc:=(x,(cells.lookup x).getD 0)::acc) (.tail _ m)
theorem qj(m:(x,NameKind.free)∈names):∃a,(x,a)∈gw cells names acc:=by
 induction names generalizing acc with
 |nil=>exact nomatch m
 |cons p l ih=>
  obtain⟨y,k⟩:=p;obtain z|z:=List.mem_cons.mp m
  ·cases z
   exact⟨_,lM (names:=l) (.head _)⟩
  ·obtain _|_:=k<;>first
    |exact ih z
    |exact ih z
theorem jI{l:List (Str×Z)}{a:Z}(m:(x,a)∈l):∃b,l.lookup x=some b/\(x,b)∈l:=by
 generalize e:l.lookup x=zz;induction zz using i7 with
 |none=>
  rw[List.lookup_eq_none_iff]at e;have:=e _ m;simp at this
 |some b=>exact(cf b rfl (mem_of_lookup e))
theorem oE:∀{names:List (Str×NameKind)} {x},(names.map λ(n,k)=>if(k==NameKind.free&&env.scope.kind==.function&&env.kindOf n==some .cell)then(n,NameKind.cell)else(n,k)).lookup x=(names.lookup x).map λk=>if(k==NameKind.free&&env.scope.kind==.function&&env.kindOf x==some .cell)then NameKind.cell else k:=by
 intro names;induction names with
 |nil=>intro x;exact rfl
 |cons hd l ih=>
  obtain⟨n,k⟩:=hd;intro x;show List.lookup x ((if(k==NameKind.free&&env.scope.kind==.function&&env.kindOf n==some .cell)=true then(n,NameKind.cell)else(n,k))::_)=_
  by_cases hc:(k==NameKind.free&&env.scope.kind==.function&&env.kindOf n==some .cell)=true
  ·rw[aA hc,aV,aV]
   by_cases q:x=n
   ·subst q
    simp only[beq_self_eq_true,Option.map_some];rw[aA hc]
   ·rw[beq_eq_false_iff_ne.mpr q];exact ih
  ·rw[au hc,aV,aV]
   by_cases q:x=n
   ·subst q
    simp only[beq_self_eq_true,Option.map_some];rw[au hc]
   ·rw[beq_eq_false_iff_ne.mpr q];exact ih
noncomputable def l9(c:Fm)(sc:Scope)(cl:List (Str×Addr))(C:Addr):Fm:={c with cx:=⟨c.cx.sc,some sc,c.cx.fx⟩,ev:=compEnvC sc cl C c.fe}
section
variable{P:AP}{C:Addr}
theorem St.clos(x:St c s h f bA)(fk:dJ c.cx sc.names=true):∀y,(y,NameKind.free)∈sc.names->(c.fe.cells.lookup y).isSome/\c.fe.kindOf y=some .cell:=λy m=>by
 refine cC x.fr λmm F q1 Y=>?_;obtain⟨_,z⟩|z|z:=jX fk m<;>first|(injection z;done)|skip
 have k:c.fe.kindOf y=some .cell:=by
  unfold Env.kindOf;rw[x.fsc,<-iH];exact z
 refine cC (q1.cells y k) λa v e Y=>⟨by rw[e];rfl,k⟩
theorem St.closure(x:St c s h f bA)(jv:c.ev=c.fe)(fk:dJ c.cx sc.names=true):closureFor sc c.ev=pure (gw c.fe.cells sc.names []):=by
 rw[jv];simp only[closureFor];rw[yO rfl _ (λn k cs=>by obtain _|_:=k<;>rfl) sc.names [] λy m=>(x.clos fk y m).1]
 rfl
theorem St.enterC(x:St c s h f bA)(fk:dJ c.cx sc.names=true)(hk:sc.kind=.function):St (l9 c sc (gw c.fe.cells sc.names []) h.objs.size) {s with cl:=[]} (h.push ly) f (λa=>bA a\/a=h.objs.size):=by
 have x1:=x.push ly
 have fr:=x.fresh1 (aC _)
 refine cC x1.fr λm F q1 q2=>?_;have q3:FR c s _ f (λa=>bA a\/a=h.objs.size) m F:=q1.reown λa Y z=>.inl z
 have kd:∀y,(compEnvC sc (gw c.fe.cells sc.names []) h.objs.size c.fe).kindOf y=(bD sc.names y).map λk=>if(k==NameKind.free&&c.fe.scope.kind==.function&&c.fe.kindOf y==some .cell)then NameKind.cell else k:=λy=>by
  rw[iH];exact oE
 refine⟨x1.wd,λa q=>?_,x1.frames,x1.ff,x1.fe,x1.fsc,x1.ffr,x1.ofr,λl e=>?_,(cz m F ⟨q3.ns,q3.cls,q3.ownL,q3.cells,q3.cinj,q3.cL,q3.ck,q3.loc,q3.fo,q3.fd,q3.free⟩ (λY=>(λy z=>fr.1 (q1.fo y _ z).1))),?_,x1.pin⟩
 ·obtain q|q:=q
  ·exact⟨⟨(x1.oo a q).1.z,(x1.oo a q).1.y,(x1.oo a q).1.sn,(x1.oo a q).1.sb,(x1.oo a q).1.out⟩,(x1.oo a q).2⟩
  ·subst q
   exact⟨⟨fr.2.1.z,fr.2.1.y,fr.2.1.sn,fr.2.1.sb,fr.2.1.out⟩,by rw[(aS ..)];exact bp _⟩
 ·refine cH (x1.tab l e) λq r=>⟨.inl q,r⟩
 ·refine⟨⟨hk,x.fe.glob,x.fe.bui⟩,rfl,λy z=>?_,λy z=>?_,λy z=>?_,λy z=>?_,(cf (λY=>none) ?_ (λY Y q=>c8 q)),.inr rfl,λz=>?_,λy b z1 z2=>?_⟩
  ·show(compEnvC sc _ _ c.fe).kindOf y=_
   rw[kd,z];rfl
  ·show(compEnvC sc _ _ c.fe).kindOf y=_
   rw[kd,z];rfl
  ·have m:=gc z
   refine cH (x.clos fk y m) λk1 k2=>⟨.inl ?_,k2,?_⟩
   ·show(compEnvC sc _ _ c.fe).kindOf y=_
    rw[kd,z,k2,x.fe.kind];rfl
   ·show(gw c.fe.cells sc.names []).lookup y=c.fe.cells.lookup y
    refine cF (qj (cells:=c.fe.cells) (acc:=[]) m) λa ha=>bW (jI ha) λb e1 e2=>?_
    rw[e1];exact(lL (λy m=>(x.clos fk y m).1) (λY q=>by obtain _|_:=q) _ e2).symm
  ·obtain⟨w,_⟩|w|w:=jX fk (gc z)<;>injection w
  ·exact Heap.Ns1.of_empty (Heap.Ns.new h _)
  ·have z:h.objs.size=c.fe.locals:=z
   exact fr.1 (z.symm▸q1.ownL)
  ·subst z2
   obtain w|w:=q1.ck y _ z1
   ·exact fr.1 w
   ·exact fr.2.1.z w
theorem ni.ofC{a:Addr}(x:ni (l9 c sc cl C) f a):ni c f a:=⟨x.z,x.y,x.sn,x.sb,x.out⟩
theorem ni.toC{a:Addr}(x:ni c f a):ni (l9 c sc cl C) f a:=⟨x.z,x.y,x.sn,x.sb,x.out⟩
theorem St.exitC(x:St (l9 c sc cl C) s h f bA)(dG:c.cx.cs=none)(jv:c.ev=c.fe):St c {s with cl:=i9} h f (λa=>bA a/\a≠C):=by
 refine cC x.fr λm F q1 q2=>?_;have q2:=q2 rfl;have cr:=x.compR rfl;have ne:∀a,(a=c.fe.locals\/(∃y,c.fe.cells.lookup y=some a)\/∃y,F y a)->a≠C:=λa z=>by
  obtain z|⟨y,z⟩|⟨y,z⟩:=z
  ·rw[z];exact λq=>cr.neL q.symm
  ·exact λq=>cr.neC y a z q.symm
  ·exact λq=>q2 y (q▸z)
 have q3:FR _ s h f (λa=>bA a/\a≠C) m F:=q1.reown λa z q=>⟨q,ne a z⟩
 refine⟨x.wd,λa q=>⟨(x.oo a q.1).1.ofC,(x.oo a q.1).2⟩,x.frames,x.ff,x.fe,x.fsc,x.ffr,x.ofr,λl e=>?_,(cz m F ⟨q3.ns,q3.cls,q3.ownL,q3.cells,q3.cinj,q3.cL,q3.ck,q3.loc,q3.fo,q3.fd,q3.free⟩ (λz=>by rw[dG]at z;exact dT z)),by rw[dG];exact jv,x.pin⟩
 refine cH (x.tab l e) λq r=>⟨⟨q,λz=>?_⟩,r⟩
 refine bW cr.ns λmm hn Y=>jM hn λob es ep e1 e2 Y=>?_
 obtain⟨_,ps,_,_,⟨_,r3⟩,_⟩:=r;have e1:h.get? C=some ob:=e1;rw[<-z,r3]at e1;obtain rfl:=oI e1;injection e2
end
noncomputable def wc(elt:Expr)(acc:Value)(env:Env)(K:Sem Fin):Sem Fin:=(do let _<-call (.builtin "list.append") [acc,<-eval elt env])>>=λY=>K
noncomputable def uP(ce iO:Expr)(acc:Value)(env:Env)(K:Sem Fin):Sem Fin:=do
 let x<-eval iO env
 standAt iO.pos
 let x<-foldedSetIterable iO env x
 let _<-runOwn (.compStart ce 1 (<-holding [x] (pyIter x)) acc env) env
 K
theorem NB(elt t it)(iS)(sc)(pos)(i acc)(env):compTurn (.ListComp elt [⟨t,it,iS,0⟩] sc pos) 0 i acc env=pI (.ListComp elt [⟨t,it,iS,0⟩] sc pos) 0 i acc env t it.pos iS (wc elt acc env):=rfl
theorem NA(elt t it t2 iO)(sc)(pos)(i acc)(env):compTurn (.ListComp elt [⟨t,it,[],0⟩,⟨t2,iO,[],0⟩] sc pos) 0 i acc env=pI (.ListComp elt [⟨t,it,[],0⟩,⟨t2,iO,[],0⟩] sc pos) 0 i acc env t it.pos [] (uP (.ListComp elt [⟨t,it,[],0⟩,⟨t2,iO,[],0⟩] sc pos) iO acc env):=rfl
theorem Nz(elt t it t2 iO)(sc)(pos)(i acc)(env):compTurn (.ListComp elt [⟨t,it,[],0⟩,⟨t2,iO,[],0⟩] sc pos) 1 i acc env=pI (.ListComp elt [⟨t,it,[],0⟩,⟨t2,iO,[],0⟩] sc pos) 1 i acc env t2 iO.pos [] (wc elt acc env):=rfl
theorem iM{x:Value}(p:cG e=true):foldedSetIterable e env x=pure x:=by
 obtain _|_:=e<;>first|rfl|exact dT p
section
variable{P:AP}{C:Addr}
theorem j5.self{Q:VP}(x:j5 w J.heap f I xs)(k:Q (.ref I) J):wpAny (Md c.w) A (pyIter (.ref I)) Q E J:=by
 induction x using j5.casesOn with
 |lst z l r it=>exact wpAny_pyIter_listiter it k
 |tup z l r it=>exact wpAny_pyIter_tupleiter it k
 |rng it=>exact wpAny_pyIter_rangeiter it k
theorem sJ{R:QS Result}(x:j5 w J.heap f I xs)(ha:(gens[depth]?).elim false (λg=>g.is_async !=0)=false)(k:codeAny (Md c.w) A (.compLoop (.ListComp elt gens sc pos) depth (.ref I) acc env) R J):codeAny (Md c.w) A (.compStart (.ListComp elt gens sc pos) depth (.ref I) acc env) R J:=by
 refine codeAny_of_tree ?_;refine wpAny_onRaise ?_;unfold compStart;have ha:((clausesOf (.ListComp elt gens sc pos))[depth]?).elim false (λg=>g.is_async !=0)=false:=ha
 rw[ha];refine af (wpAny_askSetting ?_)
 split
 ·first
   |exact af _
   |exact aj (And.intro rfl k)
 ·refine af (wpAny_rule ?_)
  split
  ·exact af (ay (af (x.self (aj (And.intro rfl k)))))
  ·exact af (x.self (aj (And.intro rfl k)))
theorem wX(H:dz rc d c)(elt):qS c la (λs=>(vl (rc.e c.cx elt s)).bind λa s=>R.ok [a] s) (wc elt (.ref la) c.ev):=by
 refine λs bA J f zs ys s' x acc h cI K Q k=>cC (R.bind_ok h) λa s1 h1 h2=>?_
 (injection h2 with zz yy;subst zz yy)
 refine af (af (ak (v8 (H.v x) h1) (λv j0 z=>cC z λf1 gq p1 q1=>?_) λY Y z=>z.elim))
 have rT:=acc.post x p1
 refine bW rT.at_ ?_;rintro vs ⟨m,l⟩ r;have fl:=rT.ok la rfl;refine af (call_meets PySem.F.slot_list_append (cf _ l rfl) PySem.F.entry_list_append (PySem.F.args_list_append_2 _ _) (list_append la vs.toArray m v (by rw[aH,<-r.length,aW];lia)) ⟨l,aj ?_⟩)
 have k1:K1 la j0.heap (j0.heap.update la (Obj.mapSeq λx=>x.push v)):=K1.of_same (aI ..)
 have l2:=IsL.update l λx=>x.push v
 rw[List.push_toArray]at l2;refine k f1 gq _ ⟨(p1.st.one k1 fl.1 fl.2.1 fl.2.2),?_,p1.rest.1,p1.rest.2⟩ ⟨(cf _ ⟨_,l2⟩ ?_),rT.ok⟩
 ·have G1:Go (λa=>bA a\/a=la) J.heap f gq j0.heap f1:=p1.go.more λa q=>.inl q
  exact(G1.trans (k1.go (bA:=λa=>gq a\/a=la) (.inr rfl)) λa q=>q.elim (λz=>G1.no a z) λz=>.inl (.inr z)).less λa q=>(G1.no a q).elim (λz=>.inr (.inl z)) λz=>.inr (.inr z)
 ·exact((r.append (.cons q1 .nil)).one' k1 fl.2.1.z fl.2.1.y)
theorem BK(H:dz rc d c)(hh:c.A.handled=none)(dG:c.cx.cs=some cs){t it t2 iO:Expr}(ht:g7 cs t2=true)(pl:cG iO=true):qS c la (λs=>(vl (rc.e c.cx iO s)).bind λa s=>(match dh a with
    |none=>.no
    |some ys=>dU (λs=>(vl (rc.e c.cx elt s)).bind λa s=>.ok [a] s) t2 (λs=>.ok true s) ys s)) (uP (.ListComp elt [⟨t,it,[],0⟩,⟨t2,iO,[],0⟩] sc pos) iO (.ref la) c.ev):=by
 refine λs bA J f zs ys s' x acc h cI K Q k=>cC (R.bind_ok h) λa s1 h1 h2=>af (ak (v8 (H.v x) h1) (λv j0 z=>cC z λf1 gq p1 q1=>?_) λY Y z=>z.elim)
 refine af (ay ?_);rw[iM pl];refine af (aj ?_);refine eE (dh a) (λhi=>by rw[hi]at h2;injection h2) λus hi=>?_
 rw[hi]at h2;refine af (aD (jh q1 hi λob hf KX=>?_));have rT:=acc.post x p1;have Q1:It c gq f1 _ j0.heap.objs.size us:=⟨KX,λb q=>by subst q;exact(p1.st.fresh1 (aC _))⟩
 refine af (wpAny_runOwn (sJ KX rfl ?_));refine s8 hh dG (ht:=ht) (tree:=λi=>Nz elt t it t2 iO sc pos i _ c.ev) (λs bA J f b s' x e=>by(injection e with zz yy;subst zz yy);rw[List.forIn_nil];exact aj ⟨rfl,f,bA,.refl x⟩) (wX H elt) us s1 gq _ f1 ys zs s' _ (p1.st.push ob) Q1 (rT.go (o:=λY=>False) (Go.keeps (bZ _ _) (de _ _)) p1.st.wd.fok (λY q=>q.elim) (λq=>q) λa z=>.inl z) (Nat.ne_of_gt rT.there) h2 cI λf' bF bT p' rU=>k f' bF bT ⟨p'.st,?_,(p1.rest.trans (iz.trans ⟨rfl,rfl⟩ p'.rest))⟩ rU
 have G1:Go (λa=>bA a\/a=la) J.heap f gq j0.heap f1:=p1.go.more λa q=>.inl q
 have G2:=G1.trans (Go.keeps (bZ j0.heap ob) (de _ _)) G1.no
 refine G2.trans p'.go λa q=>?_;obtain q|q|q:=q
 ·exact G1.no a q
 ·subst q;exact .inr G1.size
 ·exact .inl (.inr q)
end
section
variable{P:AP}{C:Addr}
theorem Rm.comp(x:Rm c d):Rm (l9 c sc cl C) d:=⟨x.depth,x.units,x.hand⟩
theorem AU(h:Dp sc=true):sc.kind=.function:=by
 unfold Dp at h;rcases q:sc.kind with _|_<;>rw[q]at h<;>first|rfl|exact dT h
structure rr(c:Fm)(bA:AP)(f:Fz)(J:Shared)(s:S)(f':Fz)(bF:AP)(bT:Shared)(la C:Addr)(ys:List AV):Prop where
 po:cD c bA f J s f' bF bT
 acc:rM c bF f' bT.heap la ys
 ne:C≠la
 fl:J.heap.objs.size<=la
 flC:J.heap.objs.size<=C
 fc:eX c f' bF λb=>b=C
 ns:∃m,bT.heap.Ns1 C m
abbrev D6(c:Fm)(bA:AP)(f:Fz)(J:Shared)(s':S)(ys:LA)(CX:Option (Value->Sem Unit))(Q:VP):Prop:=∀f' bF bT la C,rr c bA f J {s' with cl:=[]} f' bF bT la C ys->compPost (Md c.w) c.A uf CX Q (.ref la) C (.ok .next) bT
theorem qi(HE:∀c,Rm c d->dz rc d c)(cy:Rm c d)(x:St c s J.heap f bA)(dG:c.cx.cs=none){t it:Expr}{gl:List Comprehension}{Q:VP}(fk:dJ c.cx sc.names=true)(lo:fU sc sc.names=true)(hk:Dp sc=true)(pl:cG it=true){g:S->R Bool}{body:Addr->Expr->Env->Sem Fin->Sem Fin}(ht:g7 sc t=true)(tree:∀i la env,compTurn (.ListComp elt (⟨t,it,iS,0⟩::gl) sc pos) 0 i (.ref la) env=pI (.ListComp elt (⟨t,it,iS,0⟩::gl) sc pos) 0 i (.ref la) env t it.pos iS (body la (.ListComp elt (⟨t,it,iS,0⟩::gl) sc pos) env))(hg:∀c',Rm c' d->c'.cx=⟨c.cx.sc,some sc,c.cx.fx⟩->HM c' iS g)(hb:∀c',Rm c' d->c'.cx=⟨c.cx.sc,some sc,c.cx.fx⟩->∀la,qS c' la fb (body la (.ListComp elt (⟨t,it,iS,0⟩::gl) sc pos) c'.ev))(h1:vl (rc.e c.cx it s)=.ok a s1)(h2:dh a=some xs)(h3:dU fb t g xs {s1 with cl:=[]}=.ok ys s')(cI:ys.length<=4000)(k:D6 c bA f J s' ys CX Q):
  wA c (comprehension (.ListComp elt (⟨t,it,iS,0⟩::gl) sc pos) sc c.ev p (newList []) false (eval it c.ev) CX) Q uf J:=by
 have jv:=by
  have q:=x.comp
  rw[dG]at q;exact q
 refine wpAny_comprehension_free rfl (λz=>iM pl) (x.closure jv fk) (AU hk) (λy hy e=>?_) ?_
 ·obtain⟨y1,y2⟩:=y
  cases e
  rw[<-iH];exact yk lo hy
 ·refine ak (v8 ((HE c cy).v x) h1) (λv j0 z=>cC z λf1 gq p1 q1=>?_) λY Y z=>z.elim
  refine jh q1 h2 λob hf KX=>?_;refine wpAny_newList ?_ (by size_fits)
  have x3:St c s1 ((j0.heap.push ob).push {cls:=.type "list",data:=.seq ([]).toArray}) f1 gq:=(p1.st.push ob).push _
  generalize QJ:(j0.heap.push ob).push {cls:=.type "list",data:=.seq ([]).toArray}=lR at x3;have nc:∀y∈sc.names,y.2≠.cell:=λy hy z=>by
   obtain⟨y1,y2⟩:=y;cases z;obtain⟨w,_⟩|w|w:=jX fk hy<;>injection w
  refine Co nc ?_;rw[jv];have s2:(j0.heap.push ob).objs.size=j0.heap.objs.size+1:=aS ..;have s3:lR.objs.size=j0.heap.objs.size+2:=by rw[<-QJ,aS,s2]
  have k3:∀b o,j0.heap.get? b=some o->lR.get? b=some o:=λb o e=>by rw[<-QJ];exact bZ _ _ _ _ (bZ _ _ _ _ e)
  have k4:∀b o,(j0.heap.push ob).get? b=some o->(lR.push ly).get? b=some o:=λb o e=>bZ _ _ _ _ (by rw[<-QJ];exact bZ _ _ _ _ e)
  have WW:∀q,j0.heap.objs.size<=q->q≠lR.objs.size->eX (l9 c sc (gw c.fe.cells sc.names []) lR.objs.size) f1 (λa=>gq a\/a=lR.objs.size) λb=>b=q:=λq l ne b z=>by
   subst z;have fr:=p1.st.fresh1 l;exact⟨λz=>z.elim fr.1 ne,fr.2.1.toC,fr.2.2⟩
  have Q0:It (l9 c sc _ lR.objs.size) (λa=>gq a\/a=lR.objs.size) f1 _ j0.heap.objs.size xs:=
   ⟨KX.mono (λa z o e=>.inl (k4 a o e)) (λa z=>.of_keep (k4 a)) (.refl f1) (λo e=>.inl (k4 _ o e)),WW _ (aC _) (by rw[s3];lia)⟩
  have V9:rM _ (λa=>gq a\/a=lR.objs.size) f1 (lR.push ly) (j0.heap.push ob).objs.size []:=
   ⟨(cf _ ⟨_,bZ _ _ _ _ (by rw[<-QJ];exact aE _ rfl)⟩ .nil),WW _ (de _ _) (by rw[s3];lia)⟩
  refine sJ Q0.it rfl<|s8 (c:=l9 c sc (gw c.fe.cells sc.names []) lR.objs.size) (J:=_) (ys:=[]) cy.hand rfl ht (λi=>tree i _ _) (hg _ cy.comp rfl) (hb _ cy.comp rfl _) xs _ _ f1 ys s' _ (x3.enterC fk (AU hk)) Q0 V9 (by show j0.heap.objs.size≠(j0.heap.push ob).objs.size;rw[s2];lia) h3 (by simpa using cI) λf' bF bT p' rU=>?_
  have cr:=p'.st.compR rfl
  have G0:Go bA J.heap f gq (lR.push ly) f1:=p1.go.trans (Go.keeps (λb o e=>bZ _ _ _ _ (k3 b o e)) (by rw[aS];lia)) p1.go.no
  have up:∀q,j0.heap.objs.size<=q->bA q\/J.heap.objs.size<=q:=λq l=>.inr (aq p1.go.size l)
  have G:=G0.trans p'.go λa q=>by
   obtain (q|q)|q|q:=q
   ·exact p1.go.no a q
   ·exact up a (by rw[q];lia)
   ·exact up a (by rw[q];exact aC _)
   ·exact up a (by rw[q];lia)
  have neC:lR.objs.size≠(j0.heap.push ob).objs.size:=by rw[s3];lia
  refine k f' (λa=>bF a/\a≠lR.objs.size) bT _ _ ⟨⟨p'.st.exitC dG jv,G.less λa q=>.inl q.1,p1.rest.trans (iz.trans ⟨rfl,rfl⟩ p'.rest)⟩,⟨rU.at_,λb z=>?_⟩,neC,by rw[s2];exact aq p1.go.size (bx _),aq p1.go.size (show j0.heap.objs.size<=lR.objs.size by rw[s3];lia),λb z=>?_,?_⟩
  ·have fl:=rU.ok b z
   exact⟨λy=>fl.1 y.1,fl.2.1.ofC,fl.2.2⟩
  ·subst z
   exact⟨λy=>y.2 rfl,(p'.st.oo _ cr.ownC).1.ofC,aq p1.st.wd.sbz (show j0.heap.objs.size<=lR.objs.size by rw[s3];lia)⟩
  ·refine bW cr.ns λm q Y=>⟨m,q⟩
end
section
variable{P:AP}{C:Addr}
theorem rr.turn(x:rr c bA f J s f' bF bT la C ys)(k1:K1 C bT.heap h'):cD c bA f J s f' bF {bT with heap:=h',toks:=tk}/\rM c bF f' h' la ys:=by
 have fC:=x.fc C rfl
 have G:Go (λb=>b=C) bT.heap f' (λb=>b=C) h' f':=k1.go rfl
 have fr:eI f' λb=>b=C:=λb q=>by subst q;exact⟨fC.2.1.z,fC.2.1.y,fC.2.1.sn⟩
 exact⟨⟨x.po.st.one k1 fC.1 fC.2.1 fC.2.2,(x.po.go.trans G λa q=>by subst q;exact .inr x.flC).less λa q=>.inr (x.po.go.no a q),x.po.rest.1,x.po.rest.2⟩,x.acc.go G x.po.st.wd.fok fr (λq=>x.ne q.symm) λa z=>.inl z⟩
theorem rM.lay(a:rM c bF f' bT.heap la ys)(p:cD c eM nD eV s f' bF bT)(fl:eV.heap.objs.size<=la)(cI:ys.length<=4000):∃C6,cD c eM nD eV s C6 bF bT/\VR c.w bT.heap C6 (.lst ys) (.ref la)/\∀b,b≠la->ni c f' b->ni c C6 b:=by
 refine bW a.at_ λvs l r=>?_;have r0:eD c.w bT.heap f' _ _ λb=>b=la:=.fl (.ol l r cI)
 refine xM (nX r0 a.ok.free p.st.wd.fok rfl) λec le ok nz ny ns r2=>(ej ec (p.lay a.ok r0.there (λb q=>by subst q;exact .inr fl) le ok nz ny ns) r2 (λb ne x=>⟨λz=>(nz b z).elim x.z ne,λz=>(ny b z).elim x.y ne,λz=>x.sn ((ns b).mp z),x.sb,x.out⟩))
theorem tL(h:cx.cs=none){t it:Expr}:hJ rc cx elt [⟨t,it,iS,0⟩] sc s=(match cG it with
  |false=>.no
  |true=>(vl (rc.e cx it s)).bind λa s=>(match dh a with
  |none=>.no
  |some xs=>dU (λs=>(vl (rc.e ⟨cx.sc,some sc,cx.fx⟩ elt s)).bind λa s=>.ok [a] s) t (zD rc ⟨cx.sc,some sc,cx.fx⟩ iS) xs {s with cl:=[]})):=by
 obtain⟨a,b,d⟩:=cx;obtain rfl:=h;obtain _|_:=iS<;>rfl
theorem tK(h:cx.cs=none){t it t2 iO:Expr}:hJ rc cx elt [⟨t,it,[],0⟩,⟨t2,iO,[],0⟩] sc s=(match cG it,cG iO with
  |true,true=>(vl (rc.e cx it s)).bind λa s=>(match dh a with
  |none=>.no
  |some xs=>dU (λs=>(vl (rc.e ⟨cx.sc,some sc,cx.fx⟩ iO s)).bind λa s=>(match dh a with
    |none=>.no
    |some ys=>dU (λs=>(vl (rc.e ⟨cx.sc,some sc,cx.fx⟩ elt s)).bind λa s=>.ok [a] s) t2 (λs=>.ok true s) ys s)) t (λs=>.ok true s) xs {s with cl:=[]})
  |_,_=>.no):=by
 obtain⟨a,b,d⟩:=cx;obtain rfl:=h;rfl
theorem vG(e:hJ rc cx elt gens sc s=.ok ys s'):cx.cs=none/\((∃t it iS,gens=[⟨t,it,iS,0⟩])\/∃t it t2 iO,gens=[⟨t,it,[],0⟩,⟨t2,iO,[],0⟩]):=by
 obtain⟨a,b,d⟩:=cx;obtain _|b:=b
 ·refine⟨rfl,?_⟩
  obtain _|⟨⟨t,it,iS,k⟩,l⟩:=gens
  ·injection e
  obtain _|⟨⟨t2,iO,Mn,k2⟩,l⟩:=l
  ·obtain _|_:=iS<;>obtain (_|k)|k:=k<;>first|(injection e;done)|exact .inl (rX _ _ _ rfl)
  ·obtain _|_:=iS
   ·obtain (_|k)|k:=k<;>try(injection e;done)
    obtain _|_:=Mn<;>try(injection e;done)
    obtain (_|k)|k:=k2<;>try(injection e;done)
    obtain _|_:=l
    ·exact .inr (xF _ _ _ _ rfl)
    ·injection e
   ·obtain (_|k)|k:=k<;>first|(injection e;done)|(obtain _|_:=Mn<;>first|(injection e;done)|(obtain (_|k)|k:=k2<;>first|(injection e;done)|(obtain _|_:=l<;>injection e)))
 ·injection e
theorem Ja{t:Expr}(gk:iD sc [⟨t,it,iS,0⟩]=true):g7 sc t=true:=by
 have gk:(match g7 sc t with|true=>true|false=>false)=true:=gk
 generalize g7 sc t=b at gk;obtain _|_:=b
 ·exact dT gk
 ·rfl
theorem Ec{t t2:Expr}(gk:iD sc [⟨t,it,[],0⟩,⟨t2,iO,[],0⟩]=true):g7 sc t=true/\g7 sc t2=true:=by
 have gk:(match g7 sc t with|true=>(match g7 sc t2 with|true=>true|false=>false)|false=>false)=true:=gk
 generalize g7 sc t=b at gk;obtain _|_:=b
 ·exact dT gk
 ·refine⟨rfl,?_⟩
  generalize g7 sc t2=b at gk;obtain _|_:=b
  ·exact dT gk
  ·rfl
theorem Cn(HE:∀c,Rm c d->dz rc d c)(cy:Rm c d)(x:St c s J.heap f bA){t it:Expr}{Q:VP}(fk:dJ c.cx sc.names=true)(gk:iD sc [⟨t,it,iS,0⟩]=true)(lo:fU sc sc.names=true)(hk:Dp sc=true)(dG:c.cx.cs=none)(e:hJ rc c.cx elt [⟨t,it,iS,0⟩] sc s=.ok ys s')(cI:ys.length<=4000)(k:D6 c bA f J s' ys CX Q):
  wA c (comprehension (.ListComp elt [⟨t,it,iS,0⟩] sc pos) sc c.ev p (newList []) (firstAsync [⟨t,it,iS,0⟩]) (firstIter [⟨t,it,iS,0⟩] c.ev) CX) Q uf J:=by
 have e:=(tL dG).symm.trans e
 generalize pl:cG it=zz at e;obtain _|_:=zz
 ·injection e
 refine cC (R.bind_ok e) λa s1 h1 e=>?_;generalize h2:dh a=zz at e;obtain _|xs:=zz
 ·injection e
 exact qi HE cy x dG fk lo hk pl (body:=λla ce env=>wc elt _ env) (Ja gk) (λi la env=>NB ..) (λc' r' hc s bA J f b s' x' e'=>JY (HE c' r') rfl iS s bA J f b s' x' (by rw[hc];exact e')) (λc' r' hc la=>by rw[<-hc];exact wX (HE c' r') elt) h1 h2 e cI k
theorem Cm(HE:∀c,Rm c d->dz rc d c)(cy:Rm c d)(x:St c s J.heap f bA){t it t2 iO:Expr}{Q:VP}(fk:dJ c.cx sc.names=true)(gk:iD sc [⟨t,it,[],0⟩,⟨t2,iO,[],0⟩]=true)(lo:fU sc sc.names=true)(hk:Dp sc=true)(dG:c.cx.cs=none)(e:hJ rc c.cx elt [⟨t,it,[],0⟩,⟨t2,iO,[],0⟩] sc s=.ok ys s')(cI:ys.length<=4000)(k:D6 c bA f J s' ys CX Q):
  wA c (comprehension (.ListComp elt [⟨t,it,[],0⟩,⟨t2,iO,[],0⟩] sc pos) sc c.ev p (newList []) (firstAsync [⟨t,it,[],0⟩,⟨t2,iO,[],0⟩]) (firstIter [⟨t,it,[],0⟩,⟨t2,iO,[],0⟩] c.ev) CX) Q uf J:=by
 have e:=(tK dG).symm.trans e
 have ht:=Ec gk
 generalize pl:cG it=zz at e;generalize XW:cG iO=Xd at e;obtain _|_:=zz
 ·injection e
 obtain _|_:=Xd
 ·injection e
 refine cC (R.bind_ok e) λa s1 h1 e=>?_;generalize h2:dh a=zz at e;obtain _|xs:=zz
 ·injection e
 exact qi HE cy x dG fk lo hk pl (body:=λla ce env=>uP ce iO _ env) ht.1 (λi la env=>NA ..) (λc' r' hc s bA J f b s' x' e'=>by(injection e' with zz yy;subst zz yy);rw[List.forIn_nil];exact aj ⟨rfl,f,bA,.refl x'⟩) (λc' r' hc la=>by have z:=BK (la:=la) (elt:=elt) (sc:=sc) (pos:=pos) (t:=t) (it:=it) (HE c' r') r'.hand (by rw[hc]) ht.2 XW;rw[hc]at z;exact z) h1 h2 e cI k
theorem sZ(HE:∀c,Rm c d->dz rc d c)(cy:Rm c d)(x:St c s J.heap f bA){Q:VP}(fk:dJ c.cx sc.names=true)(gk:iD sc gens=true)(lo:fU sc sc.names=true)(hk:Dp sc=true)(e:hJ rc c.cx elt gens sc s=.ok ys s')(cI:ys.length<=4000)(k:D6 c bA f J s' ys CX Q):
  wA c (comprehension (.ListComp elt gens sc pos) sc c.ev p (newList []) (firstAsync gens) (firstIter gens c.ev) CX) Q uf J:=by
 refine cH (vG e) λdG q=>?_;obtain⟨t,it,iS,rfl⟩|⟨t,it,t2,iO,rfl⟩:=q
 ·exact Cn HE cy x fk gk lo hk dG e cI k
 ·exact Cm HE cy x fk gk lo hk dG e cI k
theorem qd(e:iE rc c.cx elt gens sc s=.ok ov s'):∃ys s1,dJ c.cx sc.names=true/\iD sc gens=true/\fU sc sc.names=true/\Dp sc=true/\hJ rc c.cx elt gens sc s=.ok ys s1/\ys.length<=4000/\ov=.v (.lst ys)/\s'={s1 with cl:=[]}:=by
 unfold iE at e;rcases h1:dJ c.cx sc.names with _|_<;>rw[h1]at e
 ·injection e
 rcases h2:iD sc gens with _|_<;>rw[h2]at e
 ·injection e
 rcases h3:fU sc sc.names with _|_<;>rw[h3]at e
 ·injection e
 rcases h4:Dp sc with _|_<;>rw[h4]at e
 ·injection e
 refine cC (R.bind_ok e) λys s1 h5 e=>?_;unfold fD at e;rcases q:dF ys.length with _|_<;>rw[q]at e
 ·injection e
 injection e with z1 z2
 subst z1 z2;exact MZ ys s1 rfl rfl rfl rfl h5 (fK q) rfl rfl
theorem qc(HE:∀c,Rm c d->dz rc d c)(cy:Rm c d)(x:St c s J.heap f bA):TO c bA J (iE rc c.cx elt gens sc s).noExc (eval (.ListComp elt gens sc pos) c.ev) bA f J:=by
 refine T.noExc λov s' e=>pd (qd e) ?_;rintro ys s1 h1 h2 h3 h4 h5 h6 rfl rfl
 refine sZ HE cy x h1 h2 h3 h4 h5 h6 λf' bF bT la C ce=>cF ce.ns λm hn=>(cf m hn.ns (λh' hs=>?_))
 refine cH (ce.turn (K1.of_same hs)) λp a=>dI (a.lay p ce.fl h6) λC6 p' r Y=>(cz C6 bF p' (.v r))
end
section
variable{P:AP}{C:Addr}
theorem Rm.pins{p:List (Str×Value)}(x:Rm c d):Rm (c.pins p) d:=⟨x.depth,x.units,x.hand⟩
structure ze(rc:f9)(d:Nat):Prop where
 e:∀c:Fm,Rm c d->dz rc d c
 x:DY rc d
 c:∀c:Fm,Rm c (d+1)->nJ rc c
theorem ze.snds(H:ze rc d)(cy:Rm c (d+1)):k9 rc d c:=⟨λp=>H.e _ (cy.le (bx d)).pins,λp=>H.c _ cy.pins,H.c⟩
theorem J'(H:ze rc d)(cy:Rm c (d+2))(x:St c s J.heap f bA):TO c bA J (W2 rc c.cx e s) (eval e c.ev) bA f J:=by
 have H1:=H.snds (cy.le (bx _))
 have r0:Rm c d:=cy.le (by lia)
 have HE:=H1.e.at
 induction e using Expr.casesOn with
 |Constant=>exact Ck x
 |Name=>exact yz x
 |Attribute=>exact yF HE x
 |Subscript=>exact B' H1.e x
 |List=>exact Ge HE x
 |Tuple=>exact CQ HE x
 |Dict=>exact Gj HE x
 |BoolOp=>exact(yE HE _ _ _ s bA f J x).toO
 |UnaryOp op=>obtain _|_:=op<;>first|trivial|exact CS HE x
 |BinOp=>exact CW HE x
 |Compare l o r=>
  match o,r with
  |[_],[_]=>exact Fu HE r0 x
  |[],_=>trivial
  |_::_::_,_=>trivial
  |[_],[]=>trivial
  |[_],_::_::_=>trivial
 |IfExp=>exact CU HE x
 |Call g as k=>obtain _|_:=k<;>first|trivial|exact yD H1 cy x
 |ListComp=>exact qc H.e r0 x
 |JoinedStr l=>
  match l with
  |_::_::_=>exact yW HE x
  |[]=>trivial
  |[_]=>trivial
 |_=>trivial
theorem Ka(H:ze rc d)(cy:Rm c (d+2))(x:St c s J.heap f bA):T c PB (W3 rc c.cx e s) (isTrue e c.ev (eval e c.ev)) bA f J:=by
 have r0:Rm c d:=cy.le (by lia)
 have HE:=H.e c r0
 induction e using Expr.casesOn with
 |UnaryOp op=>obtain _|_:=op<;>first|exact FZ HE x|exact qp HE x rfl
 |BoolOp=>exact F5 HE x
 |IfExp=>trivial
 |Compare l o r=>
  match o,r with
  |[_],[_]=>exact Fv HE r0 x
  |[],_=>trivial
  |_::_::_,_=>trivial
  |[_],[]=>trivial
  |[_],_::_::_=>trivial
 |_=>exact qp HE x rfl
end
theorem wI{a:Addr}{L:List Str}(hn:h.Ns1 a m)(hL:∀k,m k≠none->k∈L):∃o es ep,h.get? a=some o/\o.data=.dict es ep/\es.size<=L.length:=by
 refine rY hn λo es ep e1 e2 e3 e4 e5=>(mK o es ep e1 e2 ?_)
 let nm:DictEntry->Str:=λe=>match e.key with| .str n _=>n|_=>⟨#[]⟩
 have hk:=λe he=>by
  refine iA (e3 e (Array.mem_toList_iff.mp he)) λn t q=>?_;show e.key.isStr (match e.key with| .str n _=>n|_=>⟨#[]⟩)=true
  rw[q];show(n==n)=true;simp
 have nd:(es.toList.map nm).Nodup:=by
  unfold List.Nodup;rw[List.pairwise_map];refine List.Pairwise.imp_of_mem ?_ e4;intro a b ha hb k q;exact k (nm a) (hk a ha) (q▸hk b hb)
 have sub:es.toList.map nm⊆L:=λk YC=>by
  refine bW (List.mem_map.mp YC) ?_;rintro e he rfl;refine hL _ λz=>?_;rw[<-e5]at z;unfold nsFind findBy at z;rw[Option.map_eq_none_iff,<-Array.find?_toList,List.find?_eq_none]at z;exact z e he (hk e he)
 have:=nd.length_le_of_subset sub
 rwa [ah,Array.length_toList]at this
section
variable{x d C:Addr}{ox:Obj}
theorem AB(X:(KF w.params).In J.heap)(K:pQ w.params C)(hf:findIn (KF w.params) (.ref C) n=some none)(e:J.heap.get? x=some ox)(hc:ox.cls=.ref C)(hd:ox.dict=some d)(hn:notCls ox=true)(hm:J.heap.Ns1 d m){L:List Str}(hL:∀k,m k≠none->k∈L)(cI:L.length<=1000)(k:∀h' tk,h'.Ns1 d (λx=>if x=n then some v else m x)->Heap.SameBut d J.heap h'->Q () {J with heap:=h',toks:=tk}):wpAny (Md w) A (setAttr (.ref x) n v) Q E J:=by
 obtain⟨od,I,l⟩:=jn e hc hd hn hm.ns;obtain⟨ZR,Gy,Y0,e1,e2,e3⟩:=id hm;obtain⟨cd,c1,c2⟩:=K.hd;refine set_plain X I K.sa (osa_open X I K.po (by unfold takerIn;rw[hf];rfl) λb=>?_)
 obtain⟨oc,ZP,ZQ,X3⟩:=ox;dsimp only at hc hd;subst hc hd;refine af (aj (af (af (wpAny_loadPart e (af (Looks.here (looks_clsIn X c1) ?_))))));rw[c2];refine aj (af (aj (af ?_)));refine gJ hm e1 λh' o' rI hs rH sh=>?_;obtain⟨o2,YY,YZ,g1,g2,g3⟩:=wI (L:=n::L) rI λk hk=>by
  by_cases q:k=n
  ·subst q;exact .head _
  ·exact .tail _ (hL k (by rwa [au q]at hk))
 rw[rH]at g1;obtain rfl:=oI g1;refine af (wpAny_lookBehind rH (by rw[g2];exact pastItsLine_dict (by rw[aW];rw[aM]at g3;lia)) ?_)
 exact aj (k _ _ rI hs)
end
def PU(fl:Fl)(u:Unit)(h:Heap)(f:Fz)(bA:AP):Prop:=fl=.next
section
variable{P:AP}{a:Str}{C:Addr}
theorem eD.handed(r:eD w h f ov v F):handedIn v=true:=by
 induction r using eD.casesOn with
 |fl r=>exact r.handed
 |k r=>exact r.handed
 |oi=>rfl
theorem lG{l:List (Str×Z)}{k:Str}(e:bD l k≠none):k∈l.map (·.1):=cF (Option.ne_none_iff_exists'.mp e) λv q=>List.mem_map.mpr (cf _ (gc q) rfl)
theorem J5(x:St c s h f bA)(r:eD c.w h f ov v F)(hF:eX c f bA F)(e:Ls ov=some Dj):∃f' F',Go F h f F h f'/\St c s h f' bA/\gp c.w h f' Dj v F'/\eX c f' bA F'/\(∀b,F' b->F b)/\f'.Ok:=by
 have no:∀{F'} {Dj},gp c.w h f Dj v F'->(∀b,F' b->F b)->∃f' F',Go F h f F h f'/\St c s h f' bA/\gp c.w h f' Dj v F'/\eX c f' bA F'/\(∀b,F' b->F b)/\f'.Ok:=λr k=>(xI f _ (.refl ..) x r (λb q=>hF b (k b q)) k x.wd.fok)
 induction r using eD.casesOn with
 |fl r=>
  induction r using gp.casesOn with
  |v r=>obtain rfl:=oI e;exact no (.v r) λY q=>q
  |ol l r k=>obtain rfl:=oI e;exact no (.ol l r k) λY q=>q
  |od ne l r k=>obtain rfl:=oI e;exact no (.od ne l r k) λY q=>q
 |k r=>obtain rfl:=oI e;exact no (.v r) λY q=>q
 | @oi cl fs y d m g G e1 e2 e3 e4 e5 e6 e7=>
  refine bW (Option.map_eq_some_iff.mp e) λav q1 q2=>?_;subst q2;have r0:eD c.w h f _ _ _:=.oi e1 e2 e3 e4 e5 e6 e7;refine xM (nX r0 hF.free x.wd.fok q1) λec le ok nz ny ns r2=>cH (x.lay hF r0.there le ok nz ny ns) λG2 x2=>(xI ec _ G2 x2 (.v r2) (λY q=>q.elim) (λY q=>q.elim) ok)
theorem HQ:assign (.Attribute ob a p) env v=(do let ov<-holding [v] (eval ob env);standAt p.atName;holding [v,ov] (setAttr ov a v);release [v,ov] []):=rfl
theorem jY(k:wpAny M A (eval ob env) (λu s'=>wpAny M A (setAttr u a v) Q E s') E J):wpAny M A (assign (.Attribute ob a p) env v) Q E J:=af (aD (ak k (λu s' z=>af (ay (af (aD (ak z (λY Y y=>wpAny_release y) λY Y y=>y))))) λY Y y=>y))
theorem wH(x:St c s J.heap f bA){b:Expr}{cl:Addr}{fs:LO}(z:bQ c.cx b s=some (n,.oi cl fs))(ok:hU cl a=true)(cI:Nat.ble fs.length 100=true)(r:eD c.w J.heap f ov v F)(hF:eX c f bA F)(hf:Ls ov=some Dj)(nu:cQ c J.heap n u)(k:∀f' bF bT,cD c (λb=>bA b\/F b) f J (s.set n (.oi cl (dy fs a Dj))) f' bF bT->Q () bT):wA c (setAttr u a v) Q E J:=by
 refine i5 (dK z) ?_;rintro⟨p0,rfl⟩ w1 l1 hk dn;refine iZ (x.take w1 l1 rfl dn) λv0 F0 t1 t2 t3 t4 t5 t6=>?_;obtain rfl:=cQ.eq t5 nu;refine iZ (J5 t1 r (λb q=>⟨λz=>(hF b q).1 z.1,(hF b q).2⟩) hf) λec F' G1 x2 r2 YN sub X6=>?_
 have xD:=λb q z=>(hF b q).1 (t4 b z)
 have r0:=t2.go G1 x.wd.fok (λb q=>⟨(hF b q).2.1.z,(hF b q).2.1.y,(hF b q).2.1.sn⟩) λb q=>⟨λz=>xD b z q,(t3 b q).2.1.y,(t3 b q).2.1.sn⟩
 have Gm:eX c ec (λb=>bA b/\¬F0 b) F0:=λb q=>⟨(t3 b q).1,(t3 b q).2.1.go G1 (λz=>xD b z q) (t2.there b q),(t3 b q).2.2⟩
 clear t2;refine xK r0.i ?_;rintro y d m g Gf rfl rfl e1 e2 e3 e4 e5 e6 e7;refine cH (f7 ok) λK RD=>AB x.X K RD e1 rfl rfl rfl e2 (λq hq=>lG λz=>hq (e5 q z)) (by rw[ah];exact aq (aB cI) (by decide)) λh' tk rI hs=>?_
 have k1:=K1.of_same hs
 have Dh:=Gm d (.inr (.inl rfl))
 have up:∀{o} {u} {P},gp c.w J.heap ec o u P->(∀b,P b->b≠d)->gp c.w h' ec o u P:=λr nd=>r.mono (λb z o e=>.inl (k1.keep b (λq=>Dh.2.1.z (q▸z)) o e)) (λb z=>.of_keep (k1.keep b λq=>Dh.2.1.y (q▸z))) (.refl ec) λb q o e=>.inl (k1.keep b (nd b q) o e)
 have G:Go (λb=>b=d) J.heap ec (λb=>b=d) h' ec:=k1.go rfl
 have fr:eI ec λb=>b=d:=λb q=>by subst q;exact⟨Dh.2.1.z,Dh.2.1.y,Dh.2.1.sn⟩
 have nm:=by
  refine cC x2.fr λmm FF q1 Y=>q1.name G X6 fr x2.free (λb q z=>Dh.1 (z▸q)) t5
 have A6:∀b,(b=y\/b=d\/∃k,(bD (dy fs a Dj) k).isSome=true/\(if k=a then F' b else(bD fs k).isSome=true/\Gf k b))->F' b\/(b=y\/b=d\/∃n,(bD fs n).isSome=true/\Gf n b):=λb q=>by
  obtain q|q|⟨k,q1,q2⟩:=q
  ·exact .inr (.inl q)
  ·exact .inr (.inr (.inl q))
  ·split at q2
   ·exact .inl q2
   ·exact .inr (.inr (.inr ⟨k,q2⟩))
 have x4:=(x2.one k1 Dh.1 Dh.2.1 Dh.2.2).put' nm (eD.field (k1.keep y (λq=>e3 q.symm) _ e1) rI e3 (λk ne=>au ne) (λn o l=>⟨(e4 n o l).1,λY=>up (e4 n o l).2 λb q=>(e6 n b q).2⟩) e5 (λn b Y q=>e6 n b q) (λn k b Y Y=>e7 n k b) (aA rfl) (up r2 λb q z=>xD b (sub b q) (.inr (.inl z))) λb q=>⟨λz=>xD b (sub b q) (.inl z),λz=>xD b (sub b q) (.inr (.inl z)),λk Y i z=>xD b (sub b q) (.inr (.inr (cf k i z)))⟩) (λb q=>by
  obtain z|z:=A6 b q
  ·exact YN b z
  ·exact Gm b z) (dT)
 refine k ec _ _ ⟨x4,((G1.more λb q=>.inr q).trans (k1.go (.inl (t4 d (.inr (.inl rfl))))) λb q=>.inl q).less λb q=>?_,rfl,rfl⟩
 obtain q|q:=q
 ·exact .inr (.inl (.inl q.1))
 ·obtain z|z:=A6 b q
  ·exact .inr (.inl (.inr (sub b z)))
  ·exact .inr (.inl (.inl (t4 b z)))
theorem yc(x:St c s J.heap f bA){b:Expr}{cl:Addr}{fs:LO}(z:bQ c.cx b s=some (n,.oi cl fs))(ok:hU cl a=true)(cI:Nat.ble fs.length 100=true)(r:eD c.w J.heap f ov v F)(hF:eX c f bA F)(hf:Ls ov=some Dj)(k:∀f' bF bT,cD c (λb=>bA b\/F b) f J (s.set n (.oi cl (dy fs a Dj))) f' bF bT->Q () bT):wA c (assign (.Attribute b a p) c.ev v) Q E J:=pd (x.mineP z) λv0 F0 Y nm Y Y Y Y Y kk=>jY (kk (wH x z ok cI r hF hf nm k))
end
section
variable{P:AP}{a:Str}{C:Addr}
theorem ym{t:Tok}(hl:fG J.heap la vs)(h0:0<=i)(UK:i<2^63)(lt:i<(vs.length:Int))(q:∀h',fG h' la (vs.set i.toNat v)->Heap.SameBut la J.heap h'->Q () {J with heap:=h'}):wpAny (Md w) A (setItem (.ref la) (.int i t) v) Q E J:=by
 refine cF (id hl) λm e=>?_;have hL:=hl.list;unfold setItem
 try with_reducible refine aD ?_
 first|refine af _|skip
 refine af (wpAny_sequenceKey hL.typeIs (by decide) ?_)
 refine af (wpAny_callSpecial?_slot hL.typeIs slot_list_setitem
  (wpAny_call_entry slot_list_setitem hL.typeIs entry_list_setitem ?_ (args_list_setitem _ _ _)))
 show wpAny _ _ (Builtin.List.listSubscript? _>>=_) _ _ J
 refine af (wpAny_listSubscript_int (fitsIndex_of h0 UK) ?_);refine cF (Int.eq_ofNat_of_zero_le h0) ?_;rintro k rfl;have hk:k<vs.length:=by lia
 have Ys:vs.toArray[k]? =some vs[k]:=by simp[hk]
 refine af (af (wpAny_seqItemAt e rfl (aj ?_)));rw[Ys];have l2:=IsL.update e λxs=>xs.setIfInBounds k v
 have e2:vs.toArray.setIfInBounds k v=(vs.set k v).toArray:=by simp
 rw[e2]at l2;refine af (wpAny_setSeqItemAt e rfl ?_);first
  |exact af _
  |exact aj ⟨.none,rfl,aj (q _ ⟨_,l2⟩ (aI ..))⟩
theorem sR{t:Tok}(hl:fG J.heap la vs)(lt:k<vs.length)(ZX:vs.length<=4000)(q:∀h',fG h' la (vs.set k v)->Heap.SameBut la J.heap h'->Q () {J with heap:=h'}):wpAny (Md w) A (setItem (.ref la) (.int (k:Int) t) v) Q E J:=
 ym hl (by lia) (by lia) (by lia) q
theorem dw.set{a:AV}(k)(q:dw w h f xs vs)(r:VR w h f a v):dw w h f (xs.set k a) (vs.set k v):=by
 induction xs generalizing vs k with
 |nil=>rw[q.inv_nil];exact .nil
 |cons b l ih=>
  obtain⟨u,us,rfl,q1,q2⟩:=q.inv_cons;cases k with
  |zero=>exact .cons r q2
  |succ k=>exact .cons q1 (ih k q2)
theorem pV{a:AV}(h:jO xs i a=some ys):∃k:Nat,i=(k:Int)/\k<xs.length/\ys=xs.set k a:=by
 obtain n|n:=i
 ·have h:(match Nat.blt n xs.length with|true=>some _|false=>none)=some ys:=h
  generalize q:Nat.blt n xs.length=b at h;induction b using i8 with
  |true=>exact ej n rfl (aB q) (oI h).symm
  |false=>exact c8 h
 ·exact c8 h
theorem BH(nd:(iR.map (·.1)).Nodup)(hn:∀k,bD es k=none->valueAt iR k=none):iR.length<=es.length:=by
 have sub:iR.map (·.1)⊆es.map _:=λk hk=>by
  refine lG λz=>?_;have:=hn k z;unfold valueAt at this;rw[Option.map_eq_none_iff,List.find?_eq_none]at this;refine bW (List.mem_map.mp hk) ?_;rintro p hp rfl;exact this p hp (by simp)
 have:=nd.length_le_of_subset sub
 rwa [ah,ah]at this
theorem tA(k)(v)(x:Str)(iR):(valueAt (iR.map λkv=>if kv.1=k then(kv.1,v)else kv) x)=if x=k then(valueAt iR x).map (λY=>v)else valueAt iR x:=by
 induction iR with
 |nil=>by_cases e:x=k;rw[aA e];rfl;rw[au e];rfl
 |cons p l ih=>
  obtain⟨y,u⟩:=p;have e:(if y=k then(y,v)else(y,u))=(y,if y=k then v else u):=by by_cases e:y=k;rw[aA e,aA e];rw[au e,au e]
  show valueAt ((if y=k then(y,v)else(y,u))::l.map _) x=_
  rw[e,dY,dY,ih];by_cases q:y=x
  ·subst q;rw[aA rfl,aA rfl];by_cases z:y=k;rw[aA z,aA z];rfl;rw[au z,au z]
  ·rw[au q,au q]
theorem tC{k:Str}:valueAt (iR++[(k,v)]) x=(valueAt iR x).or (if x=k then some v else none):=by
 induction iR with
 |nil=>
  rw[List.nil_append,dY];by_cases e:k=x
  ·rw[aA e,aA e.symm];rfl
  ·rw[au e,au λq=>e q.symm];rfl
 |cons p l ih=>
  obtain⟨y,u⟩:=p;rw[List.cons_append,dY,dY,ih];by_cases q:y=x
  ·rw[aA q,aA q];rfl
  ·rw[au q,au q]
theorem oC(iR)(k:Str)(v):valueAt (stored iR k v)=λx=>if x=k then some v else valueAt iR x:=by
 funext x
 unfold stored
 split
 ·rename_i q
  rw[tA];by_cases e:x=k
  ·subst e
   refine bW (List.any_eq_true.mp q) λp hp e2=>eE (valueAt iR x) (λz=>?_) (λu z=>rfl)
   unfold valueAt at z;rw[Option.map_eq_none_iff,List.find?_eq_none]at z;exact absurd e2 (z p hp)
  ·rw[au e,au e]
 ·rename_i q
  rw[tC];by_cases e:x=k
  ·subst e
   refine eE (valueAt iR x) (λz=>rfl) λu z=>bW (Option.map_eq_some_iff.mp z) λp hp Y=>?_
   exact absurd (List.any_eq_true.mpr (cf p (List.mem_of_find?_eq_some hp) (List.find?_some hp))) q
  ·rw[au e,au e]
   cases valueAt iR x<;>rfl
theorem x9{k:Str}{a:Z}{l:List (Str×Z)}(m:x∈(dy l k a).map (·.1)):x=k\/x∈l.map (·.1):=by
 induction l with
 |nil=>
  obtain z|z:=List.mem_cons.mp m
  ·exact .inl z
  ·exact nomatch z
 |cons p l ih=>
  have m:x∈(match dM p.1 k with|true=>(p.1,a)::l|false=>(p.1,p.2)::dy l k a).map _:=m
  generalize dM p.1 k=b at m;induction b using i8 with
  |true=>exact .inr m
  |false=>
   obtain z|z:=List.mem_cons.mp m
   ·exact .inr (z▸.head _)
   ·exact(ih z).imp_right (.tail _)
theorem vk{k:Str}{a:Z}{l:List (Str×Z)}(nd:(l.map (·.1)).Nodup):((dy l k a).map (·.1)).Nodup:=by
 induction l with
 |nil=>exact List.nodup_cons.mpr ⟨nofun,List.nodup_nil⟩
 |cons p l ih=>
  have n2:=List.nodup_cons.mp (nd)
  show((match dM p.1 k with|true=>(p.1,a)::l|false=>(p.1,p.2)::dy l k a).map _).Nodup
  generalize q:dM p.1 k=b;induction b using i8 with
  |true=>exact nd
  |false=>exact List.nodup_cons.mpr ⟨λm=>(x9 m).elim (iC.mp q) n2.1,ih n2.2⟩
theorem ix.putL{k:Str}{a:AV}(sf:b=true->ef k=false)(r:VR w h f a v){l:LE}(nd:(l.map (·.1)).Nodup)(q:ix w h f b l m):ix w h f b (Mine.dy l k a) (λx=>if x=k then some v else m x):=by
 induction l with
 |nil=>exact .cons sf (aA rfl) r .nil
 |cons p l ih=>
  obtain⟨u,hc,hn,q1,q2⟩:=ix.inv_cons q;rw[aP,List.nodup_cons]at nd;show ix w h f b (match dM p.1 k with|true=>(p.1,a)::l|false=>(p.1,p.2)::Mine.dy l k a) _
  generalize e:dM p.1 k=zz;induction zz using i8 with
  |true=>
   have e:=cR.mp e
   refine .cons (λz=>e▸sf z) (aA e) r (q2.congr λn i=>au λz=>?_)
   refine cF (Option.isSome_iff_exists.mp i) λv' e'=>nd.1 (List.mem_map.mpr (cf _ (gc e') (z.trans e.symm)))
  |false=>exact .cons hc ((au (iC.mp e)).trans hn) q1 (ih nd.2 q2)
theorem Cf{k:Str}{t:Tok}(hm:DM w J.heap da es m)(hn:∀k,bD es k=none->m k=none)(cI:es.length<=4000)(q:∀h' tk,DM w h' da (dy es k av) (λx=>if x=k then some v else m x)->Heap.SameBut da J.heap h'->Q () {J with heap:=h',toks:=tk}):wpAny (Md w) A (setItem (.ref da) (.str k t) v) Q E J:=by
 refine cH hm ?_;rintro⟨iR,hd,rfl⟩ Yf;have nd:(iR.map (·.1)).Nodup:=by refine nM hd λY Y Y Y Y Y Y Y nd=>?_;exact nd
 have l:=BH nd hn
 refine wpAny_setItem_pairs (hsz:=by rw[aW];lia) (strKind_is _ _ _ _) hd λh' YH hs=>q h' _ ⟨(cf _ YH ?_),vk Yf⟩ hs
 exact(oC iR k v).symm
end
section
variable{P:AP}{a:Str}{C:Addr}
theorem Mi(x:St c s h f bA)(r:eD c.w h f ov v F)(hF:eX c f bA F)(e:uq ov=some av):∃ec,St c s h ec bA/\Go (λb=>bA b\/F b) h f bA h ec/\VR c.w h ec av v:=xM (nX r hF.free x.wd.fok e) λec le ok nz ny ns r2=>cH (x.lay hF r.there le ok nz ny ns) λG x2=>(ej ec x2 ((G.more λb q=>.inr q).less λb q=>.inr (.inl (.inl q))) r2)
theorem AD(i)(v):∃r:Value->Value->LV,∀ob p env,assign (.Subscript ob i p) env v=(do let ov<-holding [v] (eval ob env);let iv<-holding [v,ov] (eval i env);standAt p;holding [v,ov,iv] (setItem ov iv v);release (r ov iv) []):=⟨_,λY Y Y=>rfl⟩
def L6(i:Expr)(v ov iv:Value):Sem Unit:=release ((AD i v).choose ov iv) []
theorem vN{i:Expr}:assign (.Subscript ob i p) env v=(do let ov<-holding [v] (eval ob env);let iv<-holding [v,ov] (eval i env);standAt p;holding [v,ov,iv] (setItem ov iv v);L6 i v ov iv):=(AD i v).choose_spec ob p env
def DA(p:Pos)(i:Expr)(v ov iv:Value):Sem Unit:=standAt p>>=λY=>setItem ov iv v>>=λY=>L6 i v ov iv
theorem pR{i:Expr}(k:wpAny M A (eval ob env) (λu s'=>wpAny M A (eval i env>>=λz=>DA p i v u z) Q E s') E J):wpAny M A (assign (.Subscript ob i p) env v) Q E J:=by
 rw[vN];refine af (aD (ak k (λu s' z=>?_) λY Y y=>y))
 intro Γ q mZ;have:=z Γ q mZ;unfold DA at this;rw[bg]at this⊢;rw[Sem.wp_holding];refine Sem.wp_mono M Γ _ (λa p' HU y=>?_) (λY Y Y y=>y) q s' this
 rw[bg]at y⊢;refine Sem.wp_mono M Γ _ (λa p' HU y=>?_) (λY Y Y y=>y) p' HU y
 rw[bg]at y⊢;rw[Sem.wp_holding];exact y
theorem wD{i:Expr}(k:wpAny M A (setItem u z v) Q E J):wpAny M A (DA p i v u z) Q E J:=
 af (ay (af (ak k (λY Y y=>wpAny_release y) λY Y y=>y)))
theorem xQ(H:fE rc d c)(x:St c s J.heap f bA){i:Expr}(z:bQ c.cx (.Name n p0) s=some (n,.ol K6))(rv:VR c.w J.heap f wv v):
  T c PU ((vl (rc.e c.cx i s)).bind λk s=>(match bQ c.cx (.Name n p0) s,k with
    |some (x,.ol xs),.int k=>(match jO xs k wv with|some ys=>.ok .next (s.set x (.ol ys))|none=>.no)
    |_,_=>.no)) (assign (.Subscript (.Name n p0) i p) c.ev v) bA f J:=by
 refine pd (x.mineP z) λv0 F r nm Y w lk hk dn kk=>mM r.ol_at ?_;rintro la Q4 rfl l0 r0 WC _
 refine T.unpin (T.via ((H _).v (x.pinned nm)) (λQ E y=>pR (kk (af y))) λk bK u bJ bU bE dZ bM cj=>?_) (λY Y Y Y Y q=>q)
 rcases z':bQ c.cx _ bK with _|⟨n',o⟩
 ·trivial
 obtain _|_|xs|_|_:=o<;>try trivial
 obtain rfl:=fA z';induction k using AV.casesOn with
 |int k'=>
  refine cF cj.i ?_;rintro t rfl;dsimp only;rcases q:jO xs k' wv with _|ys
  ·trivial
  refine dI (pV q) ?_;rintro j rfl lt rfl;refine nN (lI bM.st bM.st.the z' rfl) λvs l r ln kt=>?_;have lv:=r.length;refine wD (sR l (by lia) (by lia) λh' l' hs=>?_)
  refine cF (kt h' bJ.toks _ _ hs l' (r.set j (rv.go bM.go x.wd.fok x.free)) (by rw[List.length_set];exact ln)) λjK p2=>(cz bU jK p2 rfl)
 |_=>trivial
theorem ye{cl:Addr}{fs:LO}(z:gu c.cx (.Attribute ob n p) s=some (y,cl,fs,w0)):eu ob=true/\bQ c.cx ob s=some (y,.oi cl fs)/\hU cl n=true/\bD fs n=some w0:=by
 have z:(match eu ob,bQ c.cx ob s with
  |true,some (x,.oi c fs)=>(match hU c n,bD fs n with|true,some w=>some (x,c,fs,w)|_,_=>none)
  |_,_=>none)=some (y,cl,fs,w0):=z
 generalize eu ob=b at z⊢;generalize bQ c.cx ob s=o at z⊢;obtain _|_:=b
 ·exact c8 z
 obtain _|⟨x,o⟩:=o
 ·exact c8 z
 obtain _|_|_|_|⟨i9,oK⟩:=o<;>try exact c8 z
 have z:(match hU i9 n,bD oK n with|true,some w=>some _|_,_=>none)=some _:=z
 rcases ok:hU i9 n with _|_<;>rw[ok]at z
 ·exact c8 z
 rcases l:bD oK n with _|w<;>rw[l]at z
 ·exact c8 z
 injection z with z;injection z with z1 z;injection z with z2 z;injection z with z3 z4
 subst z1 z2 z3 z4;exact qL rfl rfl ok l
theorem qa(H:fE rc d c)(x:St c s J.heap f bA){i:Expr}{cl:Addr}{fs:LO}(z:gu c.cx (.Attribute ob n q) s=some (y,cl,fs,w0)){g:AV->S->R Fl}(hy:∀{k} {bK} {u fv} {bJ} {bU} {bE G:AP},Go bA J.heap f bE bJ.heap bU->gp c.w bJ.heap bU w0 fv G->VR c.w bJ.heap bU k u->(∀b,G b->¬bU.z b/\¬bU.y b)->g k bK=.no\/∃w1,bD bK.loc y=none/\g k bK=.ok .next (bK.set y (.oi cl (dy fs n w1)))/\∃la,(∀b,G b↔b=la)/\
   ∀{E:VP} {Q:UP},(∀h' tk,Heap.SameBut la bJ.heap h'->(∀{a} {v},VR c.w bJ.heap bU a v->VR c.w h' bU a v)->gp c.w h' bU w1 fv (λb=>b=la)->Q () {bJ with heap:=h',toks:=tk})->wA c (setItem fv u v) Q E bJ):
  T c PU ((vl (rc.e c.cx i {s with loc:=eP s.loc y})).bind g) (assign (.Subscript (.Attribute ob n q) i p) c.ev v) bA f J:=by
 refine lg (ye z) λb0 q0 ok l=>i5 (dK q0) ?_;rintro⟨p0,rfl⟩ w1 l1 hk dn
 refine iZ (x.take w1 l1 rfl dn) λv0 F0 t1 t2 t3 t4 t5 t6=>xK t2.i ?_;rintro xx d m gf Gf rfl rfl e1 e2 e3 e4 e5 e6 e7
 refine cH (e4 n w0 l) λg1 g2=>cH (f7 (P:=c.w.params) ok) λK hf=>?_
 refine T.unpin (T.from (J:={J with toks:=J.toks+1}) (T.bindF (k:=λu=>DA p i v (gf n) u) ((H _).v (t1.pinned t5)) (λb q=>q.1) λk bK u bJ bU bE dZ bM cj=>?_) (Go.refl bA J.heap f) (λY q=>.inl q) ⟨rfl,rfl⟩ λQ E z=>?_) (λY Y Y Y Y q=>q)
 ·have hk:=λb q=>bM.go.hard (t3 b q).1 (t3 b q).2.1.y (t3 b q).2.1.sn
  have Gm:eX (c.hold y (.ref xx)) bU bE (λb=>b=xx\/b=d\/∃n,(bD fs n).isSome=true/\Gf n b):=(eX.pins t3).go bM.go (λb q=>(t3 b q).1) (λb q=>by
   obtain rfl|rfl|⟨k,hs,q⟩:=q
   ·exact aF e1
   ·exact e2.ns.lt
   ·refine cF (Option.isSome_iff_exists.mp hs) λo ho=>(e4 k o ho).2.there b q) λb q=>.inr (bM.go.no b q)
  have Lv:∀k o,bD fs k=some o->m k=some _/\gp c.w bJ.heap bU o _ _:=λk o q=>⟨(e4 k o q).1,(e4 k o q).2.mono (bM.go.hz t1.wd.fok t1.free) (bM.go.sy t1.free) bM.go.le λb hb=>hk b (.inr (.inr (cf k (by rw[q];rfl) hb)))⟩
  have C1:∀b,Gf n b->(b=xx\/b=d\/∃n,(bD fs n).isSome=true/\Gf n b):=λb q=>.inr (.inr (cf n (by rw[l];rfl) q))
  obtain ez|⟨w1,lk,ez,la,QK,hs⟩:=hy (bM.go.more λb q=>q.1) (Lv n w0 l).2 cj (λb q=>⟨(Gm b (C1 b q)).2.1.z,(Gm b (C1 b q)).2.1.y⟩)
  ·exact(cf bE (λb q=>(bM.go.no b q).imp_left And.left) (by rw[ez];trivial))
  ·have Dn:=(QK la).mpr rfl
   have K9:=Gm la (C1 la Dn)
   refine(cf (λb=>bE b\/(b=xx\/b=d\/∃n,(bD fs n).isSome=true/\Gf n b)) (λb q=>?_) ?_)
   ·obtain q|q:=q
    ·exact(bM.go.no b q).imp_left And.left
    ·exact .inl (t4 b q)
   ·rw[ez]
    refine wD (hs λh' tk Yw vr fv=>?_);have k1:=K1.of_same Yw;have x3:=bM.st.one k1 K9.1 K9.2.1 K9.2.2;have Ye:∀k b,k≠n->Gf k b->b≠la:=λk b ne q z=>ne (e7 k n b q (z▸Dn))
    have r3:=eD.field (k1.keep xx (λq=>(e6 n la Dn).1 q.symm) _ ((hk xx (.inl rfl)).exact e1 (by simp))) ((vZ.hard (hk d (.inr (.inl rfl))) e2).at (k1.keep d λq=>(e6 n la Dn).2 q.symm)) e3 (λk ne=>rfl) (λk o q=>⟨(Lv k o q).1,λne=>(λr nd=>r.mono (λb z o e=>.inl (k1.keep b (λq=>K9.2.1.z (q▸z)) o e)) (λb z=>.of_keep (k1.keep b λq=>K9.2.1.y (q▸z))) (.refl bU) λb q o e=>.inl (k1.keep b (nd b q) o e)) (Lv k o q).2 λb hb=>Ye k b ne hb⟩) e5 (λk b Y q=>e6 k b q) (λk j b Y Y=>e7 k j b) g1 fv λb q=>by
     subst q;exact⟨(e6 n _ Dn).1,(e6 n _ Dn).2,λk ne Y z=>ne (e7 k n _ z Dn)⟩
    have sub:∀b,(b=xx\/b=d\/∃k,(bD (dy fs n w1) k).isSome=true/\(if k=n then b=la else(bD fs k).isSome=true/\Gf k b))->(b=xx\/b=d\/∃n,(bD fs n).isSome=true/\Gf n b):=λb q=>by
     obtain q|q|⟨k,q1,q2⟩:=q
     ·exact .inl q
     ·exact .inr (.inl q)
     ·split at q2
      ·exact q2▸C1 la Dn
      ·exact .inr (.inr ⟨k,q2⟩)
    have x4:=x3.put lk x3.the r3 (λb q=>Gm b (sub b q)) (dT)
    refine(cz bU _ ⟨x4,(k1.go (.inr (C1 la Dn))).less λb q=>?_,rfl,rfl⟩ rfl);exact .inr (.inl (q.imp_right (sub b)))
 ·refine pR<|af (bw (t6 rfl (fZ (gg x.X K hf e1 rfl rfl rfl e2.ns g1 g2.handed z))) (d7 dn (by decide+kernel)))
end
section
variable{P:AP}{a:Str}{C:Addr}
theorem xW(x:St c s h f bA)(yd:f.y da)(hm:h.Ns1 da m)(hn:h'.Ns1 da λk=>if k=n then some v else m k)(hs:Heap.SameBut da h h')(sf:ef n=true)(hv:handedIn v=true):St c s h' f bA/\Go bA h f bA h' f:=by
 have Xz:jx h h' da:=λm0 e0=>by
  have:=vZ.agree e0 hm
  subst this;refine(ej _ hn (λk hk=>au (λz=>by rw[z,sf]at hk;exact tZ hk)) (λk u q1 q2=>?_))
  by_cases z:k=n
  ·exact(cf v (aA z) hv)
  ·exact(cf u ((au z).trans q1) q2)
 have kp:∀b,b≠da->∀o,h.get? b=some o->h'.get? b=some o:=λb ne o e=>(hs.2 b ne).trans e
 have G:∀o,Go o h f o h' f:=λo=>⟨λb nb=>by
  by_cases e:b=da
  ·subst e;exact⟨λY=>Xz,λny Y=>absurd yd ny⟩
  ·exact .of_keep (kp b e),.refl f,λY q=>.inl q,λY q=>.inl q,λY q=>.inl q,λY q=>.inl q,aR hs.1.symm⟩
 have wd:Wd c.w c.sb h' f s.ss:=by
  refine⟨x.wd.base,λb ob p e=>kp b (λq=>?_) ob (x.wd.stat b ob p e),aq x.wd.sbz (aR hs.1.symm),x.wd.fok,λb q=>hs.1.symm▸x.wd.zl b q,x.wd.snl,?_⟩
  ·have:=aF e;rw[q]at this;exact absurd this (Nat.not_lt.mpr (x.wd.snl da (.inr yd)))
  ·have sn:=x.wd.seen
   refine eE s.ss (λDm=>by rw[Dm]at sn;exact sn) λl Dm=>?_
   rw[Dm]at sn;refine jN sn ?_;rintro b vs r1 ⟨ob,e⟩ r3 r4;exact(kf b vs r1 ⟨ob,kp _ (λq=>x.wd.fok.ys da yd (q▸(r1 b).mpr rfl)) _ e⟩ (r3.go (G λY=>False) x.wd.fok λY q=>q.elim) r4)
 exact⟨x.frame (G λY=>False) (λY q=>q.elim) (λY Y q=>q) (λY Y Y Y q=>q) wd,G bA⟩
theorem T.more{P:QT Z β}{r:R Z}(x:T c P r t bA f J)(ho:∀b,bA b->o b):T c P r t o f J:=
 T.from x ((Go.refl bA J.heap f).more ho) (λb q=>.inl (ho b q)) (.refl _) λY Y z=>z
theorem BN(h:ef n=true):n∈(["shared","loose","visible","current"]:List Str):=wN h
set_option tactic.hygienic true in
theorem kN(H:dz rc d c)(x:St c s J.heap f bA){b:Expr}(hv:handedIn v=true):
  T c PU ((vl (rc.e c.cx b s)).bind λa s=>(match a with
   | .ins c fs=>(match hU c n,ef n,Nat.ble fs.length 100 with|true,true,true=>.ok .next s|_,_,_=>.no)
   |_=>.no)) (assign (.Attribute b n p) c.ev v) bA f J:=by
 refine T.via (k:=λu=>setAttr u n v) (H.v (e:=b) x) (λQ E z=>jY z) λa bK u bJ bU bE dZ bM cj=>?_
 split
 ·rename_i cl fs
  split
  ·rename_i ok sf cI
   have cj:VR c.w bJ.heap bU (.ins cl fs) u:=cj
   refine Aw cj.inv_ins ?_;rintro y dd mm ox rfl a1 a2 a3 a4 a5 a6 a7 a8 a9 K3;refine cH (f7 (P:=c.w.params) ok) λK hf=>?_;refine AB bM.st.X K hf a3 a4 a5 a6 a7 (L:=(["shared","loose","visible","current"]:List Str)++fs.map (·.1)) (λk hk=>?_) (by rw[aw,ah];have:=aB cI;show 4+_<=1000;lia) λh' tk rI hs=>?_
   ·refine fS (ef k) (λsk=>?_) (λsk=>List.mem_append_left _ (BN sk))
    exact List.mem_append_right _ (lG λz=>hk (K3 k sk z))
   ·refine cH (xW bM.st a2 a7 rI hs sf hv) λx2 G=>?_
    exact(cz bU bE ⟨x2,G,rfl,rfl⟩ rfl)
  ·trivial
 ·trivial
theorem mf:∀{xs} {as:LA} {s s'} {fl},f6 xs as s=.ok fl s'->xs.length=as.length/\fl=.next
 |[],[],_,_,_,h=>by(injection h with zz yy;subst zz yy);exact⟨rfl,rfl⟩
 |_::xs,_::as,s,s',fl,h=>by
  have h:f6 xs as _=.ok fl s':=h
  refine cH (mf h) λh1 h2=>⟨aN _ h1,h2⟩
 |[],_::_,_,_,_,h=>by injection h
 |_::_,[],_,_,_,h=>by injection h
theorem mh:∀{xs} {as:LA} {s s'} {m},f6 xs as s=.exc m s'->False
 |[],[],_,_,_,h=>by injection h
 |_::xs,_::as,s,s',m,h=>by
  have h:f6 xs as _=.exc m s':=h
  exact mh h
 |[],_::_,_,_,_,h=>by injection h
 |_::_,[],_,_,_,h=>by injection h
theorem kJ(hh:c.A.handled=none)(x:St c s J.heap f bA)(hp:∀p∈c.pin,dQ c.cx p.1=true){xs:List Str}{a:AV}(hx:h9 ts=some xs)(hb:fL c.cx s xs=true)(r:VR c.w J.heap f a v)(ha:a=.lst as\/a=.tup as):
  T c PU (f6 xs as s) (assign (.Tuple ts k p) c.ev v) bA f J:=by
 generalize e:f6 xs as s=zz;induction zz using iw with
 |no=>trivial
 |exc m s1=>exact(mh e).elim
 |ok fl s1=>
  refine cH (mf e) λh1 h2=>?_;subst h2;refine T.ret<|af (ay ?_);refine cH (lP (env:=c.ev) hx) λl1 l2=>?_;unfold unpack;rw[l1,l2,h1];refine af (aD (jH hh x.wd r ha λvs h' tk kp sz rs=>?_));have x1:=x.keeps kp sz;refine By hx x1 hb hp rs e λY bT bF po=>(cz f bF ?_ rfl)
  have p0:cD c bA f J s f bA {J with heap:=h',toks:=tk}:=⟨x1,.keeps kp sz,rfl,rfl⟩
  exact po.up p0.go (λY q=>.inl q) p0.rest
theorem jQ(hp:∀p∈c.pin,dQ c.cx p.1=true)(hb:cn c.cx n s=true):∀p∈c.pin,p.1≠n:=λq hq z=>by
 have:=hp q hq
 rw[z]at this;unfold cn at hb;rw[this]at hb;rcases dG:c.cx.cs with _|_<;>rw[dG]at hb<;>exact dT hb
theorem ix.one'{l:LE}(k:K1 I h h')(hz:¬f.z I)(hy:¬f.y I)(r:ix w h f b l m):ix w h' f b l m:=r.mono (λb z o e=>.inl (k.keep b (λq=>hz (q▸z)) o e)) (λb y=>.of_keep (k.keep b λq=>hy (q▸y))) (.refl f) λY Y=>rfl
theorem CN(x:St c s J.heap f bA)(hp:∀p∈c.pin,dQ c.cx p.1=true)(r:eD c.w J.heap f ov v F)(hF:eX c f bA F):T c PU (bR rc c.cx (.Name y p) ov s) (assign (.Name y p) c.ev v) (λb=>bA b\/F b) f J:=by
 show T c PU (match cn c.cx y s,kc ov with|true,false=>.ok .next _|_,_=>.no) _ _ _ _
 rcases hb:cn c.cx y s with _|_<;>try trivial
 rcases hk:kc ov with _|_<;>try trivial
 exact T.ret (sx x (jQ hp hb) hb r hF (ky hk) λbT bF po=>(cz f bF po rfl))
theorem CO(H:fE rc d c)(x:St c s J.heap f bA){b:Expr}(r:eD c.w J.heap f ov v F)(hF:eX c f bA F):T c PU (bR rc c.cx (.Attribute b nm p) ov s) (assign (.Attribute b nm p) c.ev v) (λb=>bA b\/F b) f J:=by
 unfold bR;dsimp only;refine eE (bQ c.cx b s) (λz=>(kN H.at x r.handed).more λb q=>.inl q) λyo z=>?_
 obtain⟨y,o⟩:=yo;induction o using rD with
 |oi cl fs=>
  dsimp only;rcases ok:hU cl nm with _|_<;>try trivial
  rcases hf:Ls ov with _|_<;>try trivial
  rcases cI:Nat.ble fs.length 100 with _|_<;>try trivial
  exact T.ret (yc x z ok cI r hF hf λf' bF bT po=>(cz f' bF po rfl))
 |_=>exact(kN H.at x r.handed).more λb q=>.inl q
set_option tactic.hygienic true in
theorem F9(H:fE rc d c)(x:St c s J.heap f bA){i:Expr}{w y:_}{cl:Addr}{fs:LO}(z:gu c.cx (.Attribute ob nm q) s=some (y,cl,fs,.ol xs))(rv:VR c.w J.heap f w v):T c PU ((vl (rc.e c.cx i {s with loc:=eP s.loc y})).bind λk s=>(match bD s.loc y,k with
    |none,.int k=>(match jO xs k w with|some ys=>.ok .next (s.set y (.oi cl (dy fs nm (.ol ys))))|none=>.no)
    |_,_=>.no)) (assign (.Subscript (.Attribute ob nm q) i p) c.ev v) bA f J:=by
 refine qa H x z λ{k bK u fv bJ bU bE Gf} G1 g cj nz=>?_;have Q':=rv.go G1 x.wd.fok x.free;clear rv;rcases lk:bD bK.loc y with _|_<;>try exact .inl rfl
 obtain _|_:=k<;>try exact .inl rfl
 rename_i k
 dsimp only;rcases q:jO xs k w with _|_<;>try exact .inl rfl
 refine dI (pV q) ?_;rintro j rfl lt rfl;refine mM g.inv_ol ?_;rintro la vs rfl l1 r1 n1 hG;refine cF cj.i ?_;rintro t rfl;have lv:=r1.length;have nz:=nz la ((hG la).mpr rfl);exact .inr ⟨_,rfl,rfl,la,hG,λ{E Q} kk=>sR l1 (by lia) (by lia) λh' l' hs=>kk h' bJ.toks hs (λr=>r.one (K1.of_same hs) nz.1 nz.2) (.ol l' ((r1.set j Q').one' (K1.of_same hs) nz.1 nz.2) (by rw[List.length_set];exact n1))⟩
set_option tactic.hygienic true in
theorem Ga(H:fE rc d c)(x:St c s J.heap f bA){i:Expr}{w y:_}{cl:Addr}{fs:LO}(z:gu c.cx (.Attribute ob nm q) s=some (y,cl,fs,.od es))(rv:VR c.w J.heap f w v):T c PU ((vl (rc.e c.cx i {s with loc:=eP s.loc y})).bind λk s=>(match bD s.loc y,k,dF es.length with
    |none,.str k,true=>.ok .next (s.set y (.oi cl (dy fs nm (.od (dy es k w)))))
    |_,_,_=>.no)) (assign (.Subscript (.Attribute ob nm q) i p) c.ev v) bA f J:=by
 refine qa H x z λ{k bK u fv bJ bU bE Gf} G1 g cj nz=>?_;have Q':=rv.go G1 x.wd.fok x.free;clear rv;rcases lk:bD bK.loc y with _|_<;>try exact .inl rfl
 obtain _|_:=k<;>try exact .inl rfl
 rename_i k
 rcases cI:dF es.length with _|_<;>try exact .inl rfl
 cases g with
 | @od _ da m ne dm r1 hn=>
  refine bW cj.i ?_;rintro t rfl _;have nz:=nz da rfl;refine .inr ⟨_,rfl,rfl,da,λY=>.rfl,λ{E Q} kk=>Cf (av:=w) dm hn (fK cI) λh' tk Zi hs=>kk h' tk hs (λr=>r.one (K1.of_same hs) nz.1 nz.2) (.od ne Zi ((ix.putL (λz=>Bool.noConfusion z) Q' dm.2 r1).one' (K1.of_same hs) nz.1 nz.2) λj q=>?_)⟩
  rw[dA]at q;by_cases z:k=j
  ·rw[aA z]at q;exact c8 q.symm
  ·rw[au z]at q
   exact(au λy=>z y.symm).trans (hn j q)
theorem F8(H:fE rc d c)(x:St c s J.heap f bA){b i:Expr}(r:eD c.w J.heap f ov v F)(hF:eX c f bA F):T c PU (bR rc c.cx (.Subscript b i p) ov s) (assign (.Subscript b i p) c.ev v) (λb=>bA b\/F b) f J:=by
 unfold bR;dsimp only;refine eE (uq ov) (λhw=>by trivial) λwv hw=>dI (Mi x r hF hw) λec x2 G rv=>T.from ?_ G (λb q=>.inl (.inl q)) (.refl _) λY Y q=>q
 induction b using Expr.casesOn with
 |Name y p0=>
  dsimp only;refine eE (bQ c.cx _ s) (λz=>by trivial) λyo z=>?_
  obtain⟨y',o⟩:=yo;induction o using rD with
  |ol K6=>
   obtain rfl:=fA z;exact xQ H x2 z rv
  |_=>trivial
 |Attribute ob nm q0=>
  dsimp only;refine eE (gu c.cx _ s) (λz=>by trivial) λyo z=>?_
  obtain⟨y,cl,fs,o⟩:=yo;induction o using rD with
  |ol xs=>exact F9 H x2 z rv
  |od es=>exact Ga H x2 z rv
  |_=>trivial
 |_=>trivial
set_option tactic.hygienic true in
theorem F7(hh:c.A.handled=none)(x:St c s J.heap f bA)(hp:∀p∈c.pin,dQ c.cx p.1=true){ts:List Expr}{k:_}(r:eD c.w J.heap f ov v F)(hF:eX c f bA F):T c PU (bR rc c.cx (.Tuple ts k p) ov s) (assign (.Tuple ts k p) c.ev v) (λb=>bA b\/F b) f J:=by
 unfold bR;dsimp only;rcases hx:h9 ts with _|_<;>try trivial
 rename_i xs
 dsimp only;rcases hb:fL c.cx s xs with _|_<;>try trivial
 dsimp only;refine eE (uq ov) (λhw=>by trivial) λwv hw=>?_
 refine dI (Mi x r hF hw) λec x2 G rv=>?_;obtain _|_:=wv<;>try trivial
 ·exact T.from (kJ hh x2 hp hx hb rv (.inl rfl)) G (λb q=>.inl (.inl q)) (.refl _) λY Y q=>q
 ·exact T.from (kJ hh x2 hp hx hb rv (.inr rfl)) G (λb q=>.inl (.inl q)) (.refl _) λY Y q=>q
theorem jZ(H:fE rc d c)(hh:c.A.handled=none)(x:St c s J.heap f bA)(hp:∀p∈c.pin,dQ c.cx p.1=true){t:Expr}(r:eD c.w J.heap f ov v F)(hF:eX c f bA F):
  T c PU (bR rc c.cx t ov s) (assign t c.ev v) (λb=>bA b\/F b) f J:=by
 induction t using Expr.casesOn with
 |Name=>exact CN x hp r hF
 |Attribute=>exact CO H x r hF
 |Subscript=>exact F8 H x r hF
 |Tuple=>exact F7 hh x hp r hF
 |_=>trivial
end
section
variable{P:AP}{a:Str}{e:Value}{C:Addr}{m:AV}
theorem tx{m:Sem Z}{f:Z->Sem β}{g:β->Sem γ}{Q:QS γ}(z:wpAny M A (m>>=f) (λb s'=>wpAny M A (g b) Q E s') E J):wpAny M A (m>>=λa=>f a>>=g) Q E J:=λΓ p mZ=>by
 have:=z Γ p mZ
 rw[bg]at this⊢;refine Sem.wp_mono M Γ m (λa p' s' y=>?_) (λY Y Y y=>y) p J this
 rw[bg];exact Sem.wp_mono M Γ _ (λb X2 HU y=>y Γ X2 mZ) (λY Y Y y=>y) p' s' y
theorem T.fin{P:QT Z β}{Q:QT xg mO}{r:R Z}{g:Z->xg}{k:β->mO}(x:T c P r t bA f J)(hw:∀Q E,wA c t (λv s'=>Q (k v) s') E J->wA c t' Q E J)(y:∀a s v bT f' bF,cD c bA f J s f' bF bT->P a v bT.heap f' bF->Q (g a) (k v) bT.heap f' bF):T c Q (r.bind λa s=>.ok (g a) s) t' bA f J:=by
 induction r using iw with
 |ok a s=>exact hw _ _ (ak x (λv bT z=>cC z λf' o' p q=>(cz f' o' p (y _ _ _ _ _ _ p q))) λY Y z=>z)
 |exc m s=>exact hw _ _ (ak x (λY Y z=>z.elim) λY Y z=>z)
 |no=>trivial
def PN(c:Fm)(o:AP)(n:Nat)(m:AV)(e:Value)(h:Heap)(f:Fz)(bA:AP):Prop:=∃X,nK c.w h f m e (rawInt c.fe.locals) X/\eX c f bA X/\∀a,X a->o a\/n<=a
theorem St.noted(x:St c s h f bA)(hX:eX c f bA X)(G:GX ((c.fe::c.out).filterMap (·.frame)) X h f X' h'):St c s h' f bA/\eX c f bA X':=
 ⟨x.frame G.go hX.free (λa q z=>(hX a z).1 q) (λe he L q z=>(hX L z).2.1.out e he q) (x.wd.exact G hX.free (λa q=>(hX a q).2.2) x.ff2.low),λa q=>by
  obtain z|z:=G.go.no a q
  ·exact hX a z
  ·exact x.fresh1 z⟩
theorem cD.noted(p:cD c bA f J s f' bF bT)(hX:eX c f' bF X)(hn:∀a,X a->bA a\/J.heap.objs.size<=a)(G:GX ((c.fe::c.out).filterMap (·.frame)) X bT.heap f' X' h'):cD c bA f J s f' bF {bT with heap:=h'}/\eX c f' bF X'/\∀a,X' a->bA a\/J.heap.objs.size<=a:=by
 refine cH (p.st.noted hX G) λx1 x2=>⟨⟨x1,(p.go.trans G.go hn).less λa q=>.inr (p.go.no a q),p.rest⟩,x2,λa q=>?_⟩
 obtain z|z:=G.go.no a q
 ·exact hn a z
 ·exact .inr (aq p.go.size z)
theorem sW(p:cD c bA f J s f' bF bT)(q:PX c bA J.heap.objs.size m e bT.heap f' bF)(k:∀h',cD c bA f J s f' bF {bT with heap:=h'}->PN c bA J.heap.objs.size m e h' f' bF->Q () {bT with heap:=h'}):wpAny M c.A (noteFrame e c.fe) Q E bT:=dI q λX ex hX hn=>kM p.st ex hX λh' X' z G=>fF (p.noted hX hn G) λp1 p2 p3=>k h' p1 (ej X' z p2 p3)
theorem B2(he:env=c.fe)(p:cD c bA f J s f' bF bT)(q:PN c bA J.heap.objs.size m e bT.heap f' bF)(k:∀h',cD c bA f J s f' bF {bT with heap:=h'}->PX c bA J.heap.objs.size m e h' f' bF->E e {bT with heap:=h'}):cameBackBy M c.A env E e bT:=by
 refine dI q λX ex hX hn=>?_;refine V5 ex ?_;rintro ea oe vs d mm mv T oT ts ⟨rfl,a2,a3,a4,a5⟩ _ _ d1 _;refine af (wpAny_field a2 a5 d1 ?_);rw[he,p.st.ffr.1];refine iK ex p.st.wd.fok hX.free λh' z G=>fF (p.noted hX hn (G _)) λp1 p2 p3=>k h' p1 (ej X (z.toR (.inr rfl)) p2 p3)
def CL(c:Fm)(r:R Fl)(t:Code)(bA:AP)(f:Fz)(J:Shared):Prop:=match r with
 | .ok fl s'=>codeAny (Md c.w) c.A t (λr bT=>match r with| .ok fT=>∃f' bF,cD c bA f J s' f' bF bT/\PF c fl fT bT.heap f' bF| .error _=>False) J
 | .exc m s'=>codeAny (Md c.w) c.A t (λr bT=>match r with| .ok _=>False| .error e=>∃f' bF,cD c bA f J s' f' bF bT/\PN c bA J.heap.objs.size m e bT.heap f' bF) J
 | .no=>True
theorem PN.up{n n':Nat}(ho:∀a,o a->bA a\/n<=a)(hn:n<=n'):PN c o n' m e h f bF->PN c bA n m e h f bF:=
 λz=>dI z λX x1 x2 x3=>⟨X,x1,x2,λa q=>by
  obtain r|r:=x3 a q
  ·exact ho a r
  ·exact .inr (aq hn r)⟩
theorem CL.run{r:R Fl}{t:Code}(z:CL c r t bA f J)(he:env=c.fe):T c (PF c) r (runOwn t env) bA f J:=by
 induction r using iw with
 |no=>trivial
 |ok fl s'=>exact wpAny_runOwn (bt z λr bT q=>by
   cases r with
   |ok fT=>exact q
   |error e=>exact q.elim)
 |exc m s'=>exact wpAny_runOwn (bt z λr bT q=>by
   cases r with
   |ok fT=>exact q.elim
   |error e=>
    refine cC q λf' bF p q=>B2 he p q λh' p1 q1=>(cz f' bF p1 q1))
end
section
variable{P:AP}{a:Str}{e:Value}{C:Addr}{m:AV}
theorem sE(H:fE rc d c)(hh:c.A.handled=none)(hp:∀p∈c.pin,dQ c.cx p.1=true)(HX:o9 rc c)(x:St c s J.heap f bA){t:Expr}{a:AV}(r:VR c.w J.heap f a v):
  T c (PF c) ((bR rc c.cx t (.v a) s).bind λY s=>rc.x c.cx body s) (assign t c.ev v>>=λY=>execs body c.ev) bA f J:=T.bindV ((jZ H hh x hp (.fl (.v r)) (λY q=>q.elim)).more λb q=>q.elim id False.elim) λfl bK u bJ bU bE dZ bM cj=>HX.x body bK bE bU bJ bM.st
theorem E8(H:fE rc d c)(hh:c.A.handled=none)(jv:c.ev=c.fe)(hp:∀p∈c.pin,dQ c.cx p.1=true)(HX:o9 rc c){t:Expr}:∀(xs:LA) s bA f J,St c s J.heap f bA->It c bA f J.heap I xs->
  CL c (ek (λa s=>(bR rc c.cx t (.v a) s).bind λY s=>rc.x c.cx body s) xs s) (.forLoop t (.ref I) body [] c.ev) (λb=>bA b\/b=I) f J:=by
 intro xs;induction xs with
 |nil=>
  intro s bA f J x it;have fI:=it.ok I rfl;refine codeAny_of_tree<|wpAny_onRaise<|af (ay (af (wpAny_onRaise (lE hh it.it λh' tk k1=>?_))));refine aj ⟨rfl,codeAny_block (br ?_)⟩;exact⟨f,bA,⟨x.one k1 fI.1 fI.2.1 fI.2.2,(k1.go (.inr rfl)).less λb q=>.inr (.inl (.inl q)),rfl,rfl⟩,trivial⟩
 |cons a l ih=>
  intro s bA f J x it;have fI:=it.ok I rfl;have rN:∀{RR},(∀v h' tk,K1 I J.heap h'->VR c.w h' f a v->j5 c.w h' f I l->wA c (assign t c.ev v>>=λY=>execs body c.ev) (λfT eS=>match fT with
    | .next| .cont=>codeAny _ c.A _ RR eS
    | .brk=>RR _ eS
    | .ret v=>RR (.ok (.ret v)) eS) _ _)->codeAny (Md c.w) c.A (.forLoop t _ body [] c.ev) RR J:=λ{RR} z=>by
   refine codeAny_of_tree<|wpAny_noted<|af (ay (af (wpAny_onRaise (lD it.it fI.2.1.z fI.2.1.y λv h' tk k1 r mY=>?_))));refine af (sS mY ?_);refine tx (ak (z v h' tk k1 (r.one k1 fI.2.1.z fI.2.1.y) mY) (λfT eS y=>?_) λY Y y=>y)
   induction fT using PySem.Flow.casesOn with
   |next=>exact aj ⟨rfl,y⟩
   |cont=>exact aj ⟨rfl,y⟩
   |brk=>exact aj y
   |ret v=>exact aj y
  have Wn:∀{h'} {tk:Nat},K1 I J.heap h'->St c s h' f bA:=λk1=>x.one k1 fI.1 fI.2.1 fI.2.2
  have pin:∀{bJ} {bU} {bE} {bK} {h'} {tk},K1 I J.heap h'->cD c bA f {J with heap:=h',toks:=tk} bK bU bE bJ->cD c (λb=>bA b\/b=I) f J bK bU bE bJ:=λk1 p=>p.up ((λk1=>(k1.go (.inr rfl)).less λb q=>.inr (.inl (.inl q))) k1) (λb q=>.inl (.inl q)) ⟨rfl,rfl⟩
  unfold ek;cases r0:(bR rc c.cx t _ s).bind λY s=>rc.x c.cx body s with
  |no=>trivial
  |exc m bK=>
   refine rN λv h' tk k1 r mY=>?_;have tt:=sE H hh hp HX (J:={J with heap:=h',toks:=tk}) (t:=t) (body:=body) (Wn (tk:=tk) k1) r
   rw[r0]at tt;refine ak tt (λY Y z=>z.elim) λe bJ z=>cC z λbU bE bM cj=>jv▸?_
   refine sW bM cj λqu p2 q2=>⟨bU,bE,pin k1 p2,q2.up (λb q=>.inl (.inl q)) k1.size⟩
  |ok fl bK=>
   have go:∀{RR},(∀fT bJ bU bE,cD c (λb=>bA b\/b=I) f J bK bU bE bJ->It c bE bU bJ.heap I l->PF c fl fT bJ.heap bU bE->match fT with
    | .next| .cont=>codeAny _ c.A _ RR bJ
    | .brk=>RR _ bJ
    | .ret v=>RR _ bJ)->codeAny _ c.A _ RR J:=λ{RR} z=>rN λv h' tk k1 r mY=>by
    have tt:=sE H hh hp HX (J:={J with heap:=h',toks:=tk}) (t:=t) (body:=body) (Wn (tk:=tk) k1) r
    rw[r0]at tt;have Dx:It c bA f h' I l:=⟨mY,it.ok⟩;refine ak tt (λfT bJ zq=>cC zq λbU bE bM cj=>?_) λY Y z=>z.elim
    exact z fT bJ bU bE (pin k1 bM) (Dx.go bM.go x.wd.fok x.free fI.1 λb q=>(bM.go.no b q).imp_right .inr) cj
   induction fl using Fl.casesOn with
   |brk=>
    refine go λfT bJ bU bE bM Dx cj=>?_;obtain _|_:=fT<;>first|exact cj.elim|exact⟨bU,bE,bM,trivial⟩
   |ret av=>
    refine go λfT bJ bU bE bM Dx cj=>?_;obtain _|_:=fT<;>first|exact cj.elim|exact⟨bU,bE,bM,cj⟩
   |next=>
    show CL c (ek _ l bK) _ _ _ _
    generalize r1:ek (λa s=>(bR rc c.cx t _ s).bind λY s=>rc.x c.cx body s) l bK=zz;induction zz using iw with
    |no=>trivial
    |ok ZW eS=>
     refine go λfT bJ bU bE bM Dx cj=>?_;have z:=ih bK bE bU bJ bM.st Dx;rw[r1]at z;have z:=z;cases fT<;>first|exact cj.elim|skip
     refine bt z λr il q=>?_;cases r with
     |error e=>exact q
     |ok fT=>
      refine cC q λec fh eA hZ=>⟨ec,fh,eA.up bM.go (λb q=>q.elim (bM.go.no b) λz=>.inl (.inr z)) bM.rest,hZ⟩
    |exc m eS=>
     refine go λfT bJ bU bE bM Dx cj=>?_;have z:=ih bK bE bU bJ bM.st Dx;rw[r1]at z;have z:=z;cases fT<;>first|exact cj.elim|skip
     refine bt z λr il q=>?_;cases r with
     |ok fT=>exact q
     |error e=>
      refine cC q λec fh eA hZ=>?_;have ho:∀b,(bE b\/b=I)->(bA b\/b=I)\/J.heap.objs.size<=b:=λb q=>q.elim (bM.go.no b) λz=>.inl (.inr z)
      exact⟨ec,fh,eA.up bM.go ho bM.rest,hZ.up ho bM.go.size⟩
theorem EY{a:AV}(r:VR c.w J.heap f a v)(e:dh a=some xs):∃ob,j5 c.w (J.heap.push ob) f J.heap.objs.size xs/\∀{A} {E Q:VP},Q (.ref J.heap.objs.size) {J with heap:=J.heap.push ob}->wpAny (Md c.w) A (pyIter v) Q E J:=by
 have mv:∀{ob} {xs} {vs},dw c.w J.heap f xs vs->dw c.w (J.heap.push ob) f xs (vs.drop 0):=λr=>by rw[List.drop_zero];exact r.push _
 induction a using AV.casesOn with
 |lst l=>
  obtain rfl:=oI e;obtain⟨y,vs,rfl,z,l,r1,n1⟩:=r.inv_lst;exact(cf _ (.lst z (l.hard λo e=>.inl (bZ _ _ _ _ e)) (mv r1) (ej _ (aE _ rfl) rfl rfl)) (λq=>wpAny_pyIter_list l.list q))
 |tup l=>
  obtain rfl:=oI e;obtain⟨y,vs,rfl,z,l,r1,n1⟩:=r.i;exact(cf _ (.tup z (l.hard λo e=>.inl (bZ _ _ _ _ e)) (mv r1) (ej _ (aE _ rfl) rfl rfl)) (λq=>iter_tuple l.tup q))
 |rng n=>
  obtain rfl:=oI e;obtain⟨_,_,_,_,rfl,z,hr,hs⟩:=r.i;refine(cf _ ?_ (λq=>wpAny_pyIter_range hr (lC hs) q))
  rw[List.range_eq_range'];refine .rng ?_;rw[<-ie];exact aE _ rfl
 |_=>exact c8 e
theorem KH(H:fE rc d c)(hh:c.A.handled=none)(jv:c.ev=c.fe)(hp:∀p∈c.pin,dQ c.cx p.1=true)(HX:o9 rc c)(x:St c s J.heap f bA){t it:Expr}:T c (PF c) (match cG it with
  |false=>.no
  |true=>(vl (rc.e c.cx it s)).bind λa s=>(match dh a with
  |none=>.no
  |some xs=>ek (λa s=>(bR rc c.cx t (.v a) s).bind λY s=>rc.x c.cx body s) xs s)) (exec (.For t it body [] pos) c.ev) bA f J:=by
 refine fS (cG it) (λpl=>by trivial) λpl=>T.via (k:=λv=>standAt it.pos>>=λY=>holding [v] (pyIter v)>>=λi=>runOwn (.forLoop t i body [] c.ev) c.ev) (H.at.v x) (λQ E z=>?_) λa bK v bJ bU bE dZ bM cj=>?_
 ·rw[exec_For]
  refine af (ay (af (ak z (λv bK y=>?_) λY Y y=>y)))
  rw[iM pl];exact af (aj y)
 ·refine eE (dh a) (λhi=>by trivial) λxs hi=>bW (EY cj hi) λob KX kk=>?_
  have cl:=E8 (J:={bJ with heap:=bJ.heap.push ob}) H hh jv hp HX (t:=t) (body:=body) xs bK bE bU (bM.st.push ob) ⟨KX,λb q=>by subst q;exact(bM.st.fresh1 (aC _))⟩
  exact T.from (cl.run jv) (Go.keeps (bZ bJ.heap ob) (de _ _)) (λb q=>q.imp_right λz=>aR z.symm) ⟨rfl,rfl⟩ λQ E z=>af (ay (af (aD (kk z))))
theorem xO(HE:dz rc d c)(HX:o9 rc c){t:Expr}:∀n s bA f J fl s',St c s J.heap f bA->qM (rc.b c.cx t) (rc.x c.cx body) n s=.ok fl s'->
  codeAny (Md c.w) c.A (.whileLoop t body [] c.ev) (λr bT=>match r with| .ok fT=>∃f' bF,cD c bA f J s' f' bF bT/\PF c fl fT bT.heap f' bF| .error _=>False) J:=by
 intro n;induction n with
 |zero=>intro s bA f J fl s' x e;injection e
 |succ n ih=>
  refine λs bA f J fl s' x e=>cC (R.bind_ok e) λb s1 e1 e=>?_
  have z:=HE.b t s bA f J x
  rw[e1]at z;refine codeAny_of_tree ?_;refine wpAny_onRaise<|af (ak z (λv j0 z=>cC z λf1 gq p1 q1=>?_) λY Y y=>y.elim)
  obtain rfl:=q1;induction v using i8 with
  |false=>
   (injection e with zz yy;subst zz yy)
   exact af (br (aj (cz f1 gq p1 trivial)))
  |true=>
   refine cC (R.bind_ok e) λYW s2 e2 e=>?_;have y:=HX.x body s1 gq f1 j0 p1.st;rw[e2]at y;refine af (ak y (λfT Df z=>cC z λf2 jK p2 q2=>?_) λY Y y=>y.elim)
   have p:=p2.up p1.go p1.go.no p1.rest
   induction YW using Lc with
   |brk=>injection e
   |ret av=>injection e
   |next=>
    obtain _|_:=fT<;>first|exact q2.elim|skip
    refine aj ⟨rfl,bt (ih s2 jK f2 Df fl s' p2.st e) λr Q3 q=>?_⟩;cases r with
    |error _=>exact q
    |ok fT=>
     refine cC q λf3 DF p3 q3=>(cz f3 DF (p3.up p.go p.go.no p.rest) q3)
theorem CP(HE:dz rc d c)(HX:o9 rc c)(jv:c.ev=c.fe)(x:St c s J.heap f bA){t:Expr}:T c (PF c) (qM (rc.b c.cx t) (rc.x c.cx body) 100 s).noExc (exec (.While t body [] pos) c.ev) bA f J:=by
 refine T.noExc λfl s' e=>af (ay ?_)
 have z:CL c (.ok fl s') _ bA f J:=xO HE HX 100 s bA f J fl s' x e
 exact z.run jv
end
section
variable{P:AP}{a:Str}{C:Addr}{m:AV}
theorem Gi(HE:dz rc d c)(hk:c.ev.scope.kind=.function)(x:St c s J.heap f bA):T c (PF c) (match Ap e with|true=>.no|false=>(rc.e c.cx e s).bind λY s=>.ok .next s) (exec (.Expr e pos) c.ev) bA f J:=by
 refine fS (Ap e) (λce=>?_) (λce=>by trivial)
 have hi:interactive c.ev=false:=by unfold interactive;rw[hk];rfl
 have hs:swapsWith e none pos.line c.ev=pure false:=by obtain _|_:=e<;>first|rfl|exact tZ ce
 exact(HE.e e s bA f J x).fin (λQ E z=>wpAny_Expr_any z hi hs) λY Y Y Y Y Y Y Y=>trivial
theorem vP(x:St c s J.heap f bA):T c (PF c) (.ok (.ret .none) s) (exec (.Return none pos) c.ev) bA f J:=
 wpAny_Return_none (cz f bA (.refl x) .none)
theorem yV(HE:dz rc d c)(x:St c s J.heap f bA):T c (PF c) ((vl (rc.e c.cx e s)).bind λa s=>.ok (.ret a) s) (exec (.Return (some e) pos) c.ev) bA f J:=
 (HE.v x).fin (λQ E z=>wpAny_Return_some z) λY Y Y Y Y Y Y q=>q
theorem Qg(HE:dz rc d c)(HX:o9 rc c)(x:St c s J.heap f bA){t:Expr}{a b:List Stmt}:T c (PF c) ((rc.b c.cx t s).bind λr s=>(match r with|true=>rc.x c.cx a s|false=>rc.x c.cx b s)) (exec (.If t a b pos) c.ev) bA f J:=by
 refine T.tree (T.stand ((HE.b t s bA f J x).bindV λr bK v bJ bU bE dZ bM cj=>?_)) λQ E z=>z
 obtain rfl:=cj;obtain _|_:=v
 ·exact HX.x b bK bE bU bJ bM.st
 ·exact HX.x a bK bE bU bJ bM.st
theorem CV(x:St c s J.heap f bA):T c (PF c) (.ok Fl.brk s) (exec (.Break pos) c.ev) bA f J:=T.ret (af (ay (aj (cz f bA (.refl x) trivial))))
theorem T.next{r:R Fl}{t:Sem Unit}(x:T c PU r t bA f J):T c (PF c) r (t>>=λY=>(Pure.pure Flow.next:Sem Flow)) bA f J:=by
 induction r using iw with
 |ok a s=>
  refine af (ak x (λv bT z=>cC z λf' o' p q=>aj (cz f' o' p ?_)) λY Y z=>z)
  obtain rfl:=q;trivial
 |exc m s=>exact af (ak x (λY Y z=>z.elim) λY Y z=>z)
 |no=>trivial
noncomputable def zN(t v:Expr)(pos:Pos)(env:Env):Sem Flow:=standAt pos>>=λY=>eval v env>>=λu=>assign t env u>>=λY=>pure .next
theorem iN{t v:Expr}(h1:swapsWith v (some t) pos.line env=pure false)(h2:swappedStores [t] v env=pure none)(O9:∀t' p,t=.Starred t' p->False){Q:QS Flow}(z:wpAny M A (zN t v pos env) Q E J):wpAny M A (exec (.Assign [t] v pos) env) Q E J:=by
 have h3:(assignEach [t] env).map (·.2)=[assign t env]:=by
  obtain _|_:=t<;>first|rfl|exact(O9 _ _ rfl).elim
 rw[PyProof.Rows.exec_Assign,show swapsWithSole [t] v pos.line env=pure false from h1,h2,h3]
 exact z
theorem CK(t e)(g)(sc)(q):kn t (.SetComp e g sc q)=false:=by
 obtain _|_:=t<;>rfl
theorem CM(t k e)(g)(sc)(q):kn t (.DictComp k e g sc q)=false:=by
 obtain _|_:=t<;>rfl
theorem NL{t:Expr}{g:List Comprehension}{n:Nat}(h:∀y p,t=.Name y p->False):swapsWith (.ListComp elt g sc q) (some t) n env=pure false:=by
 obtain _|_:=t<;>first|rfl|exact(h _ _ rfl).elim
theorem Ky{t v:Expr}{n:Nat}(ha:kn t v=true)(hs:∀y p elt gens sc q,t=.Name y p->v=.ListComp elt gens sc q->False):swapsWith v (some t) n env=pure false:=by
 obtain _|_:=v<;>first|rfl|exact NL λy p e=>hs _ _ _ _ _ _ e rfl|exact Bool.noConfusion (ha.symm.trans (CK ..))|exact Bool.noConfusion (ha.symm.trans (CM ..))
theorem Kz{t v:Expr}(ha:kn t v=true):swappedStores [t] v env=pure none:=by
 obtain _|_:=t<;>first|rfl|(obtain _|_:=v<;>first|rfl|exact Bool.noConfusion ha)
theorem mw{t v:Expr}(ha:kn t v=true)(hs:∀y p elt gens sc q,t=.Name y p->v=.ListComp elt gens sc q->False){Q:QS Flow}(z:wpAny M A (zN t v pos env) Q E J):wpAny M A (exec (.Assign [t] v pos) env) Q E J:=iN (Ky ha hs) (Kz ha) (λt' p e=>by subst e;exact dT ha) z
end
section
variable{P:AP}{a:Str}{C:Addr}{m:AV}
theorem xc(H:fE rc d c)(hh:c.A.handled=none)(x:St c s J.heap f bA)(hp:∀p∈c.pin,dQ c.cx p.1=true){t v:Expr}:T c (PF c) ((rc.e c.cx v s).bind λo s=>bR rc c.cx t o s) (zN t v pos c.ev) bA f J:=by
 refine T.stand (T.bind (H.at.e v s bA f J x) λo bK u bJ bU bE dZ bM cj=>?_);refine dI cj λF r hF hn=>(cf (λb=>bE b\/F b) (λb q=>q.elim (bM.go.no b) (hn b)) ((jZ H hh bM.st hp r hF).next))
theorem vg(x:St c s J.heap f bA)(hp:∀p∈c.pin,dQ c.cx p.1=true)(hb:cn c.cx n s=true)(hs:s.ss=none):T c (PF c) (.ok Fl.next {s.set n (.v .seen)with ss:=some []}) (zN (.Name n p) (.List [] q) pos c.ev) bA f J:=by
 refine T.ret (af (ay (af ?_)));show wA c (standAt q>>=λY=>spliced []>>=λvs=>newList vs) _ _ J
 refine af (ay (af (Calls.spliced_nil (wpAny_newList ?_ (by size_fits)))))
 have fr:=x.fresh1 (a:=J.heap.objs.size) (aC _)
 have x1:=x.push {cls:=.type "list",data:=.seq ([]:LV).toArray}
 have nn:∀b,¬f.sn b:=by have:=x.wd.seen;rw[hs]at this;exact this
 have sz:(J.heap.push {cls:=.type "list",data:=.seq ([]:LV).toArray}).objs.size=J.heap.objs.size+1:=aS ..
 have G:Go (λb=>b=J.heap.objs.size) _ f (λb=>b=J.heap.objs.size) (J.heap.push {cls:=.type "list",data:=.seq ([]:LV).toArray}) ⟨f.z,f.y,λb=>b=J.heap.objs.size⟩:=
  ⟨λb Y=>.of_keep λY e=>e,⟨λY q=>q,λY q=>q,λb q=>absurd q (nn b)⟩,λY q=>.inl q,λY q=>.inl q,λY q=>.inr (.inl q),λY q=>.inl q,aC _⟩
 have wd:Wd c.w c.sb (J.heap.push {cls:=.type "list",data:=.seq ([]:LV).toArray}) ⟨f.z,f.y,λb=>b=J.heap.objs.size⟩ (some []):=by
  refine⟨x1.wd.base,x1.wd.stat,x1.wd.sbz,⟨x.wd.fok.zy,λb q z=>fr.2.1.z (z▸q),λb q z=>fr.2.1.y (z▸q)⟩,λb q=>?_,λb q=>?_,J.heap.objs.size,[],λY=>.rfl,⟨_,aE _ rfl⟩,.nil,bb _⟩
  ·obtain q|q|q:=q
   ·exact x1.wd.zl b (.inl q)
   ·exact x1.wd.zl b (.inr (.inl q))
   ·rw[sz,q];exact bp _
  ·obtain q|q:=q
   ·rw[q];exact fr.2.2
   ·exact x1.wd.snl b (.inr q)
 have x2:St c {s with ss:=some []} _ _ bA:=x1.frame G (λb q=>by subst q;exact⟨fr.2.1.z,fr.2.1.y,fr.2.1.sn⟩) (λb q z=>fr.1 (z▸q)) (λe he L q z=>fr.2.1.out e he (z▸q)) wd
 refine af (sx (s:={s with ss:=some []}) x2 (jQ hp hb) hb (ov:=.v .seen) (.fl (.v (.seen rfl))) (λY q=>q.elim) rfl λbT bF po=>aj (cz _ bF ⟨po.st,?_,po.rest.1,po.rest.2⟩ trivial))
 have G0:Go bA J.heap f bA (J.heap.push {cls:=.type "list",data:=.seq ([]:LV).toArray}) f:=Go.keeps (bZ _ _) (de _ _)
 exact(G0.trans G λb q=>.inr (aR q.symm)).trans po.go λb q=>q.elim .inl False.elim
theorem BA{t v:Expr}(z:pK cx t v s=some (n,ov)):∃ob a p es,t=.Attribute ob a p/\ov=.od es/\bQ cx v s=some (n,.od es):=by
 induction t using Expr.casesOn with
 |Attribute ob a p=>
  have z:(match bQ cx v s with|some (x,.od es)=>some _|_=>none)=some _:=z
  generalize bQ cx v s=o at z⊢;obtain _|⟨x,o⟩:=o
  ·exact c8 z
  ·obtain _|_|_|es|_:=o<;>try exact c8 z
   injection z with z;injection z with z1 z2
   subst z1 z2;exact⟨ob,a,p,es,rfl,rfl,rfl⟩
 |_=>exact c8 z
theorem Bz(H:fE rc d c)(hh:c.A.handled=none)(x:St c s J.heap f bA)(hp:∀p∈c.pin,dQ c.cx p.1=true){t v:Expr}(z:pK c.cx t v s=some (n,ov)):T c (PF c) (bR rc c.cx t ov (s.set n (.v .any))) (zN t v pos c.ev) bA f J:=by
 refine Nb (BA z) ?_;rintro ob a p es rfl rfl q;refine i5 (dK q) ?_;rintro⟨p0,rfl⟩ w1 l1 hk dn;refine iZ (x.take w1 l1 rfl dn) λu F t1 t2 t3 t4 t5 t6=>?_;have t9:=(t1.put' t5 (.fl (.v (.any _ t2.handed))) (λY z=>z.elim) (λz=>dT z)).less λb=>⟨.inl,λq=>q.elim id False.elim⟩
 refine T.from ((jZ H hh t9 hp t2 t3 (t:=.Attribute ob a p)).next) (Go.refl bA J.heap f) (λb q=>.inl (q.elim And.left (t4 b))) (.refl _) λQ E z=>af (ay (af (bw (t6 rfl z) (d7 dn (by decide+kernel)))))
theorem Go.more'(x:Go bA h f bF h' f')(ho:∀a,bA a->o a):Go o h f bF h' f':=x.more ho
theorem vO(H:ze rc d)(cy:Rm c d)(x:St c s J.heap f bA)(dG:c.cx.cs=none)(hp:∀p∈c.pin,dQ c.cx p.1=true):T c (PF c) ((iE rc c.cx elt gens sc s).noExc.bind λo s=>bR rc c.cx (.Name n p) o s) (exec (.Assign [.Name n p] (.ListComp elt gens sc vp) pos) c.ev) bA f J:=by
 generalize r:iE rc c.cx elt gens sc s=zz;induction zz using iw with
 |no=>trivial
 |exc m bK=>trivial
 |ok o bK=>
  refine pd (qd r) ?_;rintro ys s2 h1 h2 h3 h4 h5 h6 rfl rfl;show T c _ (match cn c.cx n _,kc _ with|true,false=>R.ok Fl.next _|_,_=>.no) _ bA f J
  split
  ·rename_i hb _
   refine T.ret ?_;generalize hs:(c.ev.blockKind==.function&&c.ev.kindOf n==some .local&&p.line==vp.line&& !(sc.names.any λ(m,k)=>m==n&&(k==.local||k==.cell)))=zz;induction zz using i8 with
   |true=>
    rw[exec_Assign_Name_used _ _ _ _ (aN pure hs)];refine af (ay (af ?_));refine af (ak (sZ H.e cy x h1 h2 h3 h4 h5 h6 λf' bF bT la C ce=>?_) (λY bT z=>iA z λf' bF po=>aj (aj (cz f' bF po trivial))) λY Y z=>z)
    refine dI (ce.acc.lay ce.po ce.fl h6) λC6 p' rl YU=>?_;have QM:=ce.fc C rfl;have fC:=YU C ce.ne QM.2.1;refine cF ce.ns λmC Wz=>?_;refine sx p'.st (jQ hp hb) hb (.fl (.v rl)) (λY q=>q.elim) rfl λDf jK CY=>?_
    have G2:=CY.go.more' (λb q=>q.elim id False.elim)
    have nC:=λq=>(G2.no C q).elim QM.1 (Nat.not_le.mpr Wz.ns.lt)
    refine(cf mC ((vZ.hard (G2.hard QM.1 fC.y fC.sn) Wz).ns) (λh' hs=>?_));have k1:=K1.of_same hs;refine⟨C6,jK,CY.st.one k1 nC fC QM.2.2,?_,(p'.rest.trans CY.rest).1,(p'.rest.trans CY.rest).2⟩;exact(((p'.go.trans G2 p'.go.no).trans (k1.go rfl) λb q=>by subst q;exact .inr ce.flC)).less λb q=>.inr ((p'.go.trans G2 p'.go.no).no b q)
   |false=>
    refine iN (aN pure hs) rfl (λY Y e=>by injection e)<|af (ay (af ?_))
    have tt:=qc (pos:=vp) (elt:=elt) (gens:=gens) (sc:=sc) H.e cy x
    rw[r]at tt;refine ak tt (λv j0 z=>cC z λf1 gq p1 q1=>?_) λY Y z=>z
    refine dI q1 λF ro hF hn=>af (sx p1.st (jQ hp hb) hb ro hF rfl λDf jK CY=>aj (cz f1 jK ⟨CY.st,p1.go.trans CY.go λb q=>q.elim (p1.go.no b) (hn b),p1.rest.trans CY.rest⟩ trivial))
  ·trivial
end
section
variable{P:AP}{a:Str}{C:Addr}{m:AV}
theorem vR(H:dz rc d c)(x:St c s J.heap f bA)(hp:∀p∈c.pin,dQ c.cx p.1=true):T c (PF c) ((vl (jP c.cx n s)).bind λa s=>(vl (rc.e c.cx e s)).bind λb s=>(match a,b with
  | .int i,.int j=>bR rc c.cx (.Name n p) (.v (.int (i+j))) s
  |_,_=>.no)) (exec (.AugAssign (.Name n p) .Add e pos) c.ev) bA f J:=by
 refine T.stand ((p8 x).vl.bindV λa bK u bJ bU bE dZ bM cj=>(H.v bM.st).hold.bindV λb eS v il ec fh zH eA hZ=>?_)
 replace cj:VR c.w bJ.heap bU a u:=cj
 replace hZ:VR c.w il.heap ec b v:=hZ
 clear dZ zH;induction a using AV.casesOn with
 |int i=>
  induction b using AV.casesOn with
  |int j=>
  refine cF cj.i λt1 xo=>?_;subst xo;refine cF hZ.i λt2 xo=>?_;subst xo;show T c _ (match cn c.cx n eS,kc _ with|true,false=>R.ok Fl.next _|_,_=>.no) _ fh ec il
  rcases hb:cn c.cx n eS with _|_
  ·trivial
  ·refine T.ret (af (ay (af (wpAny_operateT (wpAny_iadd_int (af (ay (af ?_))))))))
   exact ju eA.st (jQ hp hb) hb (.fl (.v (.int ..))) (λY q=>q.elim) rfl λbT bF po=>aj (cz _ bF ⟨po.st,po.go.more λb q=>q.elim id False.elim,po.rest⟩ trivial)
  |_=>trivial
 |_=>trivial
theorem T.viaS{P:QT Z β}{Q:QT xg mO}{r:R Z}{K:β->(QS mO)->QS VP}(x:T c P r t bA f {J with toks:=k})(hw:∀Q E,wA c t (λv s'=>K v Q E s') E {J with toks:=k}->wA c t' Q E J)(y:∀a s v bT f' bF,r=.ok a s->cD c bA f J s f' bF bT->P a v bT.heap f' bF->(g a s=.no)\/∃(o:AP) (tk:Nat) (kX:Sem mO),(∀Q E,wA c kX Q E {bT with toks:=tk}->K v Q E bT)/\(∀a,o a->bA a\/J.heap.objs.size<=a)/\T c Q (g a s) kX o f' {bT with toks:=tk}):T c Q (r.bind g) t' bA f J:=by
 induction r using iw with
 |ok a s=>
  show T c Q (g a s) _ _ _ _
  generalize e:g a s=zz;induction zz using iw with
  |ok b bK=>
   refine hw _ _ (ak x (λv bT z=>cC z λf' o' p q=>?_) λY Y z=>z.elim)
   obtain e'|⟨o,tk,kX,h1,ho,z⟩:=y a s v bT f' o' rfl ⟨p.st,p.go,p.rest.1,p.rest.2⟩ q
   ·rw[e]at e';injection e'
   ·rw[e]at z
    exact h1 _ _ (z.up p.go ho ⟨p.rest.1,p.rest.2⟩)
  |exc m bK=>
   refine hw _ _ (ak x (λv bT z=>cC z λf' o' p q=>?_) λY Y z=>z.elim)
   obtain e'|⟨o,tk,kX,h1,ho,z⟩:=y a s v bT f' o' rfl ⟨p.st,p.go,p.rest.1,p.rest.2⟩ q
   ·rw[e]at e';injection e'
   ·rw[e]at z
    exact h1 _ _ (z.up p.go ho ⟨p.rest.1,p.rest.2⟩)
  |no=>trivial
 |exc m s=>exact hw _ _ (ak x (λY Y z=>z.elim) λY Y z=>cC z λf' o' p q=>(cz f' o' ⟨p.st,p.go,p.rest.1,p.rest.2⟩ q))
 |no=>trivial
def qI(cx:Cx)(n:Str)(p:Pos)(a:Str)(i:Int)(b:AV)(s:S):R Fl:=match b,bQ cx (.Name n p) s with
 | .int j,some (_,.oi c' oK)=>(match hU c' a,Nat.ble oK.length 100 with|true,true=>.ok .next (s.set n (.oi c' (dy oK a (.v (.int (i+j))))))|_,_=>.no)
 |_,_=>.no
theorem F6{b:AV}:(qI c.cx n p a i b s=.no)\/∃j c' oK,b=.int j/\bQ c.cx (.Name n p) s=some (n,.oi c' oK)/\hU c' a=true/\Nat.ble oK.length 100=true/\qI c.cx n p a i b s=.ok .next (s.set n (.oi c' (dy oK a (.v (.int (i+j)))))):=by
 induction b using AV.casesOn with
 |int j=>
  refine eE (bQ c.cx _ s) (λz=>.inl (by unfold qI;rw[z])) λq z=>?_
  obtain⟨y,ov⟩:=q;cases fA z;induction ov using rD with
  |oi c' oK=>
   refine fS _ (λh1=>.inl (by unfold qI;rw[z];dsimp only;rw[h1])) λh1=>fS _ (λh2=>.inl (by unfold qI;rw[z];dsimp only;rw[h1,h2])) λh2=>.inr (xG j c' oK rfl rfl h1 h2 (by unfold qI;rw[z];dsimp only;rw[h1,h2]))
  |_=>exact .inl (by unfold qI;rw[z])
 |_=>exact .inl rfl
theorem E3{g:Value}(r:gp w h f (.v (.int i)) g G):∃t,g=.int i t:=r.i.1.i
theorem Kx(H:fE rc d c)(x:St c s J.heap f bA){cl:Addr}{fs:LO}(z:bQ c.cx (.Name n p) s=some (n,.oi cl fs))(ok:hU cl a=true)(l:bD fs a=some (.v (.int i))):T c (PF c) ((vl (rc.e c.cx e s)).bind (qI c.cx n p a i)) (exec (.AugAssign (.Attribute (.Name n p) a q) .Add e pos) c.ev) bA f J:=by
 refine pd (x.mineP z) λv0 F0 r0 nm Y w1 l1 hk dn kk=>IW (GY r0) ?_;rintro xx dd m gf Gf rfl rfl e1 e2 e4
 refine cH (e4 a _ l) λg1 g2=>cH (f7 (P:=c.w.params) ok) λK RD=>cF (E3 g2) λt0 ht=>?_
 rw[ht]at g1;refine T.unpin (T.viaS (k:=J.toks+1) (K:=λv Q E s'=>wA c (standAt pos>>=λY=>operate [.int i t0,v] (inplaceOp .Add (.int i t0) v)) (λr s'=>wA c (standAt q.atName>>=λY=>holding [r,.ref xx] (setAttr (.ref xx) a r)>>=λY=>release [r,.ref xx] []>>=λY=>pure Flow.next) Q E s') E s') ((H _).v (x.pinned nm)) (λQ E z=>?_) λb bK u bJ bU bE dZ bM cj=>?_) (λY Y Y Y Y q=>q)
 ·show wA c _ Q E J
  refine af (ay (af (kk ?_)));refine af (aD (af (ay (af ?_))));exact gg x.X K RD e1 rfl rfl rfl e2.ns g1 rfl (af (aD z))
 ·replace cj:VR c.w bJ.heap bU b u:=cj
  rcases F6 (b:=b)with w|⟨j,c',oK,rfl,z',X7,cI,r⟩
  ·exact .inl w
  ·rw[r]
   refine cF cj.i ?_;rintro tj rfl;refine .inr (mK bE _ _ (λQ E z=>af (ay (wpAny_operateT (wpAny_iadd_int z)))) bM.go.no ?_)
   refine T.ret (af (ay (af (aD ?_))));exact wH bM.st z' X7 cI (.fl (.v (.int ..))) (λY q=>q.elim) rfl bM.st.the λf' bF bT po=>af (wpAny_release (aj (cz _ bF ⟨po.st,po.go.more λb q=>q.elim id False.elim,po.rest⟩ trivial)))
theorem vT(H:fE rc d c)(x:St c s J.heap f bA):T c (PF c) (match bQ c.cx (.Name n p) s with
  |some (_,.oi cl fs)=>(match hU cl a,bD fs a with
   |true,some (.v (.int i))=>(vl (rc.e c.cx e s)).bind λb s=>(match b,bQ c.cx (.Name n p) s with
    | .int j,some (_,.oi c' oK)=>(match hU c' a,Nat.ble oK.length 100 with|true,true=>.ok .next (s.set n (.oi c' (dy oK a (.v (.int (i+j))))))|_,_=>.no)
    |_,_=>.no)
   |_,_=>.no)
  |_=>.no) (exec (.AugAssign (.Attribute (.Name n p) a q) .Add e pos) c.ev) bA f J:=by
 refine eE (bQ c.cx _ s) (λz=>by trivial) λq z=>?_
 obtain⟨y,ov⟩:=q;cases fA z;induction ov using rD with
 |oi cl fs=>
  show T c _ (match hU cl a,bD fs a with
  |true,some (.v (.int i))=>(vl _).bind (qI c.cx n p a i)
  |_,_=>.no) _ _ _ _
  refine fS (hU cl a) (λok=>by trivial) λok=>eE (bD fs a) (λl=>by trivial) λw l=>?_
  induction w using rD with
  |v w=>induction w using AV.casesOn with
   |int i=>exact Kx H x z ok l
   |_=>trivial
  |_=>trivial
 |_=>trivial
end
noncomputable def MI(t v:Expr)(a:Str->Pos->Pos->β)(b:Str->Pos->Expr->List Comprehension->Scope->Pos->β)(c:β):β:=match t,v with
 | .Name x p,.List [] q=>a x p q
 | .Name x p,.ListComp elt gens sc q=>b x p elt gens sc q
 |_,_=>c
def Zx(t v:Expr):Prop:=∀{β:Type} (a:Str->Pos->Pos->β) (b:Str->Pos->Expr->List Comprehension->Scope->Pos->β) (c:β),MI t v a b c=c
theorem yT{P:Expr->Expr->Prop}(h1:∀n p q,P (.Name n p) (.List [] q))(h2:∀n p elt gens sc q,P (.Name n p) (.ListComp elt gens sc q))(h3:∀t v,Zx t v->P t v)(t v):P t v:=by
 induction t using Expr.casesOn with
 |Name n p=>
  induction v using Expr.casesOn with
  |List es q=>
   induction es using eZ with
   |nil=>exact h1 ..
   |cons=>exact h3 _ _ λY Y Y=>rfl
  |ListComp=>exact h2 ..
  |_=>exact h3 _ _ λY Y Y=>rfl
 |_=>exact h3 _ _ λY Y Y=>rfl
section
variable{P:AP}{a:Str}{C:Addr}{m:AV}
theorem yX(H:ze rc d)(cy:Rm c d)(hh:c.A.handled=none)(x:St c s J.heap f bA)(dG:c.cx.cs=none)(hp:∀p∈c.pin,dQ c.cx p.1=true){t v:Expr}:T c (PF c) (bL rc c.cx (.Assign [t] v pos) s) (exec (.Assign [t] v pos) c.ev) bA f J:=by
 show T c _ (match kn t v with
  |false=>.no
  |true=>(match t,v with
  | .Name x _,.List [] _=>(match dM x "seen" with
   |true=>(match cn c.cx x s,s.ss with|true,none=>.ok .next _|_,_=>.no)
   |false=>(rc.e c.cx v s).bind λo s=>bR rc c.cx t o s)
  | .Name x p,.ListComp elt gens sc _=>(iE rc c.cx elt gens sc s).noExc.bind λo s=>bR rc c.cx _ o s
  |_,_=>(match pK c.cx t v s with
   |some (x,o)=>bR rc c.cx t o _
   |none=>(rc.e c.cx v s).bind λo s=>bR rc c.cx t o s))) _ bA f J
 generalize ok:kn t v=zz;revert ok;induction zz using i8 with
 |false=>exact λY=>trivial
 |true=>
  refine yT (P:=λt v=>kn t v=true->T c _ (MI t v (λx Y Y=>(match dM x "seen" with
   |true=>(match cn c.cx x s,s.ss with|true,none=>.ok .next {s.set x _ with ss:=some []}|_,_=>.no)
   |false=>(rc.e c.cx v s).bind λo s=>bR rc c.cx t o s)) (λx p elt gens sc Y=>(iE rc c.cx elt gens sc s).noExc.bind λo s=>bR rc c.cx (.Name x p) o s) (match pK c.cx t v s with
   |some (x,o)=>bR rc c.cx t o (s.set x _)
   |none=>(rc.e c.cx v s).bind λo s=>bR rc c.cx t o s)) (exec (.Assign [t] v pos) c.ev) bA f J) (λn p q ok=>?_) (λn p elt gens sc q ok=>vO H cy x dG hp) (λt v nk ok=>?_) t v
  ·refine T.tree ?_ λQ E z=>mw ok (λY Y Y Y Y Y Y z=>nomatch z) z
   show T c _ (match dM n "seen" with
    |true=>(match cn c.cx n s,s.ss with|true,none=>.ok .next _|_,_=>.no)
    |false=>(rc.e c.cx _ s).bind λo s=>bR rc c.cx _ o s) _ bA f J
   obtain _|_:=dM n "seen"
   ·exact xc (λp=>H.e _ cy.pins) hh x hp
   ·rcases hb:cn c.cx n s with _|_<;>try trivial
    rcases hs:s.ss with _|_<;>try trivial
    exact vg x hp hb hs
  ·refine T.tree ?_ λQ E z=>mw ok (λy p elt gens sc q e1 e2=>?_) z
   ·rw[nk]
    refine eE (pK c.cx t v s) (λz=>xc (λp=>H.e _ cy.pins) hh x hp) λr z=>Bz (λp=>H.e _ cy.pins) hh x hp z
   ·subst e1 e2
    exact dT (nk (λY Y Y=>false) (λY Y Y Y Y Y=>false) true)
end
section
variable{P:AP}{a:Str}{C:Addr}{m:AV}
theorem wq.le(x:wq w h f ss)(le:f.Le f')(sn:∀b,f'.sn b↔f.sn b):wq w h f' ss:=by
 induction ss using i7 with
 |none=>exact λb q=>x b ((sn b).mp q)
 |some l=>
  refine jN x λa vs q1 q2 q3 q4=>(kf a vs (λb=>(sn b).trans (q1 b)) q2 (q3.mono (λa Y=>.refl h a) (λa Y=>.of_keep λY e=>e) le) q4)
theorem eD.with(r:eD w h f ov v F)(e:∀b,F b↔P b):eD w h f ov v P:=by
 rw[show P=F from funext λb=>propext (e b).symm];exact r
theorem St.seal1(x:St c s h f bA)(dG:c.cx.cs=none)(kd:c.fe.kindOf n=some .cell)(l:bD s.loc n=some (.v av)):
  ∃f' bF,St c (s.set n (.k av)) h f' bF/\Go bA h f bF h f'/\∃ca,c.fe.cells.lookup n=some ca/\f'.z ca:=by
 refine cC x.fr λmm F q1 Y=>dR (q1.cells n kd) ?_;rintro ca v0 e1 ⟨ob,e2,e3,e4⟩ e5
 have oc:=e5 (by unfold cw;rw[l])
 have fr:=(x.oo ca oc).1
 have le:=rq f ca
 have G:Go bA h f (λb=>bA b/\b≠ca) h _:=⟨λb Y=>.of_keep λY e=>e,le,λb q=>q.elim .inl λz=>.inr (.inl (by rw[z];exact oc)),λb q=>.inl q,λb q=>.inl q,λb q=>.inl q.1,aC _⟩
 have lk:∀y,bD (s.set n _).loc y=if n=y then some (.k av)else bD s.loc y:=λy=>dA ..
 have sl:∀y,n≠y->cw (s.set n _).loc y=cw s.loc y:=λy ne=>by unfold cw;rw[lk,au ne]
 have sn:cw (s.set n (.k av)).loc n=true:=by unfold cw;rw[lk,aA rfl]
 have OJ:∀y b,c.fe.cells.lookup y=some b->n≠y->bA b->b≠ca:=λy b z ne ob q=>ne (q1.cinj n y ca e1 (q▸z) fr.z)
 refine⟨f.addz ca,_,⟨⟨x.wd.base,x.wd.stat,x.wd.sbz,⟨λb q=>?_,λb q=>?_,x.wd.fok.ys⟩,λb q=>?_,x.wd.snl,x.wd.seen.le le λY=>.rfl⟩,λb q=>⟨⟨λz=>z.elim (x.oo b q.1).1.z q.2,(x.oo b q.1).1.y,(x.oo b q.1).1.sn,(x.oo b q.1).1.sb,(x.oo b q.1).1.out⟩,(x.oo b q.1).2⟩,x.frames,x.ff.go G λe he L q z=>(x.oo L z).1.out e he q,x.fe,x.fsc,x.ffr,x.ofr,λl e=>?_,(cz mm (λy b=>y≠n/\F y b) ?_ (λz=>by rw[dG]at z;exact dT z)),?_,x.pin⟩,G,ca,e1,.inr rfl⟩
 ·obtain q|q:=q
  ·exact x.wd.fok.zy b q
  ·exact q▸fr.y
 ·obtain q|q:=q
  ·exact x.wd.fok.zs b q
  ·exact q▸fr.sn
 ·obtain (q|q)|q:=q
  ·exact x.wd.zl b (.inl q)
  ·exact q▸(x.oo ca oc).2
  ·exact x.wd.zl b (.inr q)
 ·obtain⟨q,zX,ps,k1,k2,k3,k4⟩:=x.tab l e
  refine⟨⟨q,λz=>?_⟩,zX,ps,k1,k2,k3,k4⟩;have:=k3.2;rw[z,e2]at this;obtain rfl:=oI this;injection e3
 ·refine⟨q1.ns,q1.cls,⟨q1.ownL,λz=>q1.cL n ca e1 z.symm⟩,λy k=>?_,λy z b r1 r2 nz=>q1.cinj y z b r1 r2 λw=>nz (.inl w),q1.cL,λy b k=>?_,λy ob k=>?_,λy b k=>?_,λy z b k1 k2=>q1.fd y z b k1.2 k2.2,λy k=>?_⟩
  ·refine dR (q1.cells y k) λb vb r1 r2 r3=>(eF b vb r1 r2 (λz=>?_))
   by_cases ne:n=y
   ·rw[<-ne,sn]at z;exact tZ z
   ·rw[sl y ne]at z
    exact⟨r3 z,OJ y b r1 ne (r3 z)⟩
  ·obtain z|z:=q1.ck y b k
   ·by_cases ne:b=ca
    ·exact .inr (.inr ne)
    ·exact .inl ⟨z,ne⟩
   ·exact .inr (.inl z)
  ·rw[lk]at k
   split at k
   ·rename_i ne
    subst ne;obtain rfl:=oI k;refine dI (q1.loc n _ l) λvb r1 r2 r3=>(ej vb r1 ((eD.k (r2.inv_v.le le)).with λb=>⟨False.elim,λz=>z.1 rfl⟩) (λY b z=>?_))
    rw[e1]at z;obtain rfl:=oI z;exact .inr rfl
   ·rename_i ne
    refine dI (q1.loc y ob k) λvb r1 r2 r3=>(ej vb r1 (eD.with (r2.mono (λa Y=>.refl h a) (λa Y=>.of_keep λY e=>e) le λa Y=>.refl h a) λb=>⟨λz=>⟨Ne.symm ne,z⟩,λz=>z.2⟩) (λk b z=>.inl (r3 k b z)))
  ·refine i5 (q1.fo y b k.2) λz1 z2 z3 z4 z5=>(mL ⟨z1,λz=>z3 n ca e1 z⟩ z2 z3 (by rw[lk,au (Ne.symm k.1)];exact z4) z5)
  ·by_cases ne:n=y
   ·rw[<-ne];exact sn
   ·rw[sl y ne];exact q1.free y k
 ·have q:=x.comp
  rw[dG]at q⊢;exact q
def uI(c:Fm)(h:Heap)(f:Fz)(n:Str)(av:AV):Prop:=
 ∃ca v,c.fe.cells.lookup n=some ca/\f.z ca/\(∃o,h.get? ca=some o/\o.cls=.type "cell"/\o.data=.cell (some v))/\VR c.w h f av v
theorem uI.le(x:uI c h f n av)(le:f.Le f'):uI c h f' n av:=let⟨ca,v,e1,e2,e3,e4⟩:=x;⟨ca,v,e1,le.z ca e2,e3,e4.le le⟩
protected theorem St.caps (x:St c s h f bA) (kd:c.fe.kindOf n=some .cell) (l:bD s.loc n=some (.k av)):uI c h f n av:=by
 refine cC x.fr λmm F q1 Y=>dR (q1.cells n kd) ?_;rintro ca v0 e1 ⟨ob,e2,e3,e4⟩ e5
 refine dI (q1.loc n _ l) λv r1 r2 r3=>?_;unfold dq at r1;rw[kd]at r1;obtain⟨ZY,z1,o',z2,z3⟩:=r1;rw[e1]at z1;obtain rfl:=oI z1;rw[e2]at z2;obtain rfl:=oI z2;rw[e4]at z3;(injection z3 with zz;subst zz)
 exact(kf ca v e1 (r3 rfl ca e1) (ej ob e2 e3 e4) r2.inv_k)
def zQ(s:S)(n:Str)(av:AV):Prop:=bD s.loc n=some (.v av)\/bD s.loc n=some (.k av)
theorem St.seal(dG:c.cx.cs=none):∀{l:LE} {s} {f} {bA},St c s h f bA->(∀p∈l,c.fe.kindOf p.1=some .cell/\zQ s p.1 p.2)->∃f' bF,St c (nR l s) h f' bF/\Go bA h f bF h f'/\∀p∈l,uI c h f' p.1 p.2:=by
 intro l;induction l with
 |nil=>intro s f bA x H;exact(eF f bA x (Go.refl ..) nofun)
 |cons hd l ih=>
  obtain⟨n,av⟩:=hd;intro s f bA x H;refine cH (H _ (.head _)) λkd hd=>?_;have lk:∀y,bD (s.set n _).loc y=if n=y then some (.k av)else bD s.loc y:=λy=>dA ..
  obtain⟨bU,bE,x1,G1⟩:∃f' bF,St c (s.set n (.k av)) h f' bF/\Go bA h f bF h f':=by
   obtain hd|hd:=hd
   ·refine dR (x.seal1 dG kd hd) λbU bE x1 G1 Y=>(cz bU bE x1 G1)
   ·exact⟨f,bA,x.ext rfl rfl rfl λy=>by
     rw[lk];split
     ·rename_i q;rw[<-q];exact hd.symm
     ·rfl,Go.refl ..⟩
  have H':∀p∈l,c.fe.kindOf p.1=some .cell/\zQ _ p.1 p.2:=λp hp=>by
   refine cH (H p (.tail _ hp)) λz1 z2=>⟨z1,?_⟩
   unfold zQ;rw[lk]
   split
   ·rename_i q
    refine .inr ?_;rw[<-q]at z2;obtain z|z:=z2<;>obtain w|w:=hd<;>rw[w]at z<;>(first|(injection z with zz;injection zz with zz;subst zz)|(injection z with zz;injection zz))<;>rfl
   ·exact z2
  refine dR (ih x1 H') λec fh x2 G2 H2=>(eF ec fh x2 (G1.trans G2 G1.no) (λp hp=>?_))
  obtain z|z:=List.mem_cons.mp hp
  ·subst z
   exact(x1.caps kd (by rw[lk,aA rfl])).le G2.le
  ·exact H2 p z
theorem tP{l:List (Str×NameKind)}(e:gv s ((x,.free)::l)=some caps):∃a r,gv s l=some r/\caps=(x,a)::r/\zQ s x a:=by
 have e:(match bD s.loc x,gv s l with
  |some (.v a),some r=>some _
  |some (.k a),some r=>some _
  |_,_=>none)=some caps:=e
 generalize gv s l=o at e⊢;rcases q:bD s.loc x with _|ov<;>rw[q]at e
 ·exact c8 e
 obtain _|r:=o
 ·obtain _|_:=ov<;>exact c8 e
 obtain a|a|_|_|_:=ov<;>try exact c8 e
 ·exact eF a r rfl (oI e).symm (.inl q)
 ·exact eF a r rfl (oI e).symm (.inr q)
theorem rA{k:NameKind}{l:List (Str×NameKind)}(nk:k≠.free)(e:gv s ((x,k)::l)=some caps):gv s l=some caps:=by
 obtain _|_:=k<;>first|exact e|exact absurd rfl nk
theorem yQ(e:gv s names=some caps):(∀p∈caps,(p.1,NameKind.free)∈names/\zQ s p.1 p.2)/\∀x,(x,NameKind.free)∈names->∃a,(x,a)∈caps:=by
 induction names generalizing caps with
 |nil=>obtain rfl:=oI e;exact⟨nofun,nofun⟩
 |cons p l ih=>
  obtain⟨x,k⟩:=p;by_cases nk:k=.free
  ·subst nk
   refine dR (tP e) ?_;rintro a r er rfl hd;refine cH (ih er) λh1 h2=>⟨λp hp=>?_,λy hy=>?_⟩
   ·obtain z|z:=List.mem_cons.mp hp
    ·subst z;exact⟨.head _,hd⟩
    ·exact⟨.tail _ (h1 p z).1,(h1 p z).2⟩
   ·obtain z|z:=List.mem_cons.mp hy
    ·injection z with z _;exact⟨a,z▸.head _⟩
    ·refine cF (h2 y z) λa ha=>?_;exact⟨a,.tail _ ha⟩
  ·refine cH (ih (rA nk e)) λh1 h2=>⟨λp hp=>⟨.tail _ (h1 p hp).1,(h1 p hp).2⟩,λy hy=>?_⟩
   obtain z|z:=List.mem_cons.mp hy
   ·injection z with _ z;exact absurd z.symm nk
   ·exact h2 y z
theorem vK:∀{names} {acc} {p},p∈gw cells names acc->p∈acc\/(p.1,NameKind.free)∈names:=by
 intro names;induction names with
 |nil=>intro acc p m;exact .inl m
 |cons hd l ih=>
  obtain⟨x,k⟩:=hd;intro acc p m;obtain _|_:=k<;>first
   |exact(ih m).imp_right λq=>.tail _ q
   |(obtain z|z:=ih m
     ·obtain w|w:=List.mem_cons.mp z
      ·subst w;exact .inr (.head _)
      ·exact .inl w
     ·exact .inr (.tail _ z))
theorem ue.of_caps(hc:∀y b,c.fe.cells.lookup y=some b->(∃a,(y,a)∈cl)->cl.lookup y=some b):∀{l:LE},(∀p∈l,uI c h f p.1 p.2/\∃a,(p.1,a)∈cl)->ue c.w h f l cl:=by
 intro l;induction l with
 |nil=>intro _;exact .nil
 |cons hd l ih=>
  obtain⟨n,av⟩:=hd;refine λH=>cH (H _ (.head _)) ?_;rintro⟨ca,v,e1,e2,⟨ob,e3,e4,e5⟩,e6⟩ e7
  exact .cons (hc n ca e1 e7) e2 e3 e4 e5 e6 (ih λp hp=>H p (.tail _ hp))
end
section
variable{P:AP}{a:Str}{C:Addr}{m:AV}
theorem FP(P):(KF P).lookup 4=some {cls:=.type "module",dict:=some 0,data:=.plain,slots:= #[]}:=by kernel_rfl
theorem Ku(P):nsIn (KF P) 3 "__builtins__"=some (some (.ref 4)):=by kernel_rfl
theorem KD{P:Params}(X:(KF P).In h)(k:∀b o,b≠Pt->h.get? b=some o->h'.get? b=some o):(KF P).In h':=HL X λa o ne e=>k a o ne e
theorem tR(X:(KF w.params).In J.heap){r:Addr}{Q:QS Addr}(k:Q builtinsNs J):wpAny M A (builtinsFor mainNs r) Q E J:=by
 have h3:J.heap.Ns 3 _:=.of_isNs (isNs_of_in X (Rj _))
 exact wpAny_builtinsFor h3 (v9 X h3 (Ku _)) (by decide) (X 4 _ (FP _)) rfl rfl rfl k
theorem oF{c:Value}(hp:pos.line<p.line)(l:LV)(ht:TriplesOk l)(hn:codeAmong p l=none):codeAmong p (l++[rawInt pos.line,rawInt pos.col,c])=none:=by
 fun_induction TriplesOk l with
 |case1=>
  have:¬((pos.line:Int)=p.line):=by lia
  simp[codeAmong,rawInt,this]
 |case2 a b c' l x1 x2 ih=>
  simp only[List.cons_append,codeAmong]at hn⊢
  split at hn
  ·exact zi hn
  ·rename_i z
   rw[au z];exact ih ht hn
 |case3=>exact ht.elim
theorem pM(k:∀o,h.get? I=some o->h'.get? I=some o):ed h h' I:=λo e=>.inl (k o e)
theorem FR.tabT{F:Str->AP}(fr:FR c s h f bA mm F)(hP:ni c f Pt)(hf:Pt<c.sb.objs.size)(ho:∀o,h.get? Pt=some o->o.cls=.none)(kp:∀b o,b≠Pt->h.get? b=some o->h'.get? b=some o)(hl:c.sb.objs.size<=c.fe.locals):FR c s h' f bA mm F/\∀n v,cQ c h n v->cQ c h' n v:=by
 have hz:=λa q=>pM (kp a · λz=>hP.z (z▸q))
 have nl:c.fe.locals≠Pt:=λz=>absurd hf (Nat.not_lt.mpr (z▸hl))
 have hc:∀y,c.fe.kindOf y=some .cell->∀a,c.fe.cells.lookup y=some a->a≠Pt:=λy k a e z=>by
  refine dR (fr.cells y k) ?_;rintro a' v e1 ⟨ob,e2,e3,_⟩ _;rw[e]at e1;obtain rfl:=oI e1;have:=ho ob (z▸e2);rw[e3]at this;injection this
 have hk:∀{n} {v} {mm},dq c.fe h mm n v->dq c.fe h' mm n v:=λ{n v mm} r=>r.hard λa q kk=>by
  obtain kk|kk:=kk
  ·exact pM (kp a · (hc n kk a q))
  ·refine cF (oh (fr.free n kk)) λb hb=>dI (fr.loc n _ hb) λv Y Y z=>hz a (z rfl a q)
 refine⟨⟨fr.ns.at (kp _ · nl),?_,fr.ownL,λy k=>?_,fr.cinj,fr.cL,fr.ck,λy ob k=>?_,fr.fo,fr.fd,fr.free⟩,λn v z=>bW z λm' e1 e2=>(cf m' (e1.at (kp _ · nl)) (hk e2))⟩
 ·refine bW fr.cls λo e q=>(cf o (kp _ _ nl e) q)
 ·refine dR (fr.cells y k) ?_;rintro a v e1 ⟨ob,e2,e3⟩ e4
  exact(eF a v e1 (cf ob (kp _ _ (hc y k a e1) e2) e3) e4)
 ·refine dI (fr.loc y ob k) λv e1 e2 e3=>(ej v (hk e1) (e2.mono hz (λa q=>.of_keep (kp a · λz=>hP.y (z▸q))) (.refl f) λa q=>pM (kp a · λz=>absurd hf (Nat.not_lt.mpr (z▸(fr.fo y a q).2.2.2.2)))) e3)
theorem St.tabT(x:St c s h f bA)(dG:c.cx.cs=none){l l':Nat}(hl:s.dl=some l)(kp:∀b o,b≠Pt->h.get? b=some o->h'.get? b=some o)(sz:h.objs.size<=h'.objs.size)(tb:∃ps,h'.IsCode 1416 Pt ps/\h'.TableAt 1416 Pt ps/\∀p,l'<p.line->codeAmong p ps.toList=none):St c {s with dl:=some l'} h' f bA/\Go bA h f bA h' f:=by
 obtain⟨oP,⟨zX,AQ⟩,ps,k1,k2,k3,k4⟩:=x.tab l hl;have fr:=(x.oo Pt oP).1;refine cC x.fr λmm F q1 q2=>?_;have q3:=q1.tabT fr (Nat.lt_trans (by decide) (aF AQ)) (λo e=>by rw[k3.2]at e;obtain rfl:=oI e;rfl) kp x.ffr.2
 refine⟨⟨⟨x.wd.base,λa o p e=>kp a o p (x.wd.stat a o p e),aq x.wd.sbz sz,x.wd.fok,λb q=>aK (x.wd.zl b q) sz,x.wd.snl,?_⟩,λb q=>⟨(x.oo b q).1,aK (x.oo b q).2 sz⟩,x.frames,x.ff.go ⟨λb ne=>.of_keep (kp b · ne),.refl f,λb q=>.inl q,λb q=>.inl q,λb q=>.inl q,λb q=>.inl q,sz⟩ λe he L q z=>fr.out e he (z▸q),x.fe,x.fsc,x.ffr,x.ofr,λl e=>?_,(cz mm F ?_ (λz=>by rw[dG]at z;exact dT z)),?_,λq hq=>q3.2 _ _ (x.pin q hq)⟩,λb ne=>.of_keep (kp b · λz=>ne (z▸oP)),.refl f,λb q=>.inl q,λb q=>.inl q,λb q=>.inl q,λb q=>.inl q,sz⟩
 ·have z:=x.wd.seen
  refine eE s.ss (λe=>by rw[e]at z;exact z) λl e=>?_
  rw[e]at z;refine jN z ?_;rintro a vs q1 ⟨k,q2⟩ q3 q4;exact(kf a vs q1 ⟨k,kp a _ (λz=>fr.sn ((q1 Pt).mpr z.symm)) q2⟩ (q3.mono (λa q=>pM (kp a · λz=>fr.z (z▸q))) (λa q=>.of_keep (kp a · λz=>fr.y (z▸q))) (.refl f)) q4)
 ·obtain rfl:=oI e
  refine dI tb λXU t1 t2 t3=>⟨oP,⟨zX,AQ⟩,XU,k1,t1,t2,t3⟩
 ·have q:=q3.1
  exact⟨q.ns,q.cls,q.ownL,q.cells,q.cinj,q.cL,q.ck,q.loc,q.fo,q.fd,q.free⟩
 ·have q:=x.comp
  rw[dG]at q⊢;exact q
theorem Bx:∀{l},pJ l=true->annotationsOf l env=[]:=by
 intro l;induction l with
 |nil=>intro _;exact rfl
 |cons hd l ih=>
  obtain⟨n,an,p⟩:=hd;intro e;induction an using i7 with
  |some _=>exact dT e
  |none=>exact(ih e)
theorem Cg{b:List Stmt}(na:pJ ar=true){Q:QS Flow}(z:wpAny M A (standAt pos>>=λY=>makeFunction n (qualnameIn env n bd) ⟨[],ar,none,[],[],none,[]⟩ (.stmts b) sc env [] [] [] pos pos.line>>=λu=>standAt pos>>=λY=>bindName env bd u>>=λY=>pure Flow.next) Q E J):
  wpAny M A (exec (.FunctionDef n ⟨[],ar,none,[],[],none,[]⟩ b [] none [] sc none bd pos) env) Q E J:=by
 have Yg:annotationsOf (ar++[]++none.toList++[]++none.toList) env=[]:=by simp only[Option.toList_none,aU];exact Bx na
 rw[arm_exec_FunctionDef];unfold defStmt;dsimp only;rw[Yg];exact z
end
section
variable{P:AP}{a:Str}{C:Addr}{m:AV}
structure Qf(h h':Heap)(c':Addr)(fd:FuncData)(st:Stmt)(cl:List (Str×Addr))(l':Nat):Prop where
 kp:∀b o,b≠Pt->h.get? b=some o->h'.get? b=some o
 sz:h.objs.size<=h'.objs.size
 tb:∃ps,h'.IsCode 1416 Pt ps/\h'.TableAt 1416 Pt ps/\∀p:Pos,l'<p.line->codeAmong p ps.toList=none
 new:h.objs.size<=c'/\c'<h'.objs.size
 cls:∃o,h'.get? c'=some o/\o.cls=.type "code"
 code:fd.code=.ref c'
 cr:h'.CodeRec fd.code fd.qualname
 of:xJ st fd
 clos:fd.closure=cl
theorem BB(x:St c s J.heap f bA)(jv:c.ev=c.fe){l:Nat}(hl:s.dl=some l)(lt:l<pos.line)(Lp:closureFor sc c.ev=pure cl){b:List Stmt}(UN:docOf b=none){ar:Arguments}{Q:VP}(k:∀c' h' tk fd,Qf J.heap h' c' fd (.FunctionDef nm ar b [] none [] sc none bd pos) cl pos.line->Q (.ref h'.objs.size) {J with heap:=h'.push {cls:=.type "function",data:=.func fd},toks:=tk}):
  wpAny M A (makeFunction nm qn ar (.stmts b) sc c.ev [] [] [] pos pos.line) Q E J:=by
 obtain⟨oP,_,ps,k1,k2,k3,k4⟩:=x.tab l hl;simp only[makeFunction,List.zip_nil_right,List.filterMap_nil,List.isEmpty_nil,if_true,pure_bind,Lp,UN];have tail:∀(tu:Value) (d9:Heap),(∀a o,J.heap.get? a=some o->d9.get? a=some o)->J.heap.objs.size<=d9.objs.size->wpAny M A (do
   let cd<-functionCode c.ev pos pos.line nm qn ar sc (.stmts b)
   let bu<-builtinsFor c.ev.globals c.ev.builtins
   let mo<-nsGet c.ev.globals "__name__"
   newObj (.type "function") (.func {name:=nm,qualname:=qn,params:=ar,body:=.stmts b,scope:=sc,globals:=c.ev.globals,closure:=cl,closureTuple:=tu,defaults:=.none,kwdefaults:=.none,pyModule:=mo.getD .none,code:=cd,builtins:=bu})) Q E {J with heap:=d9}:=by
  intro tu d9 Rt Wl;refine af (wpAny_functionCodeX (by rw[jv];exact k1) (k2.keeps Rt) (k3.keeps Rt) (k4 pos lt) λc' h' tk hx WR WO Yz UE Yu UI=>?_)
  have kp:=λb o ne e=>hx b o ne (Rt b o e)
  have X':=KD x.X kp
  rw[jv,x.fe.glob];refine af (tR X' (af (wpAny_nsGet (.of_isNs (isNs_of_in X' (Rj _))) ?_)));refine af (wpAny_alloc (aj (k c' h' tk _ ⟨kp,aq Wl (aq WR (Nat.le_of_lt WO)),(ej _ Yz Yu (λp hp=>?_)),⟨aq Wl WR,WO⟩,?_,rfl,UE,(V1 rfl rfl rfl rfl rfl rfl rfl),rfl⟩)))
  ·have tr:TriplesOk ps.toList:=by refine Bc k2 λY Y Y Y Y Y Y Y Y Y Y Y Y Y Y Y Y Y Y r Y=>?_;exact r
   rw[show(ps++ #[rawInt pos.line,rawInt pos.col,Value.ref c']).toList=ps.toList++[rawInt pos.line,rawInt pos.col,.ref c'] by simp]
   exact oF hp _ tr (k4 p (Nat.lt_trans lt hp))
  ·refine dI UI ?_;rintro P' _ _ ⟨⟨o,vs,e1,e2,_⟩,_⟩
   exact(cf o e1 e2)
 split
 ·exact tail .none J.heap (λY Y e=>e) (aC _)
 ·exact af (wpAny_newTextTuple (tail _ _ (bZ _ _) (de _ _)))
theorem oj:∀{l:LE} {s},(nR l s).dl=s.dl:=by
 intro l;induction l with
 |nil=>intro _;exact rfl
 |cons hd l ih=>obtain⟨n,av⟩:=hd;intro s;exact ih
theorem Ci{b:List Stmt}(e:sr ar b=true):pJ ar=true/\docOf b=none:=by
 unfold sr at e;generalize pJ ar=p at e⊢;generalize docOf b=q at e⊢;obtain _|_:=p
 ·exact dT e
 obtain _|_:=q
 ·exact⟨rfl,rfl⟩
 ·exact dT e
theorem tM(H:∀x,(x,NameKind.free)∈names->(cells.lookup x).isSome){b:Addr}(e:cells.lookup y=some b)(m:∃a,(y,a)∈gw cells names []):(gw cells names []).lookup y=some b:=by
 refine cF m λa ha=>bW (jI ha) λb' e1 e2=>?_
 have e3:cells.lookup y=some b':=lL H (λY q=>(List.not_mem_nil q).elim) _ e2
 rw[e]at e3;obtain rfl:=oI e3;exact e1
theorem KI(x:St c s J.heap f bA)(dG:c.cx.cs=none)(hp:∀p∈c.pin,dQ c.cx p.1=true){l:Nat}(hl:s.dl=some l)(lt:l<pos.line){bd:Str}{b:List Stmt}(hc:gv s sc.names=some caps)(fk:dJ c.cx sc.names=true)(dk:sr ar b=true)(hb:cn c.cx bd (nR caps s)=true):
  T c (PF c) (.ok Fl.next {(nR caps s).set bd (.v (.clo (.FunctionDef nm ⟨[],ar,none,[],[],none,[]⟩ b [] none [] sc none bd pos) caps))with dl:=some pos.line}) (exec (.FunctionDef nm ⟨[],ar,none,[],[],none,[]⟩ b [] none [] sc none bd pos) c.ev) bA f J:=by
 have jv:c.ev=c.fe:=by
  have q:=x.comp
  rw[dG]at q;exact q
 refine cH (Ci dk) λna nd=>?_;refine cH (yQ hc) λII Vr=>?_;have H:=x.clos fk;refine dR (St.seal dG x (l:=caps) λp hp=>⟨(H p.1 (II p hp).1).2,(II p hp).2⟩) λbU bE x1 G1 cp=>?_
 refine T.ret (Cg na (af (ay (af ?_))));refine BB x1 jv (oj.trans hl) lt (x1.closure jv fk) nd (nm:=nm) (bd:=bd) λc' h' tk fd md=>?_;refine af (ay (af ?_));refine cH (x1.tabT dG (oj.trans hl) md.kp md.sz md.tb) λx2 G2=>?_;have Rr:∀b o,b≠Pt->J.heap.get? b=some o->(h'.push {cls:=.type "function",data:=.func fd}).get? b=some o:=λb o ne e=>bZ _ _ b o (md.kp b o ne e)
 have Xu:(h'.push {cls:=.type "function",data:=.func fd}).objs.size=h'.objs.size+1:=aS ..
 have hF:eX c bU bE λb=>b=h'.objs.size\/b=c':=λb q=>by
  obtain q|q:=q
  ·exact x1.fresh1 (q▸md.sz)
  ·exact x1.fresh1 (q▸md.new.1)
 have le:bU.Le ⟨λb=>bU.z b\/b=h'.objs.size\/b=c',bU.y,bU.sn⟩:=⟨λY q=>.inl q,λY q=>q,λY q=>q⟩
 obtain⟨G4,x4⟩:=(x2.push {cls:=.type "function",data:=.func fd}).lay hF (λb q=>by
  rw[Xu];obtain q|q:=q
  ·rw[q];exact bp _
  ·rw[q];exact Nat.lt_succ_of_lt md.new.2) le ⟨λb q=>q.elim (x1.wd.fok.zy b) λq=>(hF b q).2.1.y,λb q=>q.elim (x1.wd.fok.zs b) λq=>(hF b q).2.1.sn,x1.wd.fok.ys⟩ (λY q=>q) (λY q=>.inl q) λY=>.rfl
 have oP:=(x2.tab _ rfl).1
 have nP:∀b,bU.z b->b≠Pt:=λb q z=>(x2.oo Pt oP).1.z (z▸q)
 have kz:=λb q o e=>Rr b o (nP b q) e
 have W8:∀p∈caps,uI c _ ⟨λb=>bU.z b\/b=h'.objs.size\/b=c',bU.y,bU.sn⟩ p.1 p.2:=λp hp=>by
  refine jN (cp p hp) ?_;rintro ca u z1 z2 ⟨o,z3,z4⟩ z5;exact(kf ca u z1 (.inl z2) (cf o (kz ca z2 o z3) z4) (z5.mono (λb q=>pM (kz b q)) (λb q=>.of_keep λo e=>Rr b o (λz=>(x2.oo Pt oP).1.y (z▸q)) e) le))
 have vr:VR c.w (h'.push {cls:=.type "function",data:=.func fd}) ⟨λb=>bU.z b\/b=h'.objs.size\/b=c',bU.y,bU.sn⟩ (.clo (.FunctionDef nm ⟨[],ar,none,[],[],none,[]⟩ b [] none [] sc none bd pos) caps) (.ref h'.objs.size):=by
  refine .clo (.inr (.inl rfl)) (aE _ rfl) rfl rfl md.of (md.cr.push _) (λb o z1 z2=>?_) (λy b z=>?_) ?_
  ·rw[md.code]at z1;(injection z1 with zz;subst zz)
   refine bW md.cls λo' e1 e2=>?_;rw[bZ _ _ _ _ e1]at z2;obtain rfl:=oI z2;exact⟨.inr (.inr rfl),by rw[e2];decide⟩
  ·rw[md.clos]at z
   have m:=mem_of_lookup z
   have e1:c.fe.cells.lookup y=some b:=lL (λy m=>(H y m).1) (λY q=>(List.not_mem_nil q).elim) (y,b) m
   refine cF (Vr y ((vK m).resolve_left List.not_mem_nil)) λav ha=>?_;refine dR (W8 (y,av) ha) λca u z1 z2 Y=>?_;rw[e1]at z1;obtain rfl:=oI z1;exact z2
  ·rw[md.clos]
   exact ue.of_caps (λy b e m=>tM (λy m=>(H y m).1) e m) λp hp=>⟨W8 p hp,qj (II p hp).1⟩
 refine ju x4 (jQ hp hb) hb (G:=λY=>False) (.fl (.v vr)) nofun rfl λbT bF po=>aj (cz _ bF ⟨po.st,?_,po.rest⟩ trivial)
 have X9:bE Pt:=(x1.tab _ (oj.trans hl)).1
 exact(G1.trans ⟨λb q=>.of_keep λo e=>Rr b o (λz=>q (z▸X9)) e,le,λb q=>q.elim .inl λq=>.inr (.inr (q.elim (λz=>z▸md.sz) λz=>z▸md.new.1)),λb q=>.inl q,λb q=>.inl q,λb q=>.inl q,aq md.sz (de _ _)⟩ G1.no).trans (po.go.more' λb q=>q.elim id False.elim) λb q=>(G1.no b q).imp_right id
end
section
open Builtin
noncomputable def GD:LV:=[.type "Exception",.type "BaseException",.type "object"]
def MB(P:Params):Bool:=tailIn (KF P) GD (.ref 342::GD)&&findIn (KF P) (.ref dp) "__init__"==some (some (.ref 359))&&typeIn (KF P) (.ref 359)==some (.type "function")&&instIn (KF P) (.ref dp) (.type "type")==some true&&specialIn (KF P) (.ref dp) "__call__"==some (some (.builtin "type.__call__"))&&mroIn (KF P) dp (.ref dp)==some true&&
 findIn (KF P) (.ref dp) "__setattr__"==some (some (.builtin "object.__setattr__"))&&takerIn (KF P) dp "message"==some none&&mroIn (KF P) dp (.type "object")==some true&&keepIn (KF P) (.ref dp)&&mroIn (KF P) dp (.type "BaseException")==some true
theorem FL(P):MB P=true:=by kernel_rfl
structure V3(P:Params):Prop where
 tail:tailIn (KF P) GD (.ref 342::GD)=true
 init:findIn (KF P) (.ref dp) "__init__"=some (some (.ref 359))
 fn:typeIn (KF P) (.ref 359)=some (.type "function")
 typ:instIn (KF P) (.ref dp) (.type "type")=some true
 call:specialIn (KF P) (.ref dp) "__call__"=some (some (.builtin "type.__call__"))
 self:mroIn (KF P) dp (.ref dp)=some true
 sa:findIn (KF P) (.ref dp) "__setattr__"=some (some (.builtin "object.__setattr__"))
 tk:takerIn (KF P) dp "message"=some none
 top:mroIn (KF P) dp (.type "object")=some true
 keep:keepIn (KF P) (.ref dp)=true
 base:mroIn (KF P) dp (.type "BaseException")=some true
theorem zI(P):V3 P:=by
 have z:=FL P
 unfold MB at z;simp only[aO,beq_iff_eq]at z;refine cH z ?_;rintro⟨⟨⟨⟨⟨⟨⟨⟨⟨z1,z2⟩,z3⟩,z4⟩,z5⟩,z6⟩,z7⟩,z8⟩,z9⟩,Xf⟩ Xe;exact⟨z1,z2,z3,z4,z5,z6,z7,z8,z9,Xf,Xe⟩
theorem mT(P):(KF P).lookup dp=some (excClassObj "Refusal" "Refusal" dp 361 [.ref 342] (.ref 342::GD) true [] [] false none none (some (.ref 346)) none (some (vS "Refusal" 640)) (some (vS "Refusal" 648)) (some (.bool true)) "Exception.__new__"):=by kernel_rfl
section
variable{R:QS Result}{g:Array GenState}{d:Drawn}{t:Nat}{os:OsState}
abbrev uV(tu:Addr):Obj:={cls:=.ref dp,data:=.fields #[.ref tu,.none,.none,.none,.bool false,.none]}
abbrev jq(h:Heap)(rest:LV):Heap:=(h.push {cls:=.type "tuple",data:=.seq rest.toArray}).push (uV h.objs.size)
theorem B0(X:(KF w.params).In h)(Pa:rest.length<=sizeLine)(hq:codeAny (Md w) (A.under (.builtin "type.__call__" ⟨.ref dp::rest,[]⟩)) (.call (.ref 359) ⟨.ref (h.objs.size+1)::rest,[]⟩) (InitBack (h.objs.size+1) R) ⟨jq h rest,g,d,t,os⟩):
  codeAny (Md w) A (.call (.ref dp) ⟨rest,[]⟩) R ⟨h,g,d,t,os⟩:=by
 have K:=zI w.params
 have hC:=X _ _ (mT w.params)
 have T:=tail_of_in X K.tail
 have F:=PySem.F.excBase_Exception
 refine codeAny_of_tree<|nd_load hC ?_;show wpAny _ _ (callAny.viaDunder _ _) _ _ _;refine af ((looks_specialIn (M:=Md w) X K.call).at ?_);refine af (aj (af (aj ?_)));refine aj (a:=Fin.again (.call _ ⟨.ref dp::rest,[]⟩)) (And.intro rfl ?_);refine codeAny_call_builtin_at (Code.quiet_builtin _ (by decide+kernel)) entry_typeCall (check_slot tc_kind tc_split (looks_instIn (M:=Md w) X K.typ) (tc_args _ _ _) ?_)
 have made:Looks (Md w) h (Bind.madeBy (.ref dp)) (some "Exception.__new__"):=by
  intro A Q E s k q;obtain⟨h',g',d',t',ZO⟩:=s;exact wpAny_madeBy_exc (k _ _ hC) q
 repeat (first|simp only[if_false]|with_reducible refine bz ?_|lk)
 refine codeAny_call_builtin_code (Code.quiet_builtin _ F.quiet) (wpAny_check_new_subT F T hC ?_);refine codeAny_exc_new_subT F T hC ?_ Pa;have k:∀b o,h.get? b=some o->(jq h rest).get? b=some o:=λb o e=>aG _ (aG _ e)
 have hx:(jq h rest).get? (h.objs.size+1)=some (uV h.objs.size):=by heap_get
 have s1:=(looks_mroIn (M:=Md w) X K.self).keeps k
 have i1:=(looks_findIn (M:=Md w) X K.init).keeps k
 have b1:=(bind_fn (M:=Md w) X (.ref (h.objs.size+1)) K.fn).keeps k
 repeat (first|with_reducible refine bz ?_|lk)
 refine bt hq λr s' z=>?_;obtain e|(v|_|_|_):=r<;>first|exact z|exact z.elim|skip
 refine cH z ?_;rintro rfl z;exact aj (aj z)
end
end
section
open Builtin Builtin.ObjectAttr
section
variable{vs:Array Value}
def Zm:ClassData:={name:="Refusal",bases:=[.ref 342],mro:=.ref dp::.ref 342::GD,ns:=361,qualname:="Refusal",hasDict:=true,slotNames:=[],subclasses:=[],abstract:=false,collection:=none,hasDel:=false}
theorem Hq(P):clsIn (KF P) dp=some Zm:=by unfold clsIn;rw[mT];rfl
theorem KL(self):refuseLoop self "__setattr__" (.ref dp::.ref 342::GD)=pure ():=by
 rw[refuseLoop_ref];kernel_rfl
theorem Fh(X:(KF w.params).In J.heap)(e:J.heap.get? ea=some ⟨.ref dp,none,.fields vs,sl⟩){R:QS Result}(k:∀h' tk,h'.get? ea=some ⟨.ref dp,some J.heap.objs.size,.fields vs,sl⟩->h'.Ns1 J.heap.objs.size (λx=>if x=("message":Str)then some v else none)->(∀b o,b≠ea->J.heap.get? b=some o->h'.get? b=some o)->J.heap.objs.size<h'.objs.size->R (.ok (.ret .none)) {J with heap:=h',toks:=tk}):codeAny (Md w) A (.call (.builtin "object.__setattr__") ⟨[.ref ea,.str "message" tk,v],[]⟩) R J:=by
 have K:=zI w.params
 have I:InstAt J.heap ea ⟨.ref dp,none,.fields vs,sl⟩ dp none:=⟨e,rfl,rfl,trivial⟩
 have hc:=looks_clsIn (M:=Md w) X (Hq w.params)
 have hm:Looks _ J.heap (mroOf (.ref dp)) _:=hc.andThen .now
 have SF:=PySem.F.store_object
 refine codeAny_call_builtin SF.slot.plain SF.entry (@check_slot _ _ _ J "object.__setattr__" "object" "__setattr__" (.ref ea) [.str "message" tk,v] [] _ SF.kind SF.split (I.type.andThen (looks_mroIn X K.top)) (SF.args _ _ v) ?_);obtain⟨uE,ha,hr⟩:=Option.bind_eq_some_iff.mp K.tk;have L3:Looks (Md w) J.heap (storeTaker? uE) none:=by
  induction uE using i7 with
  |none=>obtain _|_:=hr;exact .now
  |some a=>
   obtain⟨b,hb,YL⟩:=Option.map_eq_some_iff.mp hr;refine(looks_takesIn X hb).andThen ?_;obtain _|_:=b
   ·exact .now
   ·exact zi YL
 rw[osa_eq,refuse_eq];refine af (af (I.type.here (af (hm.here ?_))));refine aj (af (I.type.here (af ((looks_findIn X ha).here (af (L3.here ?_))))));refine af (aj (af (af (wpAny_loadPart e (af (hc.here ?_))))));refine af (wpAny_alloc (af (wpAny_update (aG _ e) ?_)));refine aj (af (aj (af ?_)));have ne:=Nat.ne_of_gt (aF e);have sb:=aI (h:=J.heap.push {cls:=.type "dict",data:=.dict #[]}) (a:=ea) (f:=λo=>{o with dict:=some J.heap.objs.size})
 have he:((J.heap.push {cls:=.type "dict",data:=.dict #[]}).update ea λo=>{o with dict:=some J.heap.objs.size}).get? ea=some ⟨.ref dp,some J.heap.objs.size,.fields vs,sl⟩:=aX _ (aG _ e) rfl
 refine gJ ((Heap.Ns1.of_empty (Heap.Ns.new J.heap (.type "dict"))).sameBut sb ne) ((sb.2 _ ne).trans (aE _ rfl)) λh' o' rI hs rH sh=>?_;obtain⟨o2,YY,YZ,g1,g2,g3⟩:=wI (L:=["message"]) rI λk hk=>by
  by_cases q:k=("message")
  ·subst q;exact .head _
  ·rw[au q]at hk;exact absurd rfl hk
 rw[rH]at g1;obtain rfl:=oI g1;refine af (wpAny_lookBehind rH (by rw[g2];exact pastItsLine_dict (by rw[aW];exact aq g3 (by decide))) ?_)
 refine aj (k _ _ ((hs.2 _ (Ne.symm ne)).trans he) rI (λb o nb z=>((hs.2 _ (λq=>by rw[q]at z;exact Nat.lt_irrefl _ (aF z))).trans ((sb.2 _ nb).trans (aG _ z)))) ?_)
 ·rw[hs.1,sb.1,aS];exact bp _
theorem Fg(X:(KF w.params).In J.heap)(e:J.heap.get? ea=some ⟨.ref dp,none,.fields vs,sl⟩)(k:∀h' tk,h'.get? ea=some ⟨.ref dp,some J.heap.objs.size,.fields vs,sl⟩->h'.Ns1 J.heap.objs.size (λx=>if x=("message":Str)then some v else none)->(∀b o,b≠ea->J.heap.get? b=some o->h'.get? b=some o)->J.heap.objs.size<h'.objs.size->Q () {J with heap:=h',toks:=tk}):wpAny (Md w) A (setAttr (.ref ea) "message" v) Q E J:=
 set_plain X (show InstAt J.heap ea ⟨.ref dp,none,.fields vs,sl⟩ dp none from⟨e,rfl,rfl,trivial⟩) (zI w.params).sa (Fh (J:={J with toks:=J.toks+1}) X e k)
end
end
section
open Builtin
noncomputable def Gp:Scope:={kind:=.function,names:=[("self",.local),("message",.local)],isGenerator:=false,isCoroutine:=false,more:=[]}
noncomputable def HD:List Arg:=[⟨"self",none,⟨174,17,174,21⟩⟩,⟨"message",none,⟨174,23,174,30⟩⟩]
noncomputable def Xv:Stmt:=.Assign [.Attribute (.Name "self" ⟨175,8,175,12⟩) "message" ⟨175,8,175,20⟩] (.Name "message" ⟨175,23,175,30⟩) ⟨175,8,175,30⟩
theorem Yj:fu 33 0=.FunctionDef "__init__" ⟨[],HD,none,[],[],none,[]⟩ [Xv] [] none [] Gp none "__init__" ⟨174,4,175,30⟩:=by kernel_rfl
theorem U3:dc gW 359=some (fu 33 0):=by kernel_rfl
theorem VT:Gx Gp=true/\eN [] Gp.names=true/\fJ Gp []=true/\cN ⟨Gp,none,some "self"⟩ "self"=.frame/\cN ⟨Gp,none,some "self"⟩ "message"=.frame:=(mL (by kernel_rfl) (by kernel_rfl) (by kernel_rfl) (by kernel_rfl) (by kernel_rfl))
section
variable{P:AP}{a:Str}{C:Addr}{m:AV}{vs:Array Value}
theorem Wd.but(x:Wd w sb h f ss)(k:∀b o,b≠ea->h.get? b=some o->h'.get? b=some o)(sz:h.objs.size<=h'.objs.size)(hz:¬f.z ea)(hy:¬f.y ea)(hn:¬f.sn ea)(hb:sb.objs.size<=ea):Wd w sb h' f ss:=by
 refine⟨x.base,λb o p e=>k b o (λq=>?_) (x.stat b o p e),aq x.sbz sz,x.fok,λb q=>aK (x.zl b q) sz,x.snl,?_⟩
 ·have:=aF e;rw[q]at this;exact absurd this (Nat.not_lt.mpr hb)
 ·have s:=x.seen
  induction ss using i7 with
  |none=>exact s
  |some l=>
   refine jN s ?_;rintro b vs q1 ⟨o,e⟩ q3 q4;exact(kf b vs q1 ⟨o,k _ _ (λq=>hn (q▸(q1 b).mpr rfl)) e⟩ (q3.mono (λb z=>pM (k b · λq=>hz (q▸z))) (λb y=>.of_keep (k b · λq=>hy (q▸y))) (.refl f)) q4)
noncomputable def zw(m:AV):LO:=[(("self":Str),OV.v .any),(("message":Str),OV.v m)]
theorem P9(m):hH HD ([OV.v .any,OV.v m]++([]:List OV).drop (2+0-2))=some (zw m)/\du Gp (zw m)=true/\bD (zw m++gy []) ("self":Str)=some (.v .any)/\bD (zw m++gy []) ("message":Str)=some (.v m):=(qL (by kernel_rfl) (by kernel_rfl) (by kernel_rfl) (by kernel_rfl))
set_option backward.match.sparseCases true in
theorem BZ(cy:Rm c (d+1))(x:St c s J.heap f bA)(YE:J.heap.get? ea=some ⟨.ref dp,none,.fields vs,sl⟩)(hF:eX c f bA λb=>b=ea)(ru:VR c.w J.heap f m u){Q:VP}(k:∀bT da v,bT.heap.get? ea=some ⟨.ref dp,some da,.fields vs,sl⟩->bT.heap.Ns1 da (λx=>if x=("message":Str)then some v else none)->J.heap.objs.size<=da->da<bT.heap.objs.size->St c s bT.heap f bA->Go (λb=>b=ea) J.heap f (λb=>b=ea\/b=da) bT.heap f->VR c.w bT.heap f m v->iz J bT->Q .none bT):
  codeAny (Md c.w) c.A (.call (.ref 359) ⟨[.ref ea,u],[]⟩) (λr s'=>match r with| .ok (.ret v)=>Q v s'| .ok _=>False| .error e=>False) J:=by
 refine cF (Al (f:=f) x.X U3) λfd fn=>?_;rw[Yj]at fn;refine i5 VT λr1 r2 r3 r4 r5=>?_;refine lg (P9 m) λb1 b2 b3 b4=>?_;have fe:=(hF ea rfl).2.1;have ag:Ag c f bA J.heap [.v .any,.v m] [.ref ea,u] _:=.cons (.fl (.v (.any _ rfl))) (λY q=>q.elim) (.cons (.fl (.v ru)) (λY q=>q.elim) .nil λY q=>q.elim) λY q=>q.elim
 refine sN cy x fn ag (dv:=[]) (l:=zw m) (fx:=some "self") rfl b1 r1 r2 r3 b2 rfl (λy q=>q) (E:=λY Y=>False) λenv p bJ bE Lj rm C2 KZ x' G R=>?_
 have hp:=KZ _ _ _ rfl rfl
 subst hp;have UM:bJ.heap.get? ea=some ⟨.ref dp,none,.fields vs,sl⟩:=(G.hard (by simp) fe.y fe.sn).exact YE (by simp)
 have w1:∀{n:Str},cN ⟨Gp,none,some "self"⟩ n=.frame->cN ((fp c env (some "self")).pins [("self",.ref ea)]).cx n=.frame:=λ{n} q=>by
  show cN ⟨env.scope,none,some "self"⟩ n=.frame
  rw[Lj];exact q
 refine nM (x'.read (w1 r4) b3 (by decide+kernel)) λv1 m1 F1 q1 q2 t1 t2 t3 t4=>?_
 obtain rfl:v1=.ref ea:=cQ.eq (cf m1 q1.ns t1) (x'.pin _ (.head _));refine nM (x'.read (w1 r5) b4 (by decide+kernel)) λv2 m2 F2 ZN Wt Q8 Xs Gm Xr=>?_
 refine wpAny_execs_cons (iN rfl rfl (λY Y q=>by injection q) ?_)
 refine af (ay (af (bw (Xr (af (jY (bw (t4 ?_))))))));refine Fg x'.X UM λh' tk h1 h2 h3 h4=>aj (br ?_)
 have G2:Go (λb=>b=ea) bJ.heap f (λb=>b=ea\/b=bJ.heap.objs.size) h' f:=⟨λb ne=>.of_keep (h3 b · ne),.refl f,λY q=>.inl q,λY q=>.inl q,λY q=>.inl q,λb q=>q.imp_right λz=>aR z.symm,Nat.le_of_lt h4⟩
 have G1:Go (λb=>b=ea) J.heap f (λb=>b=ea) bJ.heap f:=(G.more (o:=λb=>b=ea) λb q=>absurd q (by simp)).less λb q=>.inr (.inl q)
 have G3:=G1.trans G2 λb q=>.inl q
 have wd:=Wd.but x'.wd h3 (Nat.le_of_lt h4) fe.z fe.y fe.sn (hF ea rfl).2.2
 refine fF (x.behind (bT:={bJ with heap:=h',toks:=tk}) hF G3 wd) λz1 z2 z3=>?_
 exact k {bJ with heap:=h',toks:=tk} bJ.heap.objs.size v2 h1 h2 G1.size h4 z1 G3 (Xs.inv_v.go G2 x'.wd.fok (λb q=>by subst q;exact⟨fe.z,fe.y,fe.sn⟩)) ⟨R.1,R.2⟩
end
end
section
open Builtin
section
variable{P:AP}{a:Str}{C:Addr}{m:AV}
def Av(w:World)(v:Value)(J:Shared)(E:VP):Prop:=∃ea da tu sl,v=.ref ea/\(KF w.params).In J.heap/\J.heap.get? ea=some ⟨.ref dp,some da,.fields #[.ref tu,.none,.none,.none,.bool false,.none],sl⟩/\E (.ref ea) J
theorem tF{x:Sem Value}{Q:QS Flow}(hh:A.handled=none)(z:wpAny (Md w) A x (λv bK=>Av w v bK E) E J):wpAny (Md w) A (raiseStmt env (some x) none) Q E J:=by
 refine af (ak z (λv bK d9=>?_) λY Y x=>x)
 refine Na d9 ?_;rintro ea da tu sl rfl X he hE;have hC:=X _ _ (mT w.params);have YJ:(Value.ref dp::.ref 342::GD).contains (.type "BaseException")=true:=by decide+kernel
 obtain⟨hp,g,d,tk,os⟩:=bK
 repeat (first|with_reducible refine wpAny_loadPart_at he ?_|with_reducible refine wpAny_loadPart_at hC ?_|(with_reducible refine wpAny_isSubtype_exc hC ?_;rw[YJ])|wp_step)
 exact wpAny_raiseNew_none hh hE
theorem Bd(t:ir cx n=true):cN cx n=.top:=by
 unfold ir at t;rcases w:cN cx n with _|_<;>rw[w]at t<;>first|rfl|exact dT t
theorem sF(x:St c s h f bA)(dG:c.cx.cs=none)(t:ir c.cx n=true):c.ev.kindOf n=some .globalImplicit:=GQ x (Bd t)
theorem vj(x:St c s J.heap f bA)(dG:c.cx.cs=none)(t:ir c.cx n=true)(hn:dM n "Refusal"=true){es:List Expr}(pl:c9 es=true)(hh:c.A.handled=none){Q:QS Flow}(z:wA c (spliced (backTo q (starEach es c.ev))) (λvs s'=>(KF c.w.params).In s'.heap/\wA c (call (.ref dp) vs) (λv bK=>Av c.w v bK E) E s') E J):wA c (exec (.Raise (some (.Call (.Name n p) es [] q)) none pos) c.ev) Q E J:=by
 have hg:bD gl n=some (.ad dp):=by rw[cR.mp hn];kernel_rfl
 refine af (ay (tF hh (af (Call_Name rfl (bw ?_ ?_)))))
 ·refine jg (f:=f) x.X x.envOk (sF x dG t) hg λv r=>?_
  obtain rfl:=r.i;exact ak (callWith_of (by rw[ft pl];rfl) (λh X=>keeps_K (zI c.w.params).keep h X) (eW pl z)) (λv s' z=>af (ay (aj z))) λY Y z=>z
 ·rw[cR.mp hn];decide+kernel
theorem B1(cy:Rm c 2)(x:St c s J.heap f bA)(ru:VR c.w J.heap f m u){Q:VP}(k:∀v bT,Av c.w v bT (λe bT=>cD c bA f J s f bA bT/\PX c bA J.heap.objs.size m e bT.heap f bA)->Q v bT):wA c (call (.ref dp) [u]) Q E J:=by
 refine lg (sD c.A dp [u]) λu1 u2 u3 u4=>?_;have kp:∀b o,J.heap.get? b=some o->(jq J.heap [u]).get? b=some o:=λb o e=>bZ _ _ _ _ (bZ _ _ _ _ e)
 have s1:(J.heap.push {cls:=.type "tuple",data:=.seq [u].toArray}).objs.size=J.heap.objs.size+1:=aS ..
 have sz:J.heap.objs.size<=(jq J.heap [u]).objs.size:=aq (de _ _) (de _ _)
 have hx:(jq J.heap [u]).get? (J.heap.objs.size+1)=some (uV J.heap.objs.size):=by rw[<-s1];exact aE _ rfl
 have fr:=x.fresh1 (a:=J.heap.objs.size+1) (bx _)
 have XK:=ru.go (Go.keeps kp sz) x.wd.fok x.free
 have rm:Rm {c with A:=c.A.under _} 1:=⟨by
  rw[u3];have:=cy.depth;lia,by
  rw[u4];have:=cy.units;lia,u2.trans cy.hand⟩
 refine bz (B0 x.X (show 1<=sizeLine by rw[aW];decide) (bt (BZ (d:=0) (Q:=λr s'=>r=.none/\Q _ s') rm ((x.keeps kp sz).deep u1) hx (λb q=>by subst q;exact⟨fr.1,⟨fr.2.1.z,fr.2.1.y,fr.2.1.sn,fr.2.1.sb,fr.2.1.out⟩,fr.2.2⟩) XK λbT da v' h1 h2 h3 h4 h5 h6 h7 h8=>⟨rfl,k _ _ (DZ _ da _ _ rfl h5.X h1 ⟨St.deep (c:={c with A:=c.A.under _}) (A:=c.A) u1.symm h5,?_,h8⟩ ?_)⟩) λr s' z=>?_))
 ·have G1:Go bA J.heap f (λb=>bA b\/b=J.heap.objs.size+1) _ f:=(Go.keeps kp sz).less λb q=>q.elim .inl λz=>.inr (.inr (z▸bx _))
  exact((G1.trans (h6.more λb q=>.inr q) G1.no)).less λb q=>.inr (.inl q)
 ·refine(ej (λb=>b=J.heap.objs.size+1\/b=da) (HN _ _ _ da _ v' rfl h1 rfl rfl rfl h2 (aA rfl) h7 (λk ne=>au ne) ?_ (.inl rfl) (.inr rfl) (.inl rfl)) (λb q=>?_) (λb q=>.inr ?_))
  ·have:=aK (aF hx) h3
   exact Nat.ne_of_lt this
  ·exact x.fresh1 (q.elim (λz=>z▸bx _) λz=>z▸aq sz h3)
  ·exact q.elim (λz=>z▸bx _) λz=>z▸aq sz h3
 ·obtain e|(v|_|_|_):=r<;>first|exact z.elim|exact z
theorem CR(H:dz rc d c)(cy:Rm c 2)(x:St c s J.heap f bA)(dG:c.cx.cs=none):T c (PF c) (match dM n "Refusal",ir c.cx n,cG e with
  |true,true,true=>(vl (rc.e c.cx e s)).bind λa s=>(match a with| .str m=>.exc (.str m) s|_=>.no)
  |_,_,_=>.no) (exec (.Raise (some (.Call (.Name n p) [e] [] q)) none pos) c.ev) bA f J:=by
 rcases hn:dM n "Refusal" with _|_
 ·trivial
 rcases t:ir c.cx n with _|_
 ·trivial
 rcases pe:cG e with _|_
 ·trivial
 have tt:=nY H q [e] s bA f J x
 have tr:∀{E} {Q},_->wA c (exec (.Raise (some (.Call (.Name n p) [e] [] q)) none pos) c.ev) Q E J:=λ{E Q} z=>vj x dG t hn (mU pe) cy.hand z
 have ee:oM rc c.cx [e] s=(vl (rc.e c.cx e s)).bind λa s=>.ok [a] s:=by rw[Hn,pe];rfl
 rw[ee]at tt;generalize vl _=r at tt⊢;obtain⟨a,bK⟩|⟨m,bK⟩|w:=r
 ·show T c _ _ _ bA f J
  induction a using AV.casesOn with
  |str m=>
   refine tr (ak tt (λvs bJ z=>cC z λbU bE bM cj=>⟨bM.st.X,?_⟩) λY Y z=>z.elim)
   obtain⟨v,us,rfl,r1,r2⟩:=dw.inv_cons cj;rw[r2.inv_nil];refine B1 cy bM.st r1 λv bT z=>IX z λea da tu sl z1 z2 z3 po px=>⟨ea,da,tu,sl,z1,z2,z3,_,bE,⟨po.st,bM.go.trans po.go bM.go.no,bM.rest.trans po.rest⟩,px.imp λX z=>⟨z.1,z.2.1,λb q=>(z.2.2 b q).elim (bM.go.no b) λz=>.inr (aq bM.go.size z)⟩⟩
  |_=>trivial
 ·exact tr (ak tt (λY Y z=>z.elim) λY Y z=>z)
 ·trivial
end
end
section
open Builtin Builtin.ObjectAttr
theorem J9(P):findIn (KF P) (.ref dp) "__getattribute__"=some (some (.builtin "BaseException.__getattribute__"))/\findIn (KF P) (.ref dp) "__getattr__"=some none/\findIn (KF P) (.ref dp) "message"=some none:=⟨by kernel_rfl,by kernel_rfl,by kernel_rfl⟩
theorem CI:builtinKind "BaseException.__getattribute__"=some .slot:=by decide+kernel
theorem yR:splitId "BaseException.__getattribute__"=some ("BaseException","__getattribute__"):=by decide+kernel
section
variable{vs:Array Value}{mv:Value}
theorem Fi(X:(KF w.params).In J.heap)(e:J.heap.get? ea=some ⟨.ref dp,some da,.fields vs,sl⟩)(hm:J.heap.Ns1 da mm)(hv:mm ("message":Str)=some mv)(hh:handedIn mv=true){Q:VP}(k:Q mv {J with toks:=J.toks+1}):wpAny (Md w) A (getAttr (.ref ea) "message" DL) Q E J:=by
 refine fF (J9 w.params) λga gx gm=>?_;have K:=zI w.params;refine bW (jn e rfl rfl rfl hm.ns) λod I l=>?_;have L0:=I.type (M:=Md w);have hf:findObj (KF w.params) dp (some od) "message"=some (.value mv):=by
  unfold findObj;rw[Hq,bq,gm,bq];unfold PySem.W.ownOf;dsimp only;rw[l,hv];rfl
 have L1:=looks_find (M:=Md w) X I hf
 refine af (wpAny_mkText (aD (af (L0.here (s:={J with toks:=J.toks+1}) (af ((looks_findIn X ga).here (s:={J with toks:=J.toks+1}) ?_))))))
 refine af ((looks_findIn X gx).here (s:={J with toks:=J.toks+1}) (af (wpAny_attempt ?_)))
 rw[show callGetattribute _ _ _ DL=boundAndCalled _ _ _ from by obtain _|_:=DL<;>rfl]
 refine aD (af (aj (bz (codeAny_call_builtin PySem.F.attr_Exception.ga.plain F.entry_bexc_ga (@check_slot _ _ _ _ "BaseException.__getattribute__" "BaseException" "__getattribute__" (.ref ea) [.str "message" J.toks] [] _ CI yR (L0.andThen (looks_mroIn X K.base)) (F.args_bexc_ga _ _) ?_)))));obtain⟨hp,g,d,tk,os⟩:=J
 repeat (first|with_reducible refine bz ?_|lk)
 show wpAny _ _ (handedOut mv) _ _ _
 rw[handedOut_of hh];exact aj k
end
end
section
variable{P:AP}{a C:Addr}{m:AV}
theorem JI{ob:Obj}{Q:QS Bool}(hn:J.heap.Ns1 a mm)(ho:J.heap.get? a=some ob)(hv:mm n=some v)(hQ:∀h' o',h'.Ns1 a (λx=>if x=n then none else mm x)->Heap.SameBut a J.heap h'->h'.get? a=some o'->o'.cls=ob.cls->Q true {J with heap:=h'}):wpAny M A (nsDel a n) Q E J:=by
 refine rY (id hn) λo es ep rH hd hk hu hm=>?_;rw[ho]at rH;obtain rfl:=oI rH;obtain⟨i,hi⟩:∃i,es.findIdx? (·.key.isStr n)=some i:=by
  generalize q:es.findIdx? _=zz;induction zz using i7 with
  |some i=>exact⟨i,rfl⟩
  |none=>
   have:=hm n
   rw[hv]at this;simp only[nsFind,findBy]at this;refine bW (Option.map_eq_some_iff.mp this) λx hx Y=>?_;have:=(Array.findIdx?_eq_none_iff.mp q) x (Array.mem_of_find?_eq_some hx);rw[(Array.find?_some hx)]at this;exact tZ this
 have hb:es.any (·.key.isStr n)=true:=by
  rw[<-Array.findIdx?_isSome,hi];rfl
 have UJ:nsHas n ob=pure true:=by
  rw[nsHas_eq];unfold nsHasByArray;rw[hd];show(if(es.any λx=>x.key.isStr n)=true then _ else _)=_
  rw[aA hb]
 refine af (wpAny_loadPart ho ?_);rw[UJ];refine af (aj ?_);refine af (wpAny_updatePart ho (aj ?_));obtain⟨cl,d,dt,sl⟩:=ob;subst hd;have hg:(J.heap.update a (Obj.dropName n)).get? a=some ⟨cl,d,.dict (es.eraseIdxIfInBounds i) (ep+1),sl⟩:=aX _ ho (by simp only[Obj.dropName_eq,Obj.dropNameByArray,hi]<;>rfl)|>.trans (by simp only[Obj.dropName_eq,Obj.dropNameByArray,hi])
 exact hQ _ _ (xG _ _ _ hg rfl (hk.erase i) (hu.erase i) (λx=>by rw[nsFind_erase hu hi x,hm])) (aI ..) hg rfl
set_option tactic.hygienic true in
theorem tD(x:St c s J.heap f bA)(dG:c.cx.cs=none)(kd:c.fe.kindOf n=some .local)(l:bD s.loc n=some (.v av))(dn:dP n=false)(hw:cN c.cx n=.frame)(oW:∀p∈c.pin,p.1≠n)(k:∀bT,cD c bA f J {s with loc:=eP s.loc n} f bA bT->Q () bT):wpAny M A (unbindName c.ev n) Q E J:=by
 have jv:c.ev=c.fe:=by
  have q:=x.comp
  rw[dG]at q;exact q
 refine rY (x.read hw l dn) λv0 m0 F0 z1 z2 z3 z4 Y=>?_;have d:=z1.drop (n:=n) (by rw[kd];decide) λq=>by rw[kd]at q;(injection q with zz;injection zz)
 have nF:∀b,¬F0 n b:=by
  have:=z4
  generalize F0 n=G at this;cases this with
  |fl r=>obtain _|_:=r;exact λY q=>q
 have x1:St c {s with loc:=eP s.loc n} J.heap f (λa=>bA a/\¬F0 n a):=x.re rfl rfl rfl d (λk y z=>z2 k y z.2) (λa q=>x.oo a q.1) (λq=>⟨q,nF _⟩) λk=>by rw[dG]at k;exact dT k
 have hn:bD (eP s.loc n) n=none:=by rw[fN,aA rfl]
 refine bW z1.cls λoL e1 e2=>?_;have hv:m0 n=some v0:=by unfold dq at z3;rw[kd]at z3;exact z3
 rw[jv];unfold unbindName;refine af (wpAny_point (af ?_));unfold deleteName;simp only[kd,x.fe.kind];rw[au (show¬((ScopeKind.function==ScopeKind.class||(ScopeKind.function==ScopeKind.module&&c.fe.locals !=c.fe.globals))=true)from Bool.false_ne_true)]
 refine af (JI z1.ns e1 hv λh' o' rI hs rH hc=>?_);rw[au (by decide)]
 refine aj (wpAny_point ?_);have fr:=d.turn x.wd.fok (λa q=>x.free a q.1) hn hs ⟨z1.ownL,nF _⟩ (.inl rfl) rI (λy ne=>au ne) (cf o' rH (hc.trans e2)) λa k Y=>by rw[kd]at k;(injection k with zz;injection zz)
 have x2:=x1.turn dG fr hs ⟨z1.ownL,nF _⟩ (x.npt e1 (by rw[e2];decide) z1.ownL) λq hq=>by
  refine bW (x.pin q hq) λm1 w1 w2=>?_;have:=vZ.agree w1 z1.ns;subst this;refine(cf _ rI ?_);exact w2.el (λkk w2=>.L kk ((au (oW q hq)).trans w2)) λa kk a1 a2=>.C kk a1 (a2.sameBut hs (z1.cL _ a a1))
 have ee:(λa=>bA a/\¬F0 n a)=bA:=funext λa=>propext ⟨And.left,λq=>⟨q,nF a⟩⟩
 rw[ee]at x2;exact k {J with heap:=h'} ⟨x2,Go.at hs z1.ownL,rfl,rfl⟩
end
section
variable{P:AP}{z:Str}{e:Value}{a C:Addr}{m:AV}
def Ms(w:World)(A:Around)(env:Env)(ey:List Stmt)(Q:QS Flow)(fl:Flow)(J:Shared):Prop:=match ey with
 |[]=>Q fl J
 |f0::fs=>wpAny (Md w) A (execs (f0::fs) env) (λg s'=>g=.next/\Q fl s') (λY Y=>False) J
set_option backward.match.sparseCases true in
theorem Ax{ey:List Stmt}{Q:QS Flow}(t:wpAny (Md w) A (execs body env) (Ms w A env ey Q) (λY Y=>False) J):wpAny (Md w) A (exec (.Try body hs [] ey pos) env) Q E J:=by
 rw[arm_exec_Try];refine af (ay ?_);induction ey using eZ with
 |nil=>
  induction hs using eZ with
  |nil=>
   unfold tryStmt;refine wpAny_ite_true rfl ?_;refine af (wpAny_attempt (ak t (λfl bK d9=>?_) λY Y z=>z.elim))
   obtain _|_:=fl<;>first|exact br d9|exact aj d9
  |cons h0 hs=>
   refine wpAny_tryStmt_except (ak t (λfl bK d9=>?_) λY Y z=>z.elim)
   obtain _|_:=fl<;>first|exact br d9|exact d9
 |cons f0 fs=>
  have step:∀{fl bK E'},Ms w A env (f0::fs) Q fl bK->wpAny (Md w) A (execs (f0::fs) env) (λg s'=>match g with| .next=>Q fl s'|g=>Q g s') E' bK:=λ{fl bK E'} d9=>
   ak (M:=Md w) d9 (λg s' z=>by rw[z.1];exact z.2) λY Y z=>z.elim
  induction hs using eZ with
  |nil=>
   refine wpAny_tryStmt_finally (ak t (λfl bK d9=>?_) λY Y z=>z.elim)
   obtain _|_:=fl<;>first|exact br (step d9)|exact step d9
  |cons h0 hs=>
   refine wpAny_tryStmt_except_finally (ak t (λfl bK d9=>?_) λY Y z=>z.elim)
   obtain _|_:=fl<;>first|exact br (step d9)|exact step d9
def PG(c:Fm)(o:AP)(n:Nat)(m:AV)(e:Value)(h:Heap)(f:Fz)(bA:AP):Prop:=∃X,nK c.w h f m e .none X/\eX c f bA X/\∀a,X a->o a\/n<=a
theorem oz{fl:Value}(p:cD c bA f J s f' bF bT)(q:∃X,nK c.w bT.heap f' m e fl X/\eX c f' bF X/\∀a,X a->bA a\/J.heap.objs.size<=a)(k:∀h',cD c bA f J s f' bF {bT with heap:=h'}->PG c bA J.heap.objs.size m e h' f' bF->Q () {bT with heap:=h'}):wpAny M A (setFlight e none) Q E bT:=dI q λX ex hX hn=>iK ex p.st.wd.fok hX.free λh' z G=>fF (p.noted hX hn (G _)) λp1 p2 p3=>k h' p1 (ej X z p2 p3)
theorem PG.go(q:PG c bA a m e h f bF)(ok:f.Ok)(fr:eI f bF)(G:Go bF h f bF h' f):∃ea da vs sl mm mv,e=.ref ea/\h'.get? ea=some ⟨.ref dp,some da,.fields vs,sl⟩/\h'.Ns1 da mm/\mm ("message":Str)=some mv/\VR c.w h' f m mv:=by
 refine dI q ?_;rintro X ⟨ea,oe,vs,da,mm,mv,T,oT,ts,⟨rfl,a2,a3,a4,a5⟩,⟨b1,b2,b3,b4⟩,⟨c1,c2,c3,c4,c5,c6⟩,_⟩ hX _;obtain⟨oc,od,X8,sl⟩:=oe;dsimp only at a3 a4 a5;subst a3 a4 a5;have hd:=λb q=>G.hard (hX b q).1 (hX b q).2.1.y (hX b q).2.1.sn
 exact(VW ea da vs sl mm mv rfl ((hd ea c2).exact a2 (by simp)) (vZ.hard (hd da c3) b1) b2 (b3.go G ok fr))
end
section
variable{P:AP}{z:Str}{e:Value}{a C:Addr}{m:AV}{ap rp hp:Pos}
theorem yl(x:St c s h f bA)(dG:c.cx.cs=none)(lo:gP c.cx.sc y=true):bD c.cx.sc.names y=some .local/\c.fe.kindOf y=some .local/\cN c.cx y=.frame:=by
 have lk:=jf lo
 refine⟨lk,?_,?_⟩
 ·unfold Env.kindOf
  rw[x.fsc,<-iH];exact lk
 ·unfold cN
  rw[dG];rw[lk]
theorem yi{l:LO}{a b:OV}(k):bD (eP l y) k=bD (eP (dy (dy l y a) y b) y) k:=by
 rw[fN,fN];by_cases ne:y=k
 ·rw[aA ne,aA ne]
 ·rw[au ne,au ne,dA,au ne,dA,au ne]
theorem J0(x5:St c s J.heap f bA)(hw:cN c.cx y=.frame)(dn:dP y=false)(l5:bD s.loc y=some (.v .any))(nm:cQ c J.heap y (.ref ea)){vs:Array Value}(e1:J.heap.get? ea=some {cls:=.ref dp,dict:=some da,data:=.fields vs,slots:=sl})(e2:J.heap.Ns1 da mm)(e3:mm ("message":Str)=some mv)(e4:VR c.w J.heap f m mv){K:QS Flow}(k:K (.ret mv) {J with toks:=J.toks+1}):wpAny (model pw c.w) A (execs [.Return (some (.Attribute (.Name y q) "message" ap)) rp] c.ev) K E J:=by
 refine nM (x5.read hw l5 dn) λv0 m0 F0 z1 z2 z3 z4 z5 z6=>?_;obtain rfl:=cQ.eq (cf m0 z1.ns z3) nm;refine wpAny_execs_cons (wpAny_Return_some ?_);exact af (bw (z6 (fZ (c:={c with A:=A}) (Fi x5.X e1 e2 e3 e4.handed k))) (d7 dn (by decide+kernel)))
theorem J1(dG:c.cx.cs=none)(kd:c.fe.kindOf y=some .local)(hw:cN c.cx y=.frame)(pn:∀p∈c.pin,p.1≠y)(hb:cn c.cx y bK=true)(lk:bD c.cx.sc.names y=some .local)(dn:dP y=false)(p5:cD c bA f J (bK.set y (.v .any)) bU bE bJ)(r:VR c.w bJ.heap bU m mv):
  wA c (do bindName c.ev y Value.none;unbindBehindTheSuite c.ev y hp) (λY qz=>∃f' bF,cD c bA f J {bK with loc:=eP bK.loc y} f' bF qz/\PF c (.ret m) (.ret mv) qz.heap f' bF) E {bJ with toks:=bJ.toks+1}:=by
 have b5:cn c.cx y (bK.set y (.v .any))=true:=by
  unfold cn at hb⊢;rw[lk]at hb⊢;exact hb
 refine af (ju p5.st pn b5 (.fl (.v .none)) (λY q=>q.elim) rfl λZJ T' p6=>?_)
 refine wpAny_onRaise (tD p6.st dG kd ((dA ..).trans (aA rfl)) dn hw pn λZI p7=>?_);have G6:=p6.go.more' λb q=>q.elim id False.elim
 have g2:=p5.go.trans G6 p5.go.no
 exact(cz bU T' ⟨p7.st.ext rfl rfl rfl yi,g2.trans p7.go g2.no,(p5.rest.trans ⟨p6.rest.1,p6.rest.2⟩).trans p7.rest⟩ ((r.go G6 p5.st.wd.fok p5.st.free).go p7.go p6.st.wd.fok p6.st.free))
theorem vD(hh:c.A.handled=none)(dG:c.cx.cs=none)(H3:∀p∈c.pin,dQ c.cx p.1=true)(bM:cD c bA f J bK bU bE bJ)(cj:PX c bA J.heap.objs.size m e bJ.heap bU bE)(hn:dM n "Refusal"=true)(t:ir c.cx n=true)(hb:cn c.cx y bK=true)(dn:dP y=false)(lo:gP c.cx.sc y=true):
  wA c (noteFrame e c.ev) (λY eS=>wA c (setFlight e none) (λY qz=>wA c (handleBy e c.ev [.ExceptHandler (some (.Name n p)) (some y) [.Return (some (.Attribute (.Name y q) "message" ap)) rp] hp]) (λv bT=>∃f' bF,cD c bA f J {bK with loc:=eP bK.loc y} f' bF bT/\PF c (.ret m) v bT.heap f' bF) (λY Y=>False) qz) (λY Y=>False) eS) (λY Y=>False) bJ:=by
 have jv:=by
  have q:=bM.st.comp
  rw[dG]at q;exact q
 refine fF (yl bM.st dG lo) λlk kd hw=>?_;have hg:bD gl n=some (.ad dp):=by rw[cR.mp hn];kernel_rfl
 have pn:=jQ H3 hb
 rw[jv];refine sW bM cj λh2 p2 q2=>oz p2 q2 λh3 p3 q3=>IV (PG.go q3 p3.st.wd.fok p3.st.free (Go.refl ..)) ?_;rintro ea da vs sl mm mv rfl e1 _
 rw[<-jv];refine wpAny_handleBy_cons (codeAny_handlers_test ?_) (by intro q;injection q)
 refine bw (jg (f:=bU) p3.st.X p3.st.envOk (sF p3.st dG t) hg λv r=>?_) (by rw[cR.mp hn];decide+kernel)
 obtain rfl:=r.i;refine wpAny_excMatches_sub_self (p3.st.X _ _ (mT c.w.params)) e1 rfl (by decide+kernel)<|codeAny_handlers_suite_as<|oz p3 q3 λh4 (p4:cD c bA f J bK bU bE {bJ with heap:=h4}) q4=>jU (J:={bJ with heap:=h4}) p4.st pn hb (.fl (.v (.any _ rfl))) (λY q=>q.elim) rfl λZK ZA p5 nm=>?_
 refine M7 (PG.go q4 p4.st.wd.fok p4.st.free ((p5.go.more' λb q=>q.elim id False.elim).less λb q=>.inr (.inl q))) λZF da vs sl mm mv e0 e1 e2 e3 e4=>?_
 (injection e0 with zz;subst zz)
 refine J0 p5.st hw dn ((dA ..).trans (aA rfl)) nm e1 e2 e3 e4<|J1 dG kd hw pn hb lk dn ⟨p5.st,p4.go.trans (p5.go.more' λb q=>q.elim id False.elim) p4.go.no,p4.rest.trans p5.rest⟩ e4
theorem Gd(hh:c.A.handled=none)(dG:c.cx.cs=none)(H3:∀p∈c.pin,dQ c.cx p.1=true)(tt:T c (PF c) (.exc m bK) (execs body c.ev) bA f J):T c (PF c) (match dM x "Refusal",dM z y,dM n "message",cn c.cx y bK,dP y,ir c.cx x,gP c.cx.sc y with
    |true,true,true,true,false,true,true=>.ok (.ret m) {bK with loc:=eP bK.loc y}
    |_,_,_,_,_,_,_=>.no) (exec (.Try body [.ExceptHandler (some (.Name x p)) (some y) [.Return (some (.Attribute (.Name z q) n ap)) rp] hp] [] [] pos) c.ev) bA f J:=by
 rcases hn:dM x "Refusal" with _|_<;>try trivial
 rcases zy:dM z y with _|_<;>try trivial
 rcases nm:dM n "message" with _|_<;>try trivial
 rcases hb:cn c.cx y bK with _|_<;>try trivial
 rcases dn:dP y with _|_<;>try trivial
 rcases t:ir c.cx x with _|_<;>try trivial
 rcases lo:gP c.cx.sc y with _|_<;>try trivial
 rw[cR.mp zy,cR.mp nm];refine wpAny_Try_except (ak tt (λY Y z=>z.elim) λe bJ z=>cC z λbU bE bM cj=>?_)
 exact vD hh dG H3 bM cj hn t hb dn lo
def Sm(cx:Cx)(m:AV)(s:S)(ey:List Stmt)(hs:List ExceptHandler):R Fl:=match ey,hs with
   |[],[.ExceptHandler (some (.Name x _)) (some y) [.Return (some (.Attribute (.Name z _) n _)) _] _]=>(match dM x "Refusal",dM z y,dM n "message",cn cx y s,dP y,ir cx x,gP cx.sc y with
    |true,true,true,true,false,true,true=>.ok (.ret m) {s with loc:=eP s.loc y}
    |_,_,_,_,_,_,_=>.no)
   |_,_=>.no
set_option tactic.hygienic true in
theorem Ea(hh:c.A.handled=none)(dG:c.cx.cs=none)(H3:∀p∈c.pin,dQ c.cx p.1=true)(tt:T c (PF c) (.exc m bK) (execs body c.ev) bA f J){ey:List Stmt}:T c (PF c) (Sm c.cx m bK ey hs) (exec (.Try body hs [] ey pos) c.ev) bA f J:=by
 obtain _|_:=ey<;>try trivial
 obtain _|_:=hs<;>try trivial
 rename_i h hs
 induction h using PySem.ExceptHandler.casesOn with
 |ExceptHandler ty nm b hp=>
  obtain _|_:=ty<;>try trivial
  rename_i ty
  obtain _|_:=ty<;>try trivial
  obtain _|_:=nm<;>try trivial
  obtain _|_:=b<;>try trivial
  rename_i st b
  obtain _|_:=st<;>try trivial
  rename_i v rp
  obtain _|_:=v<;>try trivial
  rename_i v
  obtain _|_:=v<;>try trivial
  rename_i o _ _
  obtain _|_:=o<;>try trivial
  obtain _|_:=b<;>try trivial
  obtain _|_:=hs<;>try trivial
  exact Gd hh dG H3 tt
theorem KC(HX:o9 rc c)(hh:c.A.handled=none)(x:St c s J.heap f bA)(dG:c.cx.cs=none)(H3:∀p∈c.pin,dQ c.cx p.1=true):T c (PF c) (bL rc c.cx (.Try body hs [] ey pos) s) (exec (.Try body hs [] ey pos) c.ev) bA f J:=by
 have tt:=HX.x body s bA f J x
 show T c _ (match rc.x c.cx body s with
  | .ok f s=>(match ey with
   |[]=>.ok f s
   |_=>((rc.x c.cx ey s).bind λg s=>(match g with| .next=>.ok f s|_=>.no)).noExc)
  | .exc m s=>(match ey,hs with
   |[],[.ExceptHandler (some (.Name x _)) (some y) [.Return (some (.Attribute (.Name z _) n _)) _] _]=>(match dM x "Refusal",dM z y,dM n "message",cn c.cx y s,dP y,ir c.cx x,gP c.cx.sc y with
    |true,true,true,true,false,true,true=>.ok _ _
    |_,_,_,_,_,_,_=>.no)
   |_,_=>.no)
  | .no=>.no) _ bA f J
 generalize r:rc.x c.cx body s=zz;induction zz using iw with
 |no=>trivial
 |ok fl bK=>
  rw[r]at tt;induction ey using eZ with
  |nil=>exact Ax tt
  |cons f0 fs=>
   refine T.noExc λa eS e=>?_;generalize r2:rc.x c.cx _ bK=zz;induction zz using iw with
   |no=>rw[r2]at e;injection e
   |exc m s=>rw[r2]at e;injection e
   |ok g qz=>
    rw[r2]at e;obtain _|_:=g<;>first|((first|injection e|(injection e with zz yy;subst zz yy));done)|skip
    (injection e with zz yy;subst zz yy)
    refine Ax (ak tt (λv bJ z=>cC z λbU bE bM cj=>?_) λY Y z=>z.elim)
    have t2:=HX.x (f0::fs) bK bE bU bJ bM.st
    rw[r2]at t2;refine ak t2 (λg il z=>cC z λec fh eA hZ=>?_) λY Y z=>z.elim
    refine⟨by obtain _|_:=g<;>first|rfl|exact hZ.elim,ec,fh,⟨eA.st,bM.go.trans eA.go bM.go.no,bM.rest.trans eA.rest⟩,?_⟩
    induction fl using Lc with
    |ret a=>obtain _|_:=v<;>first|exact cj.elim|exact VR.go eA.go bM.st.wd.fok bM.st.free cj
    |next=>obtain _|_:=v<;>first|exact cj.elim|trivial
    |brk=>obtain _|_:=v<;>first|exact cj.elim|trivial
 |exc m bK=>
  rw[r]at tt;exact Ea hh dG H3 tt
end
section
variable{P:AP}{z:Str}{m:AV}
theorem Qk(x:St c s J.heap f bA)(dG:c.cx.cs=none)(hp:∀p∈c.pin,dQ c.cx p.1=true){b:List Stmt}:T c (PF c) (bL rc c.cx (.FunctionDef nm ⟨[],ar,none,[],[],none,[]⟩ b [] none [] sc none bd pos) s) (exec (.FunctionDef nm ⟨[],ar,none,[],[],none,[]⟩ b [] none [] sc none bd pos) c.ev) bA f J:=by
 unfold bL;rcases hl:s.dl with _|l
 ·trivial
 dsimp only;rcases lt:Nat.blt l pos.line with _|_
 ·trivial
 rcases hc:gv s sc.names with _|caps
 ·trivial
 rcases fk:dJ c.cx sc.names with _|_
 ·trivial
 rcases dk:sr ar b with _|_
 ·trivial
 dsimp only;rcases hb:cn c.cx bd _ with _|_
 ·trivial
 exact KI x dG hp hl (aB lt) hc fk dk hb
theorem Gk(x:St c s J.heap f bA)(dG:c.cx.cs=none)(hp:∀p∈c.pin,dQ c.cx p.1=true){as:Arguments}{b:List Stmt}:T c (PF c) (bL rc c.cx (.FunctionDef nm as b ds none [] sc none bd pos) s) (exec (.FunctionDef nm as b ds none [] sc none bd pos) c.ev) bA f J:=by
 obtain⟨po,ar,va,ko,kd,kw,df⟩:=as;obtain _|_:=po<;>first|trivial|skip
 obtain _|_:=va<;>first|trivial|skip
 obtain _|_:=ko<;>first|trivial|skip
 obtain _|_:=kd<;>first|trivial|skip
 obtain _|_:=kw<;>first|trivial|skip
 obtain _|_:=df<;>first|trivial|skip
 obtain _|_:=ds<;>first|trivial|skip
 exact Qk x dG hp
set_option tactic.hygienic true in
theorem BY(H:ze rc d)(HX:o9 rc c)(cy:Rm c (d+2))(dG:c.cx.cs=none)(hp:∀p∈c.pin,dQ c.cx p.1=true)(x:St c s J.heap f bA)(st:Stmt):T c (PF c) (bL rc c.cx st s) (exec st c.ev) bA f J:=by
 have r0:Rm c d:=cy.le (by lia)
 have hh:=cy.hand
 have jv:c.ev=c.fe:=by
  have q:=x.comp
  rw[dG]at q;exact q
 have HE:=H.e c r0
 have HP:fE rc d c:=λp=>H.e _ r0.pins
 have hk:c.ev.scope.kind=.function:=by rw[jv];exact x.fe.kind
 induction st using Stmt.casesOn with
 |Expr e pos=>exact Gi HE hk x
 |Return v pos=>induction v using i7 with
  |none=>exact vP x
  |some e=>exact yV HE x
 |Assign ts v pos=>induction ts using eZ with
  |nil=>trivial
  |cons t ts=>induction ts using eZ with
   |nil=>exact yX H r0 hh x dG hp
   |cons t' ts=>trivial
 |AugAssign t op v pos=>
  obtain _|_:=t<;>first|(trivial;done)|skip
  ·rename_i ob a q
   obtain _|_:=ob<;>first|(trivial;done)|skip
   rename_i nm np
   obtain _|_:=op
   ·exact vT (n:=nm) (p:=np) (a:=a) (q:=q) (e:=v) (pos:=pos) HP x
   all_goals trivial
  ·obtain _|_:=op<;>first|exact vR HE x hp|trivial
 |If t a b pos=>exact Qg HE HX x
 |For t it body nW pos=>induction nW using eZ with
  |nil=>exact KH HP hh jv hp HX x
  |cons=>trivial
 |While t body nW pos=>induction nW using eZ with
  |nil=>exact CP HE HX jv x
  |cons=>trivial
 |Break pos=>exact CV x
 |Raise exc cause pos=>
  induction exc using i7 with
  |none=>trivial
  |some e=>
   obtain _|_:=e<;>first|(trivial;done)|skip
   rename_i fn args Yn q
   obtain _|_:=fn<;>first|(trivial;done)|skip
   induction args using eZ with
   |nil=>trivial
   |cons e args=>
    obtain _|_:=args<;>first|(trivial;done)|skip
    obtain _|_:=Yn<;>first|(trivial;done)|skip
    obtain _|_:=cause<;>first|(trivial;done)|skip
    exact CR HE (cy.le (by lia)) x dG
 |Try body hs nW ey pos=>induction nW using eZ with
  |nil=>exact KC HX hh x dG hp
  |cons=>trivial
 |FunctionDef nm as b ds re tp sc ts bd pos=>
  obtain _|_:=re<;>first|(trivial;done)|skip
  obtain _|_:=tp<;>first|(trivial;done)|skip
  obtain _|_:=ts<;>first|(trivial;done)|skip
  exact Gk x dG hp
 |_=>trivial
set_option backward.match.sparseCases true in
abbrev VG(c:Fm)(l:List Stmt)(Q:QS Flow)(E:VP)(v:Flow)(J:Shared):Prop:=match v with
 | .next=>wA c (execs l c.ev) Q E J
 |v=>Q v J
theorem BX(H:ze rc d)(HX:o9 rc c)(cy:Rm c (d+2))(dG:c.cx.cs=none)(hp:∀p∈c.pin,dQ c.cx p.1=true):∀l s bA f J,St c s J.heap f bA->T c (PF c) (bO rc c.cx l s) (execs l c.ev) bA f J:=by
 intro l;induction l with
 |nil=>intro s bA f J x;exact T.ret (br (cz f bA (.refl x) trivial))
 |cons st l ih=>
  intro s bA f J x;have tt:=BY H HX cy dG hp x st;show T c _ ((bL rc c.cx st s).bind λf s=>match f with
   | .next=>bO rc c.cx l s
   |f=>.ok f s) _ bA f J
  generalize r:bL rc c.cx st s=zz;induction zz using iw with
  |no=>trivial
  |exc m bK=>
   rw[r]at tt;exact wpAny_execs_cons (ak tt (λY Y z=>z.elim) λY Y z=>z)
  |ok fl bK=>
   rw[r]at tt;have go:∀{Q} {E},(∀v bJ bU bE,cD c bA f J bK bU bE bJ->PF c fl v bJ.heap bU bE->VG c l Q E v bJ)->wA c _ Q E J:=λ{Q E} k=>
    wpAny_execs_cons (ak tt (λv bJ z=>cC z λbU bE bM cj=>k v bJ bU bE bM cj) λY Y z=>z.elim)
   induction fl using Lc with
   |next=>
    show T c _ (bO rc c.cx l bK) _ bA f J
    have nx:∀{v bJ bU bE},PF c .next v bJ bU bE->v=.next:=λ{v} {bJ bU bE} cj=>by obtain _|_:=v<;>first|rfl|exact cj.elim
    generalize r2:bO rc c.cx l bK=zz;induction zz using iw with
    |no=>trivial
    |exc m eS=>
     refine go λv bJ bU bE bM cj=>?_;obtain rfl:=nx cj;have t2:=ih bK bE bU bJ bM.st;rw[r2]at t2;exact t2.up bM.go bM.go.no bM.rest
    |ok fl eS=>
     refine go λv bJ bU bE bM cj=>?_;obtain rfl:=nx cj;have t2:=ih bK bE bU bJ bM.st;rw[r2]at t2;exact t2.up bM.go bM.go.no bM.rest
   |brk=>
    refine go λv bJ bU bE bM cj=>?_;obtain _|_:=v<;>first|exact cj.elim|exact(cz bU bE bM trivial)
   |ret a=>
    refine go λv bJ bU bE bM cj=>?_;obtain _|_:=v<;>first|exact cj.elim|exact(cz bU bE bM cj)
theorem fR.le(x:fR O d)(h:d<=d'):fR O d':=λc cy=>x c (cy.le h)
theorem ze.step(H:ze rc d)(HO:fR O (d+1)):ze (qX O rc) (d+2):=
 ⟨λc cy=>⟨λe s bA f J x=>J' H cy x,λe s bA f J x=>Ka H cy x⟩,
  λc cy hp dG=>⟨λl s bA f J x=>BX H (H.x c (cy.le (by lia)) hp dG) cy dG (λp hq=>by
   unfold dQ;rw[hp p hq];exact cR.mpr rfl) l s bA f J x⟩,
  λc cy=>pT H.x HO (cy.le (by lia))⟩
theorem Ba(HO:fR O (d+1)):∀n,ze (ev O n) (d+2*n):=by
 intro n;induction n with
 |zero=>exact⟨λc cy=>⟨λY Y Y Y Y Y=>trivial,λY Y Y Y Y Y=>trivial⟩,λc cy Y Y=>⟨λY Y Y Y Y Y=>trivial⟩,λc cy=>⟨λY Y Y Y Y Y Y Y Y Y Y Y=>trivial,λY Y Y Y Y Y Y Y Y Y Y Y Y=>trivial⟩⟩
 |succ n ih=>exact(ih).step (HO.le (by lia))
theorem lq:fR dH d:=λY Y Y Y Y Y Y Y Y Y Y Y Y Y Y z=>nomatch z
end
section
open PySem.W.X
noncomputable abbrev Im:RowW:=PySem.Challenge.rw_nz0548_01.row.toRowW
theorem Ez(ds):Im.pre.holds [] {args:=[.list ds]}=(!decide ((63:Int)<(ds.length:Int))&&true):=by
 have e:Im.pre=WTm.and (.not (.lt (.lit (.int 63)) (.len (.arg 0)))) (.lit (.bool true)):=by kernel_rfl
 rw[e];exact holdsW_of_value (w_and rfl rfl)
theorem Gb{args:List WData}(h:Im.claim.pre args=true):∃ns:List Int,args=[.list (ns.map .int)]/\ns.length<=63:=by
 have h:=Bool.and_eq_true_iff.mp h
 refine dR (hasAllW_cons h.1) λd r xo h1 h3=>?_;subst xo;obtain rfl:=hasAllW_nil h3;refine bW (hasW_list h1) λxs xo h4=>?_;subst xo;refine cF (PySem.W.items_int h4) λns xo=>?_;subst xo;refine⟨ns,rfl,?_⟩;have q:=Bool.and_eq_true_iff.mp ((Ez _).symm.trans h.2);have q:=of_decide_eq_false (Bool.not_inj (q.1.trans Bool.not_false.symm));rw[ah]at q;exact Int.ofNat_le.mp (Int.not_lt.mp q)
theorem BD{cl:Str->Option Addr}{P:Params}:∀(ns:List Int) s,∃vs t,layAllW [] cl P ord (ns.map .int) s=some (vs,{s with toks:=t})/\∀w h f,dw w h f (ns.map .int) vs:=by
 intro ns;induction ns with
 |nil=>intro s;exact(cz _ s.toks rfl (λY Y Y=>.nil))
 |cons n ns ih=>
  refine λs=>cC (ih {s with toks:=s.toks+1}) λvs t e r=>(cz (.int n s.toks::vs) t ?_ (λw h f=>.cons (.int ..) (r w h f)))
  show(match layAllW [] cl P ord _ {s with toks:=s.toks+1}with
   |some r=>some (Value.int n s.toks::r.1,r.2)
   |Option.none=>Option.none)=_
  rw[e]
theorem ET{cl:Str->Option Addr}{P:Params}{ns:List Int}{s s':Shared}(e:layAllW [] cl P ord [.list (ns.map .int)] s=some (ja,s')):∃vs t,ja=[.ref s.heap.objs.size]/\s'={s with heap:=s.heap.push {cls:=.type "list",data:=.seq vs.toArray},toks:=t}/\∀w h f,dw w h f (ns.map .int) vs:=by
 refine cC (BD (cl:=cl) (P:=P) (ord:=ord) ns s) λvs t e1 r=>?_;have e2:layW [] cl P ord (.list (ns.map .int)) s=some (.ref s.heap.objs.size,{s with heap:=s.heap.push {cls:=.type "list",data:=.seq vs.toArray},toks:=t}):=by
  show(match layAllW [] cl P ord _ s with
   |some r=>some _
   |Option.none=>Option.none)=_
  rw[e1]
 have e3:(match layW [] cl P ord _ s with
   |some a=>(match layAllW [] cl P ord [] a.2 with
     |some r=>some _
     |Option.none=>Option.none)
   |Option.none=>Option.none)=some _:=e
 rw[e2]at e3
 (injection e3 with zz;injection zz with zz yy;subst zz yy)
 exact(eF vs t rfl rfl r)
theorem Gh(P):(uO.all λa=>Nat.blt a 1418&&(match(T5 P).get a with|some ⟨_,_,.freed,_⟩=>false|_=>true))=true:=by kernel_rfl
theorem Qh(P):(KF P).In (H1 P):=λa o e=>by
 refine bW (List.mem_filterMap.mp (jk e)) λa' m1 q=>bW (Option.map_eq_some_iff.mp q) λo' e1 q=>?_
 cases q
 have z:=List.all_eq_true.mp (Gh P) a m1
 rw[aO,e1]at z;have:=abs_get (life:={}) (aB z.1) e1;refine this.trans ?_;obtain⟨oc,od,dt,sl⟩:=o;cases dt<;>first|rfl|cases z.2
noncomputable def ic:Stmt->List Stmt
 | .FunctionDef _ _ b _ _ _ _ _ _ _=>b
 |_=>[]
noncomputable def jJ:Stmt->Scope
 | .FunctionDef _ _ _ _ _ _ sc _ _ _=>sc
 |_=>default
noncomputable def Ot:Stmt->Pos
 | .FunctionDef _ _ _ _ _ _ _ _ _ p=>p
 |_=>default
def sA:List Arg:=match cJ 160 with
 | .FunctionDef _ a _ _ _ _ _ _ _ _=>a.args
 |_=>[]
def eU:List Stmt:=ic (cJ 160)
def iU:Scope:=jJ (cJ 160)
noncomputable def Ho(n:Str)(as:List Arg)(b:List Stmt)(sc:Scope)(p:Pos):Stmt:=.FunctionDef n ⟨[],as,none,[],[],none,[]⟩ b [] none [] sc none n p
theorem p9:cJ 160=Ho "law" sA eU iU (Ot (cJ 160)):=by kernel_rfl
theorem yq:Gx iU=true/\eN [] iU.names=true/\fJ iU []=true/\sA.map (·.arg)=[("script":Str)]/\du iU [(("script":Str),OV.v .none)]=true/\dc gW 1417=some (cJ 160):=(D1 (by kernel_rfl) (by kernel_rfl) (by kernel_rfl) (by kernel_rfl) (by kernel_rfl) (by kernel_rfl))
theorem EW{r:R Fl}{b:OV}(e:(match r with
  | .ok (.ret a) s=>(match s.dl with|some _=>.ok a (.v .none) s.ss|none=>.no)
  | .no=>.no
  |_=>.no)=C.ok a b ss):∃s,r=.ok (.ret a) s/\s.dl≠none:=by
 obtain⟨fl,s⟩|⟨m,s⟩|w:=r
 ·obtain _|_|a':=fl
  ·injection e
  ·injection e
  ·obtain⟨s1,s2,s3,dl⟩:=s
   obtain _|d:=dl
   ·injection e
   ·injection e with z
    subst z;exact cf _ rfl zi
 ·injection e
 ·injection e
theorem EV(rc)(ns){b:OV}(e:zx rc ns=.ok a b ss):∃s,rc.x ⟨iU,none,none⟩ eU ⟨[],[(("script":Str),.v (.lst (ns.map .int)))],none,some 0⟩=.ok (.ret a) s/\s.dl≠none:=by
 exact EW e
end
section
open PySem.W.X
theorem BG(av):hH sA [OV.v av]=some [(("script":Str),OV.v av)]/\du iU [(("script":Str),OV.v av)]=true:=⟨by kernel_rfl,by kernel_rfl⟩
def Ac:FuncData:=vW (cJ 160) "law" 3 vn (vS "law_nz0548_01" 2124) (r 1416) 0
theorem EU(P):(KF P).lookup 1417=some ⟨.type "function",none,.func Ac,#[]⟩:=by kernel_rfl
theorem BE:Ac.code=.ref 1416:=by unfold Ac;rw[p9];rfl
def s9:Array Value:= #[vS "law" 2180,vS "law" 2181,vS "/claim/cut.py" 2182,i0 1341,i0 1,i0 0,i0 0,i0 3,r 1413,vb true,i0 181,r 1414,vn,vn,vn,r 1415,i0 2183,i0 1341,vS "/claim/cut.py" 2184]
theorem ou(P):(KF P).lookup 1416=some ⟨.type "code",none,.fields s9,#[]⟩:=by kernel_rfl
section
variable{ns:List Int}
def oV(la:Addr):Fz:=⟨λb=>b=la,λY=>False,λY=>False⟩
theorem JQ(X:(KF w.params).In J.heap)(lt:la<J.heap.objs.size):Wd w J.heap J.heap (oV la) none:=
 ⟨X,λa o Y e=>e,aC _,⟨λY Y=>id,λY Y=>id,λY q=>q.elim⟩,λb q=>by obtain q|q|q:=q<;>first|exact q▸lt|exact q.elim,λb q=>by obtain q|q:=q<;>exact q.elim,λY=>id⟩
theorem wY(h1:h.get? 1416=some ⟨.type "code",none,.fields s9,#[]⟩)(h2:h.get? Pt=some ⟨.none,none,.fields #[],#[]⟩):h.IsCode 1416 Pt #[]/\h.TableAt 1416 Pt #[]:=
 ⟨(Bb _ _ _ _ _ _ _ _ _ _ h1 rfl rfl rfl rfl rfl rfl h2 rfl trivial (by decide)),(kf _ _ h1 rfl rfl rfl),h2⟩
abbrev zB(w:World)(h:Heap)(fd:FuncData):Fm:=rn w h callerA [] (eg iU h.objs.size fd.closure (fd.qualname++".<locals>.") (some 1417) fd.code) none
abbrev Iw(h:Heap):Heap:=pushCells (h.push {cls:=.type "frame",data:=.dict #[]}) iU.names
noncomputable abbrev zA(ns:List Int):LO:=[("script",.v (.lst (ns.map .int)))]
theorem BF(X:(KF w.params).In J.heap)(hP:J.heap.get? Pt=some ⟨.none,none,.fields #[],#[]⟩)(QK:J.heap.get? la=some {cls:=.type "list",data:=.seq vs.toArray})(nP:la≠Pt)(rv:∀w h f,dw w h f (ns.map .int) vs)(cI:ns.length<=63){n:Nat}{b:OV}(HO:fR O (D+1))(hn:D+2*n<=339)(e:zx (ev O n) ns=.ok (.bool true) b ss):
  codeAny (Md w) callerA (.call (.ref 1417) ⟨[.ref la],[]⟩) (λr bT=>r=.ok (.ret (.bool true))/\OldK J.heap bT.heap/\bT.os=J.os/\bT.gens=J.gens) J:=by
 refine Nd yq λl1 l2 l3 l4 Y l6=>?_;refine bW (EV _ _ e) λS' hx Lo=>?_;have wd:=JQ X (aF QK);refine cF (Al (f:=oV la) X l6) λfd fn=>?_;rw[p9]at fn;unfold Ho at fn;obtain⟨⟨ob,ho,DJ⟩,⟨p1,p2,p3,p4,p5⟩,RE,clz,Af,dfl⟩:=fn;refine fF (AS l1) λs1 s2 s3=>?_;have YI:fd.code=.ref 1416:=by
  have:=X _ _ (EU w.params)
  rw[ho]at this;obtain rfl:=oI this
  (injection DJ with zz;subst zz)
  exact BE
 refine dR (dfl [] rfl) λzp us h0 Qw RA=>?_;have:zp=[]:=by induction zp using eZ with|nil=>rfl|cons=>injection h0
 subst this;obtain _|_:=Qw;refine cH (BG (.lst (ns.map .int))) λv1 v2=>?_;have WG:sA.length=1:=by have:=aN List.length l4;simpa using this
 refine codeAny_call_function (show 301<1000 by decide) ho DJ (p3▸s3) (p3▸s2) p2 RE ?_
 refine mu p1 (by rw[l4];exact List.nodup_cons.mpr ⟨List.not_mem_nil,List.nodup_nil⟩) (RA rfl) (by rw[WG];exact aC _) (bb _) (by rw[WG];exact aC _) ?_
 rw[p3,p4,p5];simp only[newFunctionEnv,Option.isSome_none,aZ,if_false];refine af (wpAny_alloc ?_);refine af (wpAny_layCells _ (λname kind cells=>by rcases RB:kind==NameKind.cell with _|_<;>simp[RB]) _ _ _ _ ?_)
 have Qt:(J.heap.push {cls:=.type "frame",data:=.dict #[]}).objs.size=J.heap.objs.size+1:=aS ..
 rw[show({J with heap:=J.heap.push {cls:=.type "frame",data:=.dict #[]}}:Shared).heap.objs.size=J.heap.objs.size+1 from Qt]
 have kp:∀b o,J.heap.get? b=some o->(Iw J.heap).get? b=some o:=λb o e=>pushCells_keeps _ _ b o (aG _ e)
 have G0:Go (λY=>False) J.heap (oV la) (λY=>False) (Iw J.heap) (oV la):=Go.keeps kp (by have:=fO iU.names (J.heap.push {cls:=.type "frame",data:=.dict #[]});rw[Qt]at this;exact aq (bx _) this)
 refine af (kK (c:=zB w J.heap fd) (f:=oV la) _ (λY Y Y=>rfl) rfl rfl sA [.v (.lst (ns.map .int))] _ _ (zA ns) _ _ _ _ [] (sY (A:=callerA) (l:=[]) (ss:=none) (qual:=fd.qualname++".<locals>.") (a:=some 1417) (code:=fd.code) (fx:=none) wd rfl (λY q=>nomatch q) s1 clz Af l2 l3) (.cons (.fl (.v (.lst rfl ⟨_,kp _ _ QK⟩ (rv _ _ _) (by rw[ah];lia)))) (λY q=>q.elim) .nil λY q=>q.elim) v1 v2 (λm hm=>⟨by unfold cw;rfl,rfl,λY q=>nomatch q⟩) ?_)
 intro bT bF s' x' lk c1 c2 c3 G R _;refine aj ⟨oy x'.X,codeAny_func ?_⟩;have QE:∀y,bD (zA ns) y=bD s'.loc y:=λy=>by rw[lk y];exact(Option.or_none ..).symm
 have x2:St (zB w J.heap fd) ⟨[],(zA ns),none,none⟩ bT.heap (oV la) bF:=x'.ext c2.symm c3.symm c1.symm QE
 have GG:Go (λY=>False) J.heap (oV la) bF bT.heap (oV la):=by
  refine Go.trans (G0.less (o:=λa=>(J.heap.objs.size<=a/\a<(Iw J.heap).objs.size)\/(False\/False)) λb q=>?_) G λb q=>?_
  ·obtain q|q|q:=q
   ·exact .inr (.inr q.1)
   ·exact q.elim
   ·exact q.elim
  ·obtain q|q|q:=q
   ·exact .inr q.1
   ·exact q.elim
   ·exact q.elim
 have WU:bT.heap.get? Pt=some ⟨.none,none,.fields #[],#[]⟩:=(GG.hard id id id).exact hP (by simp)
 refine cH (wY (x'.X _ _ (ou w.params)) WU) λk1 k2=>?_;have x3:St (zB w J.heap fd) ⟨[],(zA ns),none,some 0⟩ bT.heap (oV la) (λb=>bF b\/b=Pt):=by
  refine cC x2.fr λmm F q1 q2=>?_;have q3:=q1.reown (o:=λb=>bF b\/b=Pt) λb Y z=>.inl z
  refine⟨x2.wd,λb q=>?_,x2.frames,x2.ff,x2.fe,x2.fsc,x2.ffr,x2.ofr,λl e=>?_,⟨mm,F,⟨q3.ns,q3.cls,q3.ownL,q3.cells,q3.cinj,q3.cL,q3.ck,q3.loc,q3.fo,q3.fd,q3.free⟩,q2⟩,rfl,λY q=>nomatch q⟩
  ·obtain q|q:=q
   ·exact x2.oo b q
   ·subst q
    exact⟨⟨λz=>nP z.symm,id,id,.inr rfl,λY q=>nomatch q⟩,aF WU⟩
  ·obtain rfl:=oI e
   exact⟨.inr rfl,⟨_,X _ _ (ou w.params)⟩,#[],YI,k1,k2,λY Y=>rfl⟩
 have rm:Rm (zB w J.heap fd) (D+2*n):=⟨by
  show 301+1+2*(D+2*n)<=980
  lia,by
  show 4+3+20*(D+2*n)<=9800
  lia,rfl⟩
 have tt:=((Ba HO n).x _ rm (λY q=>nomatch q) rfl).x eU _ _ _ bT x3
 have tt:T (zB w J.heap fd) (PF _) ((ev O n).x ⟨iU,none,none⟩ eU ⟨[],(zA ns),none,some 0⟩) (execs eU _) _ (oV la) bT:=tt
 rw[hx]at tt;refine ak (M:=Md w) tt (λfl Df z=>cC z λf2 jK po q=>?_) λY Y z=>z.elim
 replace q:PF _ (.ret (.bool true)) fl Df.heap f2 jK:=q
 obtain⟨u,rfl⟩:∃u,fl=.ret u:=by obtain _|_:=fl<;>first|exact q.elim|exact⟨_,rfl⟩
 replace q:VR w Df.heap f2 (.bool true) u:=q
 obtain _|_:=q;refine⟨rfl,?_,po.rest.2.trans R.2,po.rest.1.trans R.1⟩;refine cF (Option.ne_none_iff_exists'.mp Lo) λl hl=>?_;obtain⟨_,_,ps,_,_,t2,_⟩:=po.st.tab l hl;refine cH (wY (X _ _ (ou w.params)) hP) λY t1=>?_;refine⟨λb o e=>?_,λb o e=>?_⟩
 ·by_cases hb:b=Pt
  ·subst hb
   rw[hP]at e;obtain rfl:=oI e;exact .inr (.inl ⟨t1.isCodeTable,rfl,#[],ps,rfl,by rw[t2.2];simp⟩)
  ·exact .inl (po.st.wd.stat b o hb e)
 ·by_cases hb:b=Pt
  ·subst hb
   exact⟨_,t2.2⟩
  ·exact⟨o,po.st.wd.stat b o hb e⟩
end
end
section
open PySem.W.X
theorem HK(P):(H1 P).get? Pt=some ⟨.none,none,.fields #[],#[]⟩:=(abs_get (o:=⟨.none,none,.fields #[],#[]⟩) (by decide) (by kernel_rfl)).trans rfl
theorem JR(P):nsIn (KF P) 3 "law"=some (some (.ref 1417)):=by kernel_rfl
def Nf:Prop:=∀ns:List Int,ns.length<=63->∃(O:vX) (n D:Nat) (b:OV) (ss:OA),fR O (D+1)/\D+2*n<=339/\zx (ev O n) ns=.ok (.bool true) b ss
theorem BM(xE:Nf):PySem.Challenge.rw_nz0548_01.Holds:=BL λw zt bK mg mb G Y a o pm cd doc dV kV h2 h3 h4 h5 h6 hg args ja as L UG ZB rd wl low=>by
 refine bW (Gb UG) ?_;rintro ns rfl cI;refine bW L.laid λord _ hl=>?_;refine dR (ET hl) ?_;rintro vs t rfl rfl rv;have hY:zt.heap=H1 w.params:=aN Prod.fst Y;have kp:∀b o,zt.heap.get? b=some o->(zt.heap.push {cls:=.type "list",data:=.seq vs.toArray}).get? b=some o:=λb o e=>aG _ e
 have X:=λb o e=>kp b o (by rw[hY];exact Qh _ b o e)
 have ha:a=1417:=by
  have h6:mg "law"=some (.ref a):=h6
  rw[(v9 X (G.T.g) (JR w.params))]at h6
  (injection h6 with zz;injection zz with zz;subst zz);rfl
 subst ha;have lt:Pt<zt.heap.objs.size:=by rw[hY];exact aF (HK w.params)
 refine M8 (xE ns cI) λO n D b ss HO hn he=>?_;refine bz (bt (BF X (kp _ _ (by rw[hY];exact HK _)) (la:=zt.heap.objs.size) (aE _ rfl) (Nat.ne_of_gt lt) rv cI HO hn he) λr s' z=>?_)
 refine lg z ?_;rintro rfl K z1 z2;refine(qL (.inl (xG (.bool true) (.bool true) ([]) rfl (λP=>rfl) (.bool true) ?_ (λP=>⟨List.nodup_nil,λP q=>nomatch q⟩))) K z1 ?_)
 ·kernel_rfl
 ·rw[z2,hg];exact AllBare.empty
end
def cA(O:vX)(n:Nat)(a:Addr)(os:List OV)(ss:OA):C:=match dc gW a with
 |some sT=>mc (ev O n) (eQ vV a) sT os [] ss
 |none=>.no
theorem JE{n:Nat}(HO:fR O (D+1))(h:∀a os ss r,O' a os ss=some r->O a os ss=some r\/cA O n a os ss=r):fR O' (D+2*n+1):=λc cy a sT os vs P s bA f J x ng ag r e=>by
 obtain z|z:=h a os s.ss r e
 ·exact HO c (cy.le (by lia)) a sT os vs P s bA f J x ng ag r z
 ·unfold cA at z
  rw[ng]at z;subst z;exact((pT (Ba HO n).x lq cy).f a sT os vs P s bA f J x ng ag)
noncomputable def cM(l:List Stmt)(i:Nat):Stmt:=l.getD i (.Pass ⟨0,0,0,0⟩)
noncomputable def dE(l:List Expr)(i:Nat):Expr:=l.getD i (.Constant .none 0 ⟨0,0,0,0⟩)
noncomputable def kL(l:List Expr):List Expr×List Comprehension×Scope:=(l,[],default)
noncomputable def kE:Expr->List Expr×List Comprehension×Scope
 | .BoolOp _ l _=>kL l
 | .BinOp l _ r _=>kL [l,r]
 | .UnaryOp _ x _=>kL [x]
 | .IfExp t a b _=>kL [t,a,b]
 | .ListComp e g s _=>([e],g,s)
 | .Compare l _ r _=>kL (l::r)
 | .Call f l _ _=>kL (f::l)
 | .Attribute b _ _=>kL [b]
 | .Subscript b i _=>kL [b,i]
 | .List l _=>kL l
 | .Tuple l _ _=>kL l
 |_=>kL []
noncomputable def kS:Stmt->List Expr×List Stmt×List Stmt
 | .If t a b _=>([t],a,b)
 | .For t i b _ _=>([t,i],b,[])
 | .While t b _ _=>([t],b,[])
 | .Assign ts v _=>(v::ts,[],[])
 | .Return (some v) _=>([v],[],[])
 | .Expr v _=>([v],[],[])
 | .Try b _ _ f _=>([],b,f)
 |_=>([],[],[])
def cU(s:Stmt):List Stmt:=(kS s).2.1
theorem bG{l:List Stmt}{r:R Fl}(h:bL rc cx sT s=.ok .next s')(h2:bO rc cx l s'=r):bO rc cx (sT::l) s=r:=by
 show(bL rc cx sT s).bind _=r
 rw[h];exact h2
theorem dj{l:List Stmt}(h:bL rc cx sT s=.ok (.ret a) s'):bO rc cx (sT::l) s=.ok (.ret a) s':=by
 show(bL rc cx sT s).bind _=_
 rw[h];rfl
noncomputable def cT(cs:LA)(i:Int)(h2 h3:Int):OV:=.ol [.lst cs,.int i,.int h2,.int h3]
def GL(l:Int):Prop:=l=2\/l=3\/l=5\/l=6
theorem Bw{l:Int}(hl:GL l)(cs)(i h3)(k)(ss):cA dH 20 1374 [cT cs i (.ofNat (k+1)) h3,.v (.int l)] ss=
  .ok (.int (Int.fmod (.ofNat (k+1)) l)) (cT cs i (Int.fdiv (.ofNat (k+1)) l) h3) ss:=by
 obtain rfl|rfl|rfl|rfl:=hl<;>kernel_rfl
noncomputable def rN(h3:Int):Int:=Int.fmod (h3*48271) 2147483647
def bN(s:Stmt):Expr:=dE (kS s).1 0
def cV(s:Stmt):Expr:=dE (kS s).1 1
noncomputable def ke:Stmt->List Arg
 | .FunctionDef _ a _ _ _ _ _ _ _ _=>a.args
 |_=>[]
def pB:List Stmt:=ic (cJ 153)
def pX:Cx:=⟨jJ (cJ 153),none,some "hand"⟩
noncomputable def pS(cs:LA)(i h2 h3 l:Int)(ss:OA)(m:LO):S:=⟨[],[(("hand":Str),cT cs i h2 h3),(("limit":Str),.v (.int l))]++m,ss,none⟩
theorem Bv(n)(cs)(i h2 h3 l)(ss):cA dH (n+1) 1374 [cT cs i h2 h3,.v (.int l)] ss=(match bO (ev dH n) pX pB (pS cs i h2 h3 l ss [])with
  | .ok fl s=>fq true (ke (cJ 153)) fl s
  | .exc m s=>.exc m s.ss
  | .no=>.no):=by kernel_rfl
def pD:List Stmt:=cU (cM pB 0)
def Wx:List Stmt:=cU (cM pD 0)
section
variable(n:Nat)(cs:LA)(i h2 h3:Int)(ss:OA)
theorem Ww(l):bL (ev dH (n+8)) pX (cM pB 0) (pS cs i 0 h3 l ss [])=bO (ev dH (n+7)) pX pD (pS cs i 0 h3 l ss []):=by kernel_rfl
theorem Wv(l):bL (ev dH (n+7)) pX (cM pD 0) (pS cs i 0 h3 l ss [])=(match decide (i=(cs.length:Int))with|true=>bO (ev dH (n+6)) pX Wx (pS cs i 0 h3 l ss [])|false=>.ok .next (pS cs i 0 h3 l ss [])):=by kernel_rfl
theorem X1{l:Int}(hl:GL l):bO (ev dH (n+6)) pX Wx (pS cs i 0 h3 l ss [])=.ok (.ret (.int (Int.fmod (Int.fdiv (rN h3) 7) l))) (pS cs i 0 (rN h3) l ss []):=by
 obtain rfl|rfl|rfl|rfl:=hl<;>kernel_rfl
theorem T8(l):(ev dH (n+7)).e pX (bN (cM pD 1)) (pS cs i 0 h3 l ss [])=fw (.lst cs) (.int i) (pS cs i 0 h3 l ss []):=by kernel_rfl
theorem X0(l)(h:xl cs i=some a):bL (ev dH (n+7)) pX (cM pD 1) (pS cs i 0 h3 l ss [])=.ok .next (pS cs i 0 h3 l ss [(("figure":Str),.v a)]):=by
 have e:bL (ev dH (n+7)) pX (cM pD 1) (pS cs i 0 h3 l ss [])=((ev dH (n+7)).e pX (bN (cM pD 1)) (pS cs i 0 h3 l ss [])).bind λo s=>bR (ev dH (n+7)) pX (cV (cM pD 1)) o s:=by kernel_rfl
 rw[e,T8];unfold fw;dsimp only;rw[h]
 kernel_rfl
theorem XZ(l)(a):bL (ev dH (n+7)) pX (cM pD 2) (pS cs i 0 h3 l ss [("figure",.v a)])=.ok .next (pS cs (i+1) 0 h3 l ss [("figure",.v a)]):=by kernel_rfl
theorem T7(l g):(ev dH (n+7)).e pX (bN (cM pD 3)) (pS cs i 0 h3 l ss [(("figure":Str),.v (.int g))])=(match decide (0<=g)with|true=>cZ (.int g) (pS cs i 0 h3 l ss [(("figure":Str),.v (.int g))])|false=>cZ (.int (-g)) (pS cs i 0 h3 l ss [(("figure":Str),.v (.int g))])):=by kernel_rfl
theorem Mc(l g k):bR (ev dH (n+7)) pX (cV (cM pD 3)) (.v (.int k)) (pS cs i 0 h3 l ss [(("figure":Str),.v (.int g))])=.ok .next (pS cs i k h3 l ss [(("figure":Str),.v (.int g))]):=by kernel_rfl
theorem XY(l g:Int):bL (ev dH (n+7)) pX (cM pD 3) (pS cs i 0 h3 l ss [(("figure":Str),.v (.int g))])=.ok .next (pS cs i (if 0<=g then g else-g) h3 l ss [(("figure":Str),.v (.int g))]):=by
 have e:bL (ev dH (n+7)) pX (cM pD 3) (pS cs i 0 h3 l ss [(("figure":Str),.v (.int g))])=((ev dH (n+7)).e pX (bN (cM pD 3)) (pS cs i 0 h3 l ss [(("figure":Str),.v (.int g))])).bind λo s=>bR (ev dH (n+7)) pX (cV (cM pD 3)) o s:=by kernel_rfl
 rw[e,T7];by_cases h:0<=g
 ·rw[decide_eq_true h,aA h];exact Mc n ..
 ·rw[bl h,au h];exact Mc n ..
theorem XX{l:Int}(hl:GL l)(m:LO)(hm:m=[]\/∃g,m=[(("figure":Str),OV.v (.int g))]):bO (ev dH (n+8)) pX (pB.drop 1) (pS cs i h2 h3 l ss m)=.ok (.ret (.int (Int.fmod h2 l))) (pS cs i (Int.fdiv h2 l) h3 l ss (m++[(("digit":Str),OV.v (.int (Int.fmod h2 l)))])):=by
 obtain rfl|⟨g,rfl⟩:=hm<;>obtain rfl|rfl|rfl|rfl:=hl<;>kernel_rfl
end
theorem OG:pB=cM pB 0::pB.drop 1/\pD=[cM pD 0,cM pD 1,cM pD 2,cM pD 3]:=⟨by kernel_rfl,by kernel_rfl⟩
theorem EJ{cs:List Int}(h:j<cs.length):∃g,xl (cs.map .int) (j:Int)=some (.int g):=⟨cs[j],by show(cs.map AV.int)[j]? =_;simp[h]⟩
protected theorem GL.pos {l:Int} (hl:GL l):0<l:=by obtain rfl|rfl|rfl|rfl:=hl<;>decide
theorem pY(cs)(i h2 h3 l)(ss)(m)(d):fq true (ke (cJ 153)) (.ret (.int d)) (pS cs i h2 h3 l ss m)=.ok (.int d) (cT cs i h2 h3) ss:=by kernel_rfl
theorem EA{l:Int}(hl:GL l)(cs:List Int)(hj:j<=cs.length){h2:Int}(h0:0<=h2)(h3:Int)(ss:OA):
  ∃(d:Int) (j':Nat) (C3 lR:Int),cA dH 20 1374 [cT (cs.map .int) j h2 h3,.v (.int l)] ss=.ok (.int d) (cT (cs.map .int) j' C3 lR) ss/\0<=d/\d<l/\j'<=cs.length/\0<=C3:=by
 have lp:=hl.pos
 have fm:∀x:Int,0<=Int.fmod x l/\Int.fmod x l<l:=λx=>by
  rw[Int.fmod_eq_emod_of_nonneg x (Int.le_of_lt lp)];exact⟨Int.emod_nonneg x (Int.ne_of_gt lp),Int.emod_lt_of_pos x lp⟩
 have fd:∀x:Int,0<=x->0<=Int.fdiv x l:=λx hx=>Int.fdiv_nonneg hx (Int.le_of_lt lp)
 refine cH OG λb1 b2=>?_;by_cases z:h2=0
 ·subst z
  rw[Bv 19,b1];by_cases q:(j:Int)=((cs.map AV.int).length:Int)
  ·refine(DZ (Int.fmod (Int.fdiv (rN h3) 7) l) j 0 (rN h3) ?_ ((fm _).1) ((fm _).2) hj (Int.le_refl _))
   rw[dj (s':=pS (cs.map .int) j 0 (rN h3) l ss [])]
   ·exact pY ..
   ·rw[Ww 11,b2]
    exact dj (by rw[Wv 11,decide_eq_true q];exact X1 11 _ _ _ _ hl)
  ·have WQ:j<cs.length:=by rw[ah]at q;lia
   refine cF (EJ WQ) λg hg=>?_;refine(DZ (Int.fmod (if 0<=g then g else-g) l) (j+1) (Int.fdiv (if 0<=g then g else-g) l) h3 ?_ ((fm _).1) ((fm _).2) WQ (fd _ (by split<;>lia)))
   rw[bG ?_ (XX 11 _ _ _ _ _ hl _ (.inr ⟨g,rfl⟩))]
   ·exact pY ..
   ·rw[Ww 11,b2]
    refine bG (by rw[Wv 11,bl q]) (bG (X0 11 _ _ _ _ _ hg) (bG (XZ 11 ..) (bG (XY 11 ..) rfl)))
 ·refine(DZ (Int.fmod h2 l) j (Int.fdiv h2 l) h3 ?_ ((fm _).1) ((fm _).2) hj (fd _ h0))
  obtain⟨k,rfl⟩:∃k,h2=Int.ofNat (k+1):=⟨h2.toNat-1,by rw[Int.ofNat_eq_natCast];lia⟩
  exact Bw hl ..
theorem Oq{b:AV}:dy [(x,b)] x a=[(x,a)]:=by
 show(match dM x x with|true=>[(x,a)]|false=>_)=_
 rw[cR.mpr rfl]
theorem u5{cl:LE}(h:cl=[]\/∃b,cl=[(x,b)]):km (.Name x p) a cl=some [(x,a)]:=by
 show some _=_
 obtain rfl|⟨b,rfl⟩:=h
 ·rfl
 ·rw[Oq]
theorem s7{f:S->R LA}{t:Expr}{b:S->R Bool}{u g:Z->AV}{k:Z->Bool}{P:LE->Prop}(xs:List Z):∀cl,P cl->(∀a∈xs,∀cl,P cl->∃c1 c2 c3,km t (u a) cl=some c1/\b {s with cl:=c1}=.ok (k a) {s with cl:=c2}/\(k a=false->P c2)/\(k a=true->f {s with cl:=c2}=.ok [g a] {s with cl:=c3}/\P c3))->∃c',dU f t b (xs.map u) {s with cl:=cl}=.ok ((xs.filter k).map g) {s with cl:=c'}:=by
 induction xs with
 |nil=>exact λcl Y Y=>⟨cl,rfl⟩
 |cons a l ih=>
  refine λcl h H=>uH (H a (.head _) cl h) λc1 c2 c3 h1 h2 h3 h4=>?_
  rw[aP,rh,h1];show∃c',(b _).bind _=_;rw[h2];generalize q:k a=z at h3 h4;induction z using i8 with
  |false=>rw[List.filter_cons_of_neg (by rw[q];decide)];exact ih c2 (h3 rfl) λb hb=>H b (.tail _ hb)
  |true=>
   refine cF (ih c3 (h4 rfl).2 λb hb=>H b (.tail _ hb)) λc' e=>⟨c',?_⟩
   rw[List.filter_cons_of_pos q];show(f _).bind _=_;rw[(h4 rfl).1];show(dU _ _ _ _ _).bind _=_;rw[e];rfl
theorem lJ{f:S->R LA}{t:Expr}{u g:Z->AV}{P:LE->Prop}(xs:List Z)(cl)(h:P cl)(H:∀a∈xs,∀cl,P cl->∃H8 i9,km t (u a) cl=some H8/\P i9/\f {s with cl:=H8}=.ok [g a] {s with cl:=i9}):∃i9,dU f t (λs=>.ok true s) (xs.map u) {s with cl:=cl}=.ok (xs.map g) {s with cl:=i9}:=by
 refine cF (s7 (f:=f) (t:=t) (b:=λs=>.ok true s) (s:=s) (u:=u) (g:=g) (k:=λY=>true) xs cl h λa ha cl hc=>?_) λc e=>⟨c,?_⟩
 ·refine dR (H a ha cl hc) λc1 c2 h1 h3 h4=>xH c1 c1 c2 h1 rfl (tZ) λY=>⟨h4,h3⟩
 ·rw[List.filter_eq_self.mpr λY Y=>rfl]at e;exact e
theorem qh{f:S->R LA}{u g:Z->AV}(xs:List Z)(cl:LE)(h:cl=[]\/∃b,cl=[(x,b)])(H:∀a∈xs,f {s with cl:=[(x,u a)]}=.ok [g a] {s with cl:=[(x,u a)]}):∃i9,dU f (.Name x p) (λs=>.ok true s) (xs.map u) {s with cl:=cl}=.ok (xs.map g) {s with cl:=i9}:=
 lJ (P:=λcl=>cl=[]\/∃b,cl=[(x,b)]) xs cl h λa ha cl hc=>eF [(x,u a)] [(x,u a)] (u5 hc) (.inr ⟨_,rfl⟩) (H a ha)
theorem s6{f:S->R LA}{g:AV->AV}(xs:LA)(cl:LE)(h:cl=[]\/∃b,cl=[(x,b)])(H:∀a∈xs,f {s with cl:=[(x,a)]}=.ok [g a] {s with cl:=[(x,a)]}):∃i9,dU f (.Name x p) (λs=>.ok true s) xs {s with cl:=cl}=.ok (xs.map g) {s with cl:=i9}:=by
 refine cF (qh (p:=p) xs cl h H) λc e=>⟨c,?_⟩
 rw[List.map_id']at e;exact e
theorem yw{f:AV->S->R Fl}{sT:LA->S->Prop}(H:∀done a rest s,Wf=done++a::rest->sT done s->∃s',f a s=.ok .next s'/\sT (done++[a]) s')(xs):∀done s,Wf=done++xs->sT done s->∃s',ek f xs s=.ok .next s'/\sT Wf s':=by
 induction xs with
 |nil=>exact λdone s e h=>cf s rfl (by rw[e,aU];exact h)
 |cons a l ih=>
  refine λdone s e h=>bW (H done a l s e h) λs1 e1 h1=>bW (ih _ s1 (by rw[e,bj];rfl) h1) λs2 e2 h2=>cf s2 ?_ h2
  show(f a s).bind _=_
  rw[e1];exact e2
theorem wU{f:AV->S->R Fl}{sT:LA->S->Prop}(h:sT [] s)(H:∀done a rest s,xs=done++a::rest->sT done s->∃s',f a s=.ok .next s'/\sT (done++[a]) s'):∃s',ek f xs s=.ok .next s'/\sT xs s':=yw H xs [] s rfl h
abbrev cK:=Addr->List OV->OA->C
def bC(l:List Addr)(T:cK):vX:=λa os ss=>match eQ l a with|true=>some (T a os ss)|false=>none
theorem EE{n:Nat}(HO:fR O (D+1))(l):fR (bC l (cA O n)) (D+2*n+1):=JE HO λa os ss r e=>by
 unfold bC at e
 split at e
 ·obtain rfl:=oI e;exact .inr rfl
 ·exact c8 e
def lX:Cx:=⟨iU,none,none⟩
noncomputable def eT:List Addr:=[1374,1388,961,968,980,1006,1020,1032,1046,1053,1395,1400,1405,1412]
abbrev sT(i:Nat):Stmt:=cM eU i
theorem c0(a)(s)(g:Z->S->R β):(R.ok a s).bind g=g a s:=rfl
theorem ip:vl (.ok (.v a) s)=.ok a s:=rfl
noncomputable def nH(e:Expr):List Expr:=(kE e).1
noncomputable def gO(e:Expr):Expr:=dE (kE e).1 0
noncomputable def k6(e:Expr):Expr:=dE (kE e).1 1
theorem gH(he:rc.e cx e s=.ok (.v a) s1)(hl:oM rc cx l s1=.ok as s2)(h:cG e=true:=by kernel_rfl):oM rc cx (e::l) s=.ok (a::as) s2:=by
 show(match cG e with
  |false=>R.no
  |true=>(vl _).bind λa s=>(oM rc cx l s).bind λas s=>.ok _ s)=_
 rw[h,he];show(oM rc cx l s1).bind _=_;rw[hl];rfl
theorem w9{l r:Expr}{op:Operator}{b:AV}(he:(ev O k).e cx l s=.ok (.v a) s1)(hr:(ev O k).e cx r s1=.ok (.v b) s2):(ev O (k+1)).e cx (.BinOp l op r p) s=kl op a b s2:=by
 show(vl _).bind (λa s=>(vl _).bind λb s=>kl op a b s)=_
 rw[he];show(vl _).bind (λb s=>kl op a b s)=_
 rw[hr];rfl
section
variable(T:cK)(n:Nat)
theorem XJ(xs:LA):bL (ev (bC eT T) (n+10)) lX (sT 0) ⟨[],[(("script":Str),.v (.lst xs))],none,some 0⟩=.ok .next ⟨[],[(("script":Str),.v (.lst xs)),(("cells":Str),.ol (xs.take 63))],none,some 0⟩:=by kernel_rfl
def Il:Expr:=gO (gO (dE (nH (bN (sT 1))) 3))
theorem Ts(xs ys:LA):(ev (bC eT T) (n+7)).e lX Il ⟨[],[(("script":Str),.v (.lst xs)),(("cells":Str),.v (.lst ys))],none,some 0⟩=(match rO 0 ys with|some m=>cZ (.int m) ⟨[],[(("script":Str),.v (.lst xs)),(("cells":Str),.v (.lst ys))],none,some 0⟩|none=>.no):=by kernel_rfl
def Dt:Expr:=dE (nH (bN (sT 1))) 3
theorem Kd:∃p q,Dt=.BinOp (.BinOp Il .Mod (k6 (gO Dt)) p) .Mult (k6 Dt) q:=⟨(gO Dt).pos,Dt.pos,by kernel_rfl⟩
theorem Ny:nH (bN (sT 1))=[dE (nH (bN (sT 1))) 0,dE (nH (bN (sT 1))) 1,dE (nH (bN (sT 1))) 2,Dt]:=by kernel_rfl
noncomputable abbrev A0(xs ys:LA):S:=⟨[],[(("script":Str),.v (.lst xs)),(("cells":Str),.ol ys)],none,some 0⟩
noncomputable abbrev A1(xs ys:LA):S:=⟨[],[(("script":Str),.v (.lst xs)),(("cells":Str),.v (.lst ys))],none,some 0⟩
theorem XI(xs ys:LA){m:Int}(h:rO 0 ys=some m):∃h3,bL (ev (bC eT T) (n+10)) lX (sT 1) (A0 xs ys)=.ok .next ⟨[],[(("script":Str),.v (.lst xs)),(("cells":Str),.v (.lst ys)),(("hand":Str),cT ys 0 0 h3)],none,some 0⟩:=by
 refine⟨Int.fmod m 100003*7,?_⟩;have e0:bL (ev (bC eT T) (n+10)) lX (sT 1) (A0 xs ys)=((oM (ev (bC eT T) (n+9)) lX (nH (bN (sT 1))) (A0 xs ys)).bind λxs s=>(match dF xs.length with|true=>.ok (.ol xs) s|false=>.no)).bind λo s=>bR (ev (bC eT T) (n+10)) lX (cV (sT 1)) o s:=by kernel_rfl
 have h4:(ev (bC eT T) (n+9)).e lX Dt (A1 xs ys)=.ok (.v (.int (Int.fmod m 100003*7))) (A1 xs ys):=by
  refine iA Kd λp q e=>?_;have q1:(ev _ _).e lX Il _=.ok _ _:=(Ts T n xs ys).trans (by rw[h];rfl)
  have q2:(ev (bC eT T) (n+7)).e lX (k6 (gO Dt)) (A1 xs ys)=.ok (.v (.int 100003)) (A1 xs ys):=by kernel_rfl
  have q3:(ev (bC eT T) (n+8)).e lX (k6 Dt) (A1 xs ys)=.ok (.v (.int 7)) (A1 xs ys):=by kernel_rfl
  exact(w9 ((w9 q1 q2).trans rfl) q3).trans rfl
 have h0:(ev (bC eT T) (n+9)).e lX (dE (nH (bN (sT 1))) 0) (A0 xs ys)=.ok (.v (.lst ys)) (A1 xs ys):=by kernel_rfl
 have h1:(ev (bC eT T) (n+9)).e lX (dE (nH (bN (sT 1))) 1) (A1 xs ys)=.ok (.v (.int 0)) (A1 xs ys):=by kernel_rfl
 have h2:(ev (bC eT T) (n+9)).e lX (dE (nH (bN (sT 1))) 2) (A1 xs ys)=.ok (.v (.int 0)) (A1 xs ys):=by kernel_rfl
 rw[e0,Ny,gH h0 (gH h1 (gH h2 (gH h4 rfl)))]
 kernel_rfl
end
abbrev eL(T:cK)(n:Nat):=ev (bC eT T) n
abbrev xL(T:cK)(n:Nat):=bL (ev (bC eT T) (n+20)) lX
abbrev yL(T:cK)(n:Nat):=bO (ev (bC eT T) (n+20)) lX
abbrev aL(T:cK)(n:Nat):=bR (ev (bC eT T) (n+20)) lX
def DN(n:Int)(JC:AV):AV:=.ins o7 [("kind",.str "environment"),("number",.int n),("parent",JC),("attrs",.none),("frame",.dct []),("locked",.bool false),("locks",.dct [])]
def bP:AV:=DN 1 (DN 0 .none)
def jb:LO:=[("limit",.v (.int 20000)),("most_frames",.v (.int 40)),("steps",.v (.int 0)),("next_number",.v (.int 2)),("base",.v (DN 0 .none)),("globals",.v bP),("frames",.ol []),("out",.ol []),("warnings",.ol []),("handlers",.ol []),("restarts",.ol []),("targets",.v (.int 0)),("visible",.v (.bool true)),("current",.v .none),("dispatcher",.v .none),("signaller",.v .none),("warner",.v .none),("deparser",.v .none),("s4",.v .none)]
def cu:AV:=.ins dD [("limit",.int 20000),("most_frames",.int 40),("steps",.int 0),("next_number",.int 2),("base",DN 0 .none),("globals",bP),("frames",.lst []),("out",.lst []),("warnings",.lst []),("handlers",.lst []),("restarts",.lst []),("targets",.int 0),("dispatcher",.none),("signaller",.none),("warner",.none),("deparser",.none),("s4",.none)]
section
variable(T:cK)(n:Nat)(o1 o2 o3 o4:OV)(cs:LA)(i h2 h3:Int)
theorem XH:xL T n (sT 2) ⟨[],[("script",o1),("cells",o2),("hand",o3)],none,some 0⟩=.ok .next ⟨[],[("script",o1),("cells",o2),("hand",o3),("interp",.oi dD jb)],none,some 0⟩:=by kernel_rfl
structure dx where
 cs:List Int
 j:Nat
 h2:Int
 h3:Int
 hj:j<=cs.length
 h0:0<=h2
protected def dx.o (h:dx):OV:=cT (h.cs.map .int) h.j h.h2 h.h3
def fH(T:cK):Prop:=∀(h:dx) (l:Int) (ss:OA),GL l->∃(d:Int) (h':dx),T 1374 [h.o,.v (.int l)] ss=.ok (.int d) h'.o ss/\0<=d/\d<l
theorem Oz:fH (cA dH 20):=λh l ss hl=>by
 refine IX (EA hl h.cs h.hj h.h0 h.h3 ss) λd j' C3 lR e d0 d1 hj h0=>(eF d ⟨h.cs,j',C3,lR,hj,h0⟩ e d0 d1)
noncomputable abbrev B3(o1 o2 hd o4:OV):S:=⟨[],[("script",o1),("cells",o2),("hand",hd),("interp",o4)],none,some 0⟩
noncomputable abbrev B4(o1 o2 hd o4 fo:OV):S:=⟨[],[("script",o1),("cells",o2),("hand",hd),("interp",o4),("form",fo)],none,some 0⟩
noncomputable abbrev B5(o1 o2 hd o4 fo ma:OV):S:=⟨[],[("script",o1),("cells",o2),("hand",hd),("interp",o4),("form",fo),("many",ma)],none,some 0⟩
noncomputable abbrev B6(o1 o2 hd o4 fo ma ki:OV):S:=⟨[],[("script",o1),("cells",o2),("hand",hd),("interp",o4),("form",fo),("many",ma),("kind",ki)],none,some 0⟩
theorem js{T:cK}(hT:fH T){t:Expr}{x:Stmt}{S1:OV->S}{S2:OV->Int->S}{l:Int}(hl:GL l)(h:dx)(eb:∀cs i h2 h3,bL rc lX x (S1 (cT cs i h2 h3))=((T 1374 [cT cs i h2 h3,.v (.int l)] ss).toL "hand" (S1 (cT cs i h2 h3))).bind λo s=>bR rc lX t o s)(ea:∀cs i h2 h3 LD i' C3 lR d,bR rc lX t (.v (.int d)) {(S1 (cT cs i h2 h3)).set "hand" (cT LD i' C3 lR)with ss:=ss}=.ok .next (S2 (cT LD i' C3 lR) d)):
  ∃d h',0<=d/\d<l/\bL rc lX x (S1 h.o)=.ok .next (S2 (dx.o h') d):=by
 refine dR (hT h l ss hl) λd h' e d0 d1=>(eF d h' d0 d1 ?_)
 unfold dx.o at e⊢;rw[eb,e];exact ea ..
theorem XG(hT:fH T)(h:dx):∃d h',0<=d/\d<5/\xL T n (sT 3) (B3 o1 o2 h.o o4)=.ok .next (B4 o1 o2 (dx.o h') o4 (.v (.int d))):=
 js hT (t:=cV (sT 3)) (S1:=λhd=>B3 o1 o2 hd o4) (S2:=λhd d=>B4 o1 o2 hd o4 (.v (.int d))) (ss:=none) (.inr (.inr (.inl rfl))) h (λY Y Y Y=>by kernel_rfl) λY Y Y Y Y Y Y Y Y=>by kernel_rfl
theorem XF(hT:fH T)(h:dx)(fo):∃d h',0<=d/\d<6/\xL T n (sT 4) (B4 o1 o2 h.o o4 fo)=.ok .next (B5 o1 o2 (dx.o h') o4 fo (.v (.int d))):=
 js hT (t:=cV (sT 4)) (S1:=λhd=>B4 o1 o2 hd o4 fo) (S2:=λhd d=>B5 o1 o2 hd o4 fo (.v (.int d))) (ss:=none) (.inr (.inr (.inr rfl))) h (λY Y Y Y=>by kernel_rfl) λY Y Y Y Y Y Y Y Y=>by kernel_rfl
noncomputable def cW(d:Int):Str:=if d=0 then "integer" else "character"
theorem XE(hT:fH T)(h:dx)(fo ma):∃d h',0<=d/\d<2/\xL T n (sT 5) (B5 o1 o2 h.o o4 fo ma)=.ok .next (B6 o1 o2 (dx.o h') o4 fo ma (.v (.str (cW d)))):=by
 have eb:∀cs i h2 h3,xL T n (sT 5) (B5 o1 o2 (cT cs i h2 h3) o4 fo ma)=((vl ((T 1374 [cT cs i h2 h3,.v (.int 2)] none).toL "hand" (B5 o1 o2 (cT cs i h2 h3) o4 fo ma))).bind λk s=>fw (.lst [.str "integer",.str "character"]) k s).bind λo s=>aL T n (cV (sT 5)) o s:=λY Y Y Y=>by kernel_rfl
 have ea:∀cs i h2 h3 a,aL T n (cV (sT 5)) (.v (.str a)) (B5 o1 o2 (cT cs i h2 h3) o4 fo ma)=.ok .next (B6 o1 o2 (cT cs i h2 h3) o4 fo ma (.v (.str a))):=λY Y Y Y Y=>by kernel_rfl
 refine dR (hT h 2 none (.inl rfl)) λd h' e d0 d1=>(eF d h' d0 d1 ?_)
 unfold dx.o at e⊢;rw[eb,e];have:=Un d0 d1;obtain rfl|rfl:=this
 ·exact ea ..
 ·exact ea ..
end
noncomputable def eJ(e:Expr):Expr:=dE (kE e).1 0
noncomputable def J2(e:Expr):List Comprehension:=(kE e).2.1
noncomputable def jc(e:Expr):Scope:=(kE e).2.2
noncomputable def gC(e:Expr):Comprehension:=(kE e).2.1.headD ⟨e,e,[],0⟩
def gN(e:Expr):Expr:=(gC e).target
def eO(x:Int):Prop:=0<=x/\x<5
section
variable(T:cK)(n:Nat)(o1 o2 o3 o4:OV)(cs:LA)(i h2 h3:Int)
abbrev c6:Expr:=bN (sT 6)
def LC:Cx:=⟨iU,some (jc c6),none⟩
theorem Y2(a)(fo ma ki):(eL T (n+19)).e LC (eJ c6) ⟨[("_",a)],[("script",o1),("cells",o2),("hand",cT cs i h2 h3),("interp",o4),("form",fo),("many",ma),("kind",ki)],none,some 0⟩=(T 1374 [cT cs i h2 h3,.v (.int 5)] none).toL "hand" ⟨[("_",a)],[("script",o1),("cells",o2),("hand",cT cs i h2 h3),("interp",o4),("form",fo),("many",ma),("kind",ki)],none,some 0⟩:=by kernel_rfl
theorem Xq:∃p,gN c6=.Name "_" p:=⟨(gN c6).pos,by kernel_rfl⟩
theorem Ff{T:cK}(hT:fH T)(fo ma ki:OV):∀(xs:LA) (cl:LE) (h:dx),(cl=[]\/∃b,cl=[(("_":Str),b)])->∃(fs:List Int) (h':dx) (i9:LE),fs.length=xs.length/\(∀x∈fs,eO x)/\
  dU (λs=>(vl ((eL T (n+19)).e LC (eJ c6) s)).bind λa s=>.ok [a] s) (.Name "_" p) (λs=>.ok true s) xs ⟨cl,[("script",o1),("cells",o2),("hand",h.o),("interp",o4),("form",fo),("many",ma),("kind",ki)],none,some 0⟩=.ok (fs.map .int) ⟨i9,[("script",o1),("cells",o2),("hand",h'.o),("interp",o4),("form",fo),("many",ma),("kind",ki)],none,some 0⟩:=by
 intro xs;induction xs with
 |nil=>intro cl h _;exact(mK ([]) h cl rfl (λY q=>nomatch q) rfl)
 |cons a l ih=>
  intro cl h hc;refine dR (hT h 5 none (.inr (.inr (.inl rfl)))) λd h1 e d0 d1=>?_;refine jM (ih [("_",a)] h1 (.inr ⟨a,rfl⟩)) λfs h' i9 f1 f2 f3=>?_;refine(mK (d::fs) h' i9 (by rw[aM,aM,f1]) (λx hx=>?_) ?_)
  ·obtain z|z:=List.mem_cons.mp hx
   ·subst z;exact⟨d0,d1⟩
   ·exact f2 x z
  ·rw[rh,show(({cl:=cl,loc:=[("script",o1),("cells",o2),("hand",h.o),("interp",o4),("form",fo),("many",ma),("kind",ki)],ss:=none,dl:=some 0}:S).cl)=cl from rfl,u5 hc]
   show((vl ((eL T (n+19)).e LC (eJ c6) ⟨[("_",a)],[("script",o1),("cells",o2),("hand",h.o),("interp",o4),("form",fo),("many",ma),("kind",ki)],none,some 0⟩)).bind λa s=>.ok [a] s).bind _=_
   unfold dx.o at e⊢;rw[Y2,e];show(dU _ (.Name "_" p) _ l ⟨[("_",a)],[("script",o1),("cells",o2),("hand",h1.o),("interp",o4),("form",fo),("many",ma),("kind",ki)],none,some 0⟩).bind _=_;rw[f3];rfl
noncomputable abbrev B7(o1 o2 hd o4 fo ma ki fi:OV):S:=⟨[],[("script",o1),("cells",o2),("hand",hd),("interp",o4),("form",fo),("many",ma),("kind",ki),("figures",fi)],none,some 0⟩
def WJ(e:Expr):Expr:=(gC e).iter
theorem Ux(fo ki)(d:Nat)(hd:d<6):(eL T (n+20)).e lX (WJ c6) (B6 o1 o2 o3 o4 fo (.v (.int d)) ki)=.ok (.v (.rng d)) (B6 o1 o2 o3 o4 fo (.v (.int d)) ki):=by
 have:=Ir hd
 obtain rfl|rfl|rfl|rfl|rfl|rfl:=this<;>kernel_rfl
theorem Zq(fo ma ki):xL T n (sT 6) (B6 o1 o2 o3 o4 fo ma ki)=((((vl ((eL T (n+20)).e lX (WJ c6) (B6 o1 o2 o3 o4 fo ma ki))).bind λa s=>(match dh a with
  |none=>.no
  |some xs=>dU (λs=>(vl ((eL T (n+20)).e LC (eJ c6) s)).bind λa s=>.ok [a] s) (gN c6) (zD (eL T (n+20)) LC []) xs {s with cl:=[]})).bind fD).noExc).bind λo s=>aL T n (cV (sT 6)) o s:=by kernel_rfl
theorem Zv(fo ma ki)(xs:LA):aL T n (cV (sT 6)) (.v (.lst xs)) (B6 o1 o2 o3 o4 fo ma ki)=.ok .next (B7 o1 o2 o3 o4 fo ma ki (.v (.lst xs))):=by kernel_rfl
theorem XD{T:cK}(hT:fH T)(h:dx)(fo ki)(d)(hd:d<6):∃(fs:List Int) (h':dx),fs.length=d/\(∀x∈fs,eO x)/\xL T n (sT 6) (B6 o1 o2 h.o o4 fo (.v (.int d)) ki)=.ok .next (B7 o1 o2 (dx.o h') o4 fo (.v (.int d)) ki (.v (.lst (fs.map .int)))):=by
 refine cF Xq λp e=>jM (Ff (n+1) o1 o2 o4 hT fo (.v (.int d)) ki (p:=p) ((List.range d).map λ(k:Nat)=>AV.int k) [] h (.inl rfl)) λfs h' i9 f1 f2 f3=>?_
 have f1:fs.length=d:=by rw[f1,ah,aY]
 refine(eF fs h' f1 f2 ?_);rw[Zq,Ux T n o1 o2 _ o4 fo ki d hd,e];refine(aN (λr=>(((R.bind r fD).noExc).bind λo s=>aL T n _ o s)) f3).trans ?_
 show((fD _ _).noExc).bind _=_
 unfold fD;rw[show dF (fs.map AV.int).length=true from aQ (by rw[ah];lia)]
 exact Zv T n ..
end
def cP(k:Int)(x:Int):AV:=if k=0 then .int x else .str (nt "x" x.toNat)
theorem eO.cases{x:Int}(h:eO x):x=0\/x=1\/x=2\/x=3\/x=4:=Mg h.1 h.2
noncomputable def Hl:AV->Int
 | .int x=>x
 |_=>0
noncomputable def iF(e:Expr):Expr:=dE (kE e).1 2
section
variable(T:cK)(n:Nat)(o1 o2 o3 o4:OV)(cs:LA)(i h2 h3:Int)
abbrev c7:Expr:=iF (bN (sT 7))
def RI:Cx:=⟨iU,some (jc c7),none⟩
noncomputable abbrev B8(o1 o2 hd o4 fo ma ki fi it:OV):S:=⟨[],[("script",o1),("cells",o2),("hand",hd),("interp",o4),("form",fo),("many",ma),("kind",ki),("figures",fi),("items",it)],none,some 0⟩
theorem Y1(fo ma ki fi){x:Int}(hx:eO x):(eL T (n+18)).e RI (eJ c7) ⟨[("one",.int x)],[("script",o1),("cells",o2),("hand",o3),("interp",o4),("form",fo),("many",ma),("kind",ki),("figures",fi)],none,some 0⟩=.ok (.v (cP 1 x)) ⟨[("one",.int x)],[("script",o1),("cells",o2),("hand",o3),("interp",o4),("form",fo),("many",ma),("kind",ki),("figures",fi)],none,some 0⟩:=by
 obtain rfl|rfl|rfl|rfl|rfl:=hx.cases<;>kernel_rfl
theorem Xp:∃p,gN c7=.Name "one" p:=⟨(gN c7).pos,by kernel_rfl⟩
theorem Zu(fo ma ki fi)(xs:LA):aL T n (cV (sT 7)) (.v (.lst xs)) (B7 o1 o2 o3 o4 fo ma ki fi)=.ok .next (B8 o1 o2 o3 o4 fo ma ki fi (.v (.lst xs))):=by kernel_rfl
theorem SO(fo ma)(xs:LA):xL T n (sT 7) (B7 o1 o2 o3 o4 fo ma (.v (.str (cW 0))) (.v (.lst xs)))=.ok .next (B8 o1 o2 o3 o4 fo ma (.v (.str (cW 0))) (.v (.lst xs)) (.v (.lst xs))):=by kernel_rfl
theorem Zp(fo ma)(xs:LA):xL T n (sT 7) (B7 o1 o2 o3 o4 fo ma (.v (.str (cW 1))) (.v (.lst xs)))=(((dU (λs=>(vl ((eL T (n+18)).e RI (eJ c7) s)).bind λa s=>.ok [a] s) (gN c7) (λs=>.ok true s) xs (B7 o1 o2 o3 o4 fo ma (.v (.str (cW 1))) (.v (.lst xs)))).bind fD).noExc).bind λo s=>aL T n (cV (sT 7)) o s:=by kernel_rfl
theorem XC(fo ma)(fs:List Int)(hf:∀x∈fs,eO x)(cI:fs.length<=5){k:Int}(hk:k=0\/k=1):xL T n (sT 7) (B7 o1 o2 o3 o4 fo ma (.v (.str (cW k))) (.v (.lst (fs.map .int))))=.ok .next (B8 o1 o2 o3 o4 fo ma (.v (.str (cW k))) (.v (.lst (fs.map .int))) (.v (.lst (fs.map (cP k))))):=by
 obtain rfl|rfl:=hk
 ·exact SO ..
 ·rw[Zp]
  obtain⟨p,e⟩:=Xp;obtain⟨i9,c⟩:=s6 (f:=λs=>(vl ((eL T _).e RI _ s)).bind λa s=>.ok [a] s) (s:=B7 o1 o2 o3 o4 fo ma (.v _) (.v _)) (g:=λa=>cP 1 (Hl a)) _ [] (.inl rfl) λa ha=>by
   obtain⟨x,hx,rfl⟩:=List.mem_map.mp ha;rw[Y1 T n o1 o2 o3 o4 fo ma _ _ (hf x hx)];rfl
  refine(aN (λr=>(((R.bind r fD).noExc).bind λo s=>aL T n _ o s)) c).trans ?_
  rw[bh];show((fD _ _).noExc).bind _=_;unfold fD;rw[show dF (fs.map _).length=true from aQ (by rw[ah];lia)]
  exact Zu T n ..
end
noncomputable def Qy:LA:=[.str "a",.str "b",.str "c",.str "d",.str "e"]
noncomputable def lr(b:Bool)(m:Nat):OV:=match b with
 |true=>.ol (Qy.take m)
 |false=>.v .none
noncomputable def rZ(e:Expr):Expr:=dE (kE e).1 1
def ij(a b:AV)(op:CmpOp)(s:S):R Bool:=match a,b,op with
 | .seen,.lst ys,.NotEq=>(match s.ss with
  |some l=>(match eK (.lst l) (.lst ys)with|some t=>.ok (!t) s|none=>.no)
  |none=>.no)
 |a,b,op=>(match qw op a b with|some t=>.ok t s|none=>.no)
section
variable(T:cK)(n:Nat)(o1 o2 o3 o4:OV)(cs:LA)(i h2 h3:Int)
noncomputable abbrev B9(o1 o2 hd o4 fo ma ki fi it nm:OV):S:=⟨[],[("script",o1),("cells",o2),("hand",hd),("interp",o4),("form",fo),("many",ma),("kind",ki),("figures",fi),("items",it),("names",nm)],none,some 0⟩
noncomputable abbrev RX(o1 o2 hd o4 fo ma ki fi it nm ro:OV):S:=⟨[],[("script",o1),("cells",o2),("hand",hd),("interp",o4),("form",fo),("many",ma),("kind",ki),("figures",fi),("items",it),("names",nm),("as_rows",ro)],none,some 0⟩
theorem Zo(fo ki fi it)(m):xL T n (sT 8) (B8 o1 o2 (cT cs i h2 h3) o4 fo (.v (.int (.ofNat m))) ki fi it)=((((vl ((T 1374 [cT cs i h2 h3,.v (.int 3)] none).toL "hand" (B8 o1 o2 (cT cs i h2 h3) o4 fo (.v (.int (.ofNat m))) ki fi it))).bind λa s=>ij a (.int 2) .Eq s).bind λc s=>(match c with|true=>(eL T (n+19)).e lX (rZ (bN (sT 8))) s|false=>(eL T (n+19)).e lX (iF (bN (sT 8))) s)).bind λo s=>aL T n (cV (sT 8)) o s):=by kernel_rfl
theorem Vs(fo ki fi it)(m):((eL T (n+19)).e lX (rZ (bN (sT 8))) (B8 o1 o2 o3 o4 fo (.v (.int (.ofNat m))) ki fi it)).bind (λo s=>aL T n (cV (sT 8)) o s)=.ok .next (B9 o1 o2 o3 o4 fo (.v (.int (.ofNat m))) ki fi it (lr true m)):=by kernel_rfl
theorem MD(fo ki fi it)(m):((eL T (n+19)).e lX (iF (bN (sT 8))) (B8 o1 o2 o3 o4 fo (.v (.int (.ofNat m))) ki fi it)).bind (λo s=>aL T n (cV (sT 8)) o s)=.ok .next (B9 o1 o2 o3 o4 fo (.v (.int (.ofNat m))) ki fi it (lr false m)):=by kernel_rfl
theorem XB(hT:fH T)(h:dx)(fo ki fi it)(m):∃b h',xL T n (sT 8) (B8 o1 o2 h.o o4 fo (.v (.int (.ofNat m))) ki fi it)=.ok .next (B9 o1 o2 (dx.o h') o4 fo (.v (.int (.ofNat m))) ki fi it (lr b m)):=by
 refine dR (hT h 3 none (.inr (.inl rfl))) λd h' e d0 d1=>(iY (decide (d=2)) h' ?_)
 unfold dx.o at e⊢;rw[Zo,e];have:=Iv d0 d1;obtain rfl|rfl|rfl:=this
 ·exact MD ..
 ·exact MD ..
 ·exact Vs ..
theorem Zn(fo ma ki fi it nm):xL T n (sT 9) (B9 o1 o2 (cT cs i h2 h3) o4 fo ma ki fi it nm)=(((vl ((T 1374 [cT cs i h2 h3,.v (.int 3)] none).toL "hand" (B9 o1 o2 (cT cs i h2 h3) o4 fo ma ki fi it nm))).bind λa s=>ij a (.int 2) .Eq s).bind λb s=>cZ (.bool b) s).bind λo s=>aL T n (cV (sT 9)) o s:=by kernel_rfl
theorem Zt(fo ma ki fi it nm)(b):aL T n (cV (sT 9)) (.v (.bool b)) (B9 o1 o2 o3 o4 fo ma ki fi it nm)=.ok .next (RX o1 o2 o3 o4 fo ma ki fi it nm (.v (.bool b))):=by kernel_rfl
theorem XA(hT:fH T)(h:dx)(fo ma ki fi it nm):∃b h',xL T n (sT 9) (B9 o1 o2 h.o o4 fo ma ki fi it nm)=.ok .next (RX o1 o2 (dx.o h') o4 fo ma ki fi it nm (.v (.bool b))):=by
 refine dR (hT h 3 none (.inr (.inl rfl))) λd h' e d0 d1=>(iY (decide (d=2)) h' ?_)
 unfold dx.o at e⊢;rw[Zn,e];have:=Iv d0 d1;obtain rfl|rfl|rfl:=this<;>exact Zt T n o1 o2 _ o4 fo ma ki fi it nm _
end
abbrev bV(k:Str)(xs:LA)(a:AV):AV:=.ins gG [("kind",.str k),("items",.lst xs),("attrs",a)]
abbrev eR(k:Str)(xs:LA)(a:OV):OV:=.oi gG [("kind",.v (.str k)),("items",.v (.lst xs)),("attrs",a),("shared",.v (.bool false)),("loose",.v (.bool false))]
noncomputable def iq(b:Bool)(k:Str):Str:=match b with|true=>"list"|false=>k
def gQ(b:Bool)(k:Str)(xs:LA):LA:=match b with|true=>xs.map λa=>bV k [a] .none|false=>xs
theorem fP{P:List Z->Prop}(h0:P []:=by intros;kernel_rfl)(h1:∀a,P [a]:=by intros;kernel_rfl)(h2:∀a b,P [a,b]:=by intros;kernel_rfl)(h3:∀a b c,P [a,b,c]:=by intros;kernel_rfl)(h4:∀a b c d,P [a,b,c,d]:=by intros;kernel_rfl)(h5:∀a b c d e,P [a,b,c,d,e]:=by intros;kernel_rfl):∀xs:List Z,xs.length<=5->P xs
 |[],_=>h0
 |[a],_=>h1 a
 |[a,b],_=>h2 a b
 |[a,b,c],_=>h3 a b c
 |[a,b,c,d],_=>h4 a b c d
 |[a,b,c,d,e],_=>h5 a b c d e
 |a::b::c::d::e::f::l,h=>absurd h (by simp only[aM];lia)
section
variable(T:cK)(n:Nat)(o1 o2 o3 o4:OV)(cs:LA)(i h2 h3:Int)
noncomputable abbrev Q2(o1 o2 hd o4 fo ma ki fi it nm ro v:OV):S:=⟨[],[("script",o1),("cells",o2),("hand",hd),("interp",o4),("form",fo),("many",ma),("kind",ki),("figures",fi),("items",it),("names",nm),("as_rows",ro),("v",v)],none,some 0⟩
theorem TH(fo ma fi nm)(k)(b)(xs:LA)(hx:xs.length<=5):xL T n (sT 10) (RX o1 o2 o3 o4 fo ma (.v (.str k)) fi (.v (.lst xs)) nm (.v (.bool b)))=.ok .next (Q2 o1 o2 o3 o4 fo ma (.v (.str k)) fi (.v (.lst xs)) nm (.v (.bool b)) (eR (iq b k) (gQ b k xs) (.v .none))):=by
 revert xs;induction b using i8 with
 |false=>exact fP
 |true=>exact fP
end
noncomputable def Gr(m:Nat):LA:=Qy.take m
noncomputable def eC(b:Bool)(m:Nat):AV:=match b with|true=>.lst (Gr m)|false=>.none
def ud(b:Bool)(m:Nat):AV:=match b with|true=>.dct [("names",bV "character" (Gr m) .none)]|false=>.none
def Ia(b:Bool)(m:Nat):OV:=match b with|true=>.od [("names",bV "character" (Gr m) .none)]|false=>.v .none
def gY(fo:Int):AV:=.clo (sT 13) [("form",.int fo),("seen",.seen)]
noncomputable def ME(name:Str)(c:AV):LE:=[("kind",.str "builtin"),("name",.str name),("special",.bool false),("fn",c),("group",.str ""),("attrs",.none)]
def cb(name:Str)(c:AV):AV:=.ins nI (ME name c)
def mH(name:Str)(c:AV):OV:=.oi nI ((ME name c).map λp=>(p.1,.v p.2))
section
variable(T:cK)(n:Nat)(o1 o2 o3 o4:OV)(cs:LA)(i h2 h3:Int)
theorem TG(fo ma ki fi it ro)(k)(xs)(nb)(m)(hm:m<=5):xL T n (sT 11) (Q2 o1 o2 o3 o4 fo ma ki fi it (lr nb m) ro (eR k xs (.v .none)))=.ok .next (Q2 o1 o2 o3 o4 fo ma ki fi it (.v (eC nb m)) ro (eR k xs (Ia nb m))):=by
 have:=Ir (Nat.lt_succ_of_le hm)
 induction nb using i8 with
 |false=>kernel_rfl
 |true=>obtain rfl|rfl|rfl|rfl|rfl|rfl:=this<;>kernel_rfl
noncomputable abbrev W'(o1 o2 hd o4 fo ma ki fi it nm ro v:OV):S:=⟨[],[("script",o1),("cells",o2),("hand",hd),("interp",o4),("form",fo),("many",ma),("kind",ki),("figures",fi),("items",it),("names",nm),("as_rows",ro),("v",v),("seen",.v .seen)],some [],some 0⟩
theorem TF(fo ma ki fi it nm ro v):xL T n (sT 12) (Q2 o1 o2 o3 o4 fo ma ki fi it nm ro v)=.ok .next (W' o1 o2 o3 o4 fo ma ki fi it nm ro v):=by kernel_rfl
abbrev lV(o1 o2 hd o4:OV)(fo:Int)(ma ki fi it nm ro v:OV)(ss:LA)(tl:LO):S:=⟨[],("script",o1)::("cells",o2)::("hand",hd)::("interp",o4)::("form",.k (.int fo))::("many",ma)::("kind",ki)::("figures",fi)::("items",it)::("names",nm)::("as_rows",ro)::("v",v)::("seen",.k .seen)::("called",.v (gY fo))::tl,some ss,some 1357⟩
theorem TC(fo)(ma ki fi it nm ro v):xL T n (sT 13) (W' o1 o2 o3 o4 (.v (.int fo)) ma ki fi it nm ro v)=.ok .next (lV o1 o2 o3 o4 fo ma ki fi it nm ro v [] []):=by kernel_rfl
theorem Tz(fo)(ma ki fi it nm ro v):xL T n (sT 14) (lV o1 o2 o3 o4 fo ma ki fi it nm ro v [] [])=.ok .next (lV o1 o2 o3 o4 fo ma ki fi it nm ro v [] [("f",mH "f" (gY fo))]):=by kernel_rfl
end
noncomputable def LK(fo x:Int):Str:=if fo=3 then "character" else if fo=4 then(if Int.fmod x 2=1 then "character" else "integer")else "integer"
noncomputable def tS(x:Int):Str:=if x=0 then "t0" else if x=1 then "t1" else if x=2 then "t2" else if x=3 then "t3" else "t4"
noncomputable def LL(fo x:Int):LA:=if fo=1 then[.int x,.int (x+1)]else if fo=2 then(List.range (Int.fmod x 3).toNat).map λ(j:Nat)=>AV.int (j:Int)else if fo=3 then[.str (tS x)]else if fo=4 then(if Int.fmod x 2=1 then[.str (tS x)]else[.int (2*x)])else[.int (2*x)]
def dC(fo x:Int):AV:=bV (LK fo x) (LL fo x) .none
def DV(T:cK):Prop:=∀(fo x:Int) (ss:OA),eO fo->eO x->T 1388 [.v (.int fo),.v (.int x)] ss=.ok (dC fo x) (.v .none) ss
theorem LJ:DV (cA dH 20):=λfo x ss hf hx=>by
 revert x;obtain rfl|rfl|rfl|rfl|rfl:=hf.cases<;>exact λx hx=>by obtain rfl|rfl|rfl|rfl|rfl:=hx.cases<;>kernel_rfl
section
variable(T:cK)(n:Nat)(o1 o2 o3 o4:OV)(cs:LA)(i h2 h3:Int)
abbrev GC:Expr:=bN (sT 15)
def DQ:Cx:=⟨iU,some (jc GC),none⟩
theorem Sw:∃p,gN GC=.Name "one" p:=⟨(gN GC).pos,by kernel_rfl⟩
theorem U6(fo)(ma ki it nm ro v f)(xs ss:LA)(x):(eL T (n+20)).e DQ (eJ GC) {lV o1 o2 o3 o4 fo ma ki (.v (.lst xs)) it nm ro v ss [("f",f)]with cl:=[("one",.int x)]}=(T 1388 [.v (.int fo),.v (.int x)] (some ss)).toR {lV o1 o2 o3 o4 fo ma ki (.v (.lst xs)) it nm ro v ss [("f",f)]with cl:=[("one",.int x)]} λv Y s=>cZ v s:=by kernel_rfl
theorem VE(fo)(ma ki it nm ro v f)(xs ss:LA):xL T n (sT 15) (lV o1 o2 o3 o4 fo ma ki (.v (.lst xs)) it nm ro v ss [("f",f)])=(((dU (λs=>(vl ((eL T (n+20)).e DQ (eJ GC) s)).bind λa s=>.ok [a] s) (gN GC) (λs=>.ok true s) xs (lV o1 o2 o3 o4 fo ma ki (.v (.lst xs)) it nm ro v ss [("f",f)])).bind fD).noExc).bind λo s=>aL T n (cV (sT 15)) o s:=by kernel_rfl
theorem VO(fo)(ma ki fi it nm ro v f)(xs ss:LA):aL T n (cV (sT 15)) (.v (.lst xs)) (lV o1 o2 o3 o4 fo ma ki fi it nm ro v ss [("f",f)])=.ok .next (lV o1 o2 o3 o4 fo ma ki fi it nm ro v ss [("f",f),("values",.v (.lst xs))]):=by kernel_rfl
theorem Tx{T:cK}(hT:DV T)(hfo:eO fo)(ma ki it nm ro v f:OV)(fs:List Int)(hf:∀x∈fs,eO x)(cI:fs.length<=5)(ss:LA):xL T n (sT 15) (lV o1 o2 o3 o4 fo ma ki (.v (.lst (fs.map .int))) it nm ro v ss [("f",f)])=.ok .next (lV o1 o2 o3 o4 fo ma ki (.v (.lst (fs.map .int))) it nm ro v ss [("f",f),("values",.v (.lst (fs.map (dC fo))))]):=by
 obtain⟨p,e⟩:=Sw;obtain⟨i9,c⟩:=s6 (f:=λs=>(vl ((eL T (n+20)).e DQ (eJ GC) s)).bind λa s=>.ok [a] s) (p:=p) (s:=lV o1 o2 o3 o4 fo ma ki (.v (.lst (fs.map .int))) it nm ro v ss [("f",f)]) (g:=λa=>dC fo (Hl a)) (fs.map .int) [] (.inl rfl) λa ha=>by
  obtain⟨x,hx,rfl⟩:=List.mem_map.mp ha;show(vl ((eL T (n+20)).e DQ (eJ GC) _)).bind _=_;rw[U6,hT fo x _ hfo (hf x hx)];rfl
 rw[VE,e];refine(aN (λr=>(((R.bind r fD).noExc).bind λo s=>aL T n (cV (sT 15)) o s)) c).trans ?_
 rw[bh];show((fD (fs.map (dC fo)) _).noExc).bind _=_;unfold fD;rw[show dF (fs.map (dC fo)).length=true from aQ (by rw[ah];lia)]
 exact VO T n ..
end
def gT(k:Int)(x:Int):AV:=bV (cW k) [cP k x] .none
theorem ED{T:cK}(h:∀a,∃O n D',fR O (D'+1)/\D'+2*n+1<=D/\∀os ss,T a os ss=cA O n a os ss)(l):fR (bC l T) D:=λc cy a sT os vs P s bA f J x ng ag r e=>by
 refine jM (h a) λO n D' HO le q=>EE HO l c (cy.le (by omega)) a sT os vs P s bA f J x ng ag r ?_
 unfold bC at e⊢;rw[<-q];exact e
def RW(T:cK):Prop:=∀(fo k x:Int) (ss:LA),eO fo->(k=0\/k=1)->eO x->ss.length<=100->T 1346 [.v cu,.v (cb "f" (gY fo)),.v (.lst [.tup [.none,gT k x]]),.v bP] (some ss)=.ok (dC fo x) (.v .none) (some (ss++[.int x]))
theorem U8(k x)(hk:k=0\/k=1)(hx:eO x)(ss):cA dH 20 1381 [.v (gT k x)] ss=.ok (.int x) (.v .none) ss:=by
 obtain rfl|rfl:=hk
 ·kernel_rfl
 ·obtain rfl|rfl|rfl|rfl|rfl:=hx.cases<;>kernel_rfl
def M5(T:cK):Prop:=∀(k x:Int) (ss:OA),(k=0\/k=1)->eO x->T 1381 [.v (gT k x)] ss=.ok (.int x) (.v .none) ss
theorem U2:M5 (cA dH 20):=λk x ss hk hx=>U8 k x hk hx ss
theorem lA(h:rc.e cx e s=.ok (.v a) s'):bL rc cx (.Return (some e) p) s=.ok (.ret a) s':=by
 show(vl _).bind _=_
 rw[h];rfl
theorem ew:∀{l l2} {s s'} {r},bO rc cx l s=.ok .next s'->bO rc cx l2 s'=r->bO rc cx (l++l2) s=r:=by
 intro l;induction l with
 |nil=>intro l2 s s' r h h2;(injection h with zz yy;clear zz;subst yy);exact h2
 |cons x l ih=>
  intro l2 s s' r h h2;have h:(bL rc cx x s).bind (λf s=>match f with| .next=>bO rc cx l s|f=>.ok f s)=.ok .next s':=h
  show(bL rc cx x s).bind (λf s=>match f with| .next=>bO rc cx _ s|f=>.ok f s)=r
  generalize e:bL rc cx x s=zz;induction zz using iw with
  |ok f s1=>
   rw[e]at h;induction f using Lc with
   |next=>exact ih h h2
   |brk=>(injection h with zz;injection zz)
   |ret a=>(injection h with zz;injection zz)
  |exc m s1=>rw[e]at h;injection h
  |no=>rw[e]at h;injection h
def nh:List Stmt:=ic (sT 13)
def y6:Cx:=⟨jJ (sT 13),none,none⟩
abbrev cS(it:AV)(fo:Int)(ss:LA):S:=⟨[],[("interp",.v cu),("args",.v (.lst [.tup [.none,it]])),("env",.v bP),("form",.k (.int fo)),("seen",.k .seen)],some ss,none⟩
noncomputable def oU:List Addr:=[1381,1388]
noncomputable def eB(e:Expr):Expr:=dE (kE e).1 1
section
variable(T:cK)(n:Nat)
theorem Vc(it)(fo)(ss):(ev (bC oU T) (n+7)).e y6 (eB (bN (cM nh 0))) (cS it fo ss)=(T 1381 [.v it] (some ss)).toR (cS it fo ss) λv Y s=>cZ v s:=by kernel_rfl
theorem Ve(it)(fo)(ss):bL (ev (bC oU T) (n+8)) y6 (cM nh 0) (cS it fo ss)=((vl ((ev (bC oU T) (n+7)).e y6 (eB (bN (cM nh 0))) (cS it fo ss))).bind λa s=>(match s.ss with
    |some l=>(match dF (l.length+1)with|true=>cZ .none {s with ss:=some (l++[a])}|false=>.no)
    |none=>.no)).bind λY s=>.ok .next s:=by kernel_rfl
end
theorem cE(h:rc.e cx e s=.ok (.v a) s1)(h2:bY rc cx false l s1=.ok os s2)(hp:cG e=true:=by kernel_rfl):bY rc cx false (e::l) s=.ok (.v a::os) s2:=by
 show(match cG e with
  |false=>R.no
  |true=>((vl _).bind λa s=>R.ok _ s).bind λo s=>(bY rc cx false l s).bind λos s=>.ok _ s)=_
 rw[hp,h];show(bY rc cx false l s1).bind _=_;rw[h2];rfl
noncomputable def bX(e:Expr):List Expr:=(kE e).1.tail
section
variable(T:cK)(n:Nat)
theorem Vd(it)(fo)(ss):(ev (bC oU T) (n+8)).e y6 (bN (cM nh 1)) (cS it fo ss)=(bY (ev (bC oU T) (n+7)) y6 false (bX (bN (cM nh 1))) (cS it fo ss)).bind λos s=>(T 1388 (([]:LA).map OV.v++os) s.ss).toR s λv Y s=>cZ v s:=by kernel_rfl
theorem PK(it)(fo)(ss):(ev (bC oU T) (n+7)).e y6 (dE (bX (bN (cM nh 1))) 1) (cS it fo ss)=(T 1381 [.v it] (some ss)).toR (cS it fo ss) λv Y s=>cZ v s:=by kernel_rfl
theorem PJ(it)(fo)(ss):(ev (bC oU T) (n+7)).e y6 (dE (bX (bN (cM nh 1))) 0) (cS it fo ss)=.ok (.v (.int fo)) (cS it fo ss):=by kernel_rfl
theorem PH:(∃p,cM nh 1=.Return (some (bN (cM nh 1))) p)/\bX (bN (cM nh 1))=[dE (bX (bN (cM nh 1))) 0,dE (bX (bN (cM nh 1))) 1]/\nh=[cM nh 0,cM nh 1]:=⟨⟨(cM nh 1).pos,by kernel_rfl⟩,by kernel_rfl,by kernel_rfl⟩
theorem ZG:cG (dE (bX (bN (cM nh 1))) 0)=true/\cG (dE (bX (bN (cM nh 1))) 1)=true:=⟨by kernel_rfl,by kernel_rfl⟩
theorem uU(h:k<=100):dF (k+1)=true:=aQ (by lia)
theorem FE{T:cK}(hF:M5 T)(hV:DV T){k x:Int}(hfo:eO fo)(hk:k=0\/k=1)(hx:eO x)(ss)(cI:ss.length<=100):bO (ev (bC oU T) (n+8)) y6 nh (cS (gT k x) fo ss)=.ok (.ret (dC fo x)) (cS (gT k x) fo (ss++[.int x])):=by
 refine fF PH ?_;rintro⟨p,e1⟩ e2 e3;have h0:bL (ev (bC oU T) (n+8)) y6 (cM nh 0) (cS (gT k x) fo ss)=.ok .next (cS (gT k x) fo (ss++[.int x])):=by
  rw[Ve,Vc,hF k x _ hk hx];show(R.bind (match dF _ with|true=>_|false=>_) _)=_
  rw[uU cI];rfl
 have h1:bL (ev (bC oU T) (n+8)) y6 (cM nh 1) (cS (gT k x) fo (ss++[.int x]))=.ok (.ret (dC fo x)) (cS (gT k x) fo (ss++[.int x])):=by
  rw[e1];refine lA ?_;rw[Vd,e2,cE (PJ T n ..) (cE (s1:=cS _ fo _) (by rw[PK,hF k x _ hk hx];rfl) rfl)]
  show(T 1388 [.v _,.v _] _).toR _ _=_
  rw[hV fo x _ hfo hx];rfl
 rw[e3];exact bG h0 (dj h1)
theorem FD(it)(fo)(ss:LA):kj (ev (bC oU T) n) (sT 13) [.v cu,.v (.lst [.tup [.none,it]]),.v bP] [("form",.int fo),("seen",.seen)] (some ss)=(match(ev (bC oU T) n).x y6 nh (cS it fo ss)with
  | .ok fl s=>fq false (ke (sT 13)) fl s
  | .exc m s=>.exc m s.ss
  | .no=>.no):=by kernel_rfl
end
def y9:List Stmt:=ic (fu 150 20)
def zo:Cx:=⟨jJ (fu 150 20),none,none⟩
def LN(s:Stmt):List Stmt:=(kS s).2.1
def IE(s:Stmt):List Stmt:=(kS s).2.2
def tB:List Stmt:=LN (cM y9 2)
abbrev xr(f ca aa:AV)(ss:OA)(tl:LO):S:=⟨[],("self",.v cu)::("builtin",.v f)::("call",.v ca)::("args",.v aa)::("env",.v bP)::tl,ss,none⟩
theorem oY(O)(n):(ev O (n+1)).x=bO (ev O n):=by kernel_rfl
theorem U4(O)(n):(ev O (n+1)).c=kj (ev O n):=by kernel_rfl
section
variable(O:vX)(n:Nat)(nm:Str)(c ca aa:AV)(ss:OA)
theorem Ks(f):cA O (n+1) 1309 [.v cu,.v f,.v ca,.v aa,.v bP] ss=(match bO (ev O n) zo y9 (xr f ca aa ss [])with
  | .ok fl s=>fq false (ke (fu 150 20)) fl s
  | .exc m s=>.exc m s.ss
  | .no=>.no):=by kernel_rfl
theorem P6(f):bO (ev O (n+8)) zo (y9.take 2) (xr f ca aa ss [])=.ok .next (xr f ca aa ss [("saved",.v .any)]):=by kernel_rfl
theorem Vq(rc)(s):bL rc zo (cM y9 2) s=(match rc.x zo tB s with
  | .ok f s=>((rc.x zo (IE (cM y9 2)) s).bind λg s=>(match g with| .next=>.ok f s|_=>.no)).noExc
  | .exc m s=>.no
  | .no=>.no):=by kernel_rfl
theorem Vp(f):bO (ev O (n+8)) zo (IE (cM y9 2)) (xr f ca aa ss [("saved",.v .any)])=.ok .next (xr f ca aa ss [("saved",.v .any)]):=by kernel_rfl
theorem NK:bO (ev O (n+8)) zo (tB.take 2) (xr (cb nm c) ca aa ss [("saved",.v .any)])=.ok .next (xr (cb nm c) ca aa ss [("saved",.v .any)]):=by kernel_rfl
theorem Ss(s)(caps:LE):(ev O (n+8)).e zo (bN (cM tB 2)) (xr (cb nm (.clo s caps)) ca aa ss [("saved",.v .any)])=((ev O (n+7)).c s [.v cu,.v aa,.v bP] caps ss).toR (xr (cb nm (.clo s caps)) ca aa ss [("saved",.v .any)]) λv Y s=>cZ v s:=by kernel_rfl
theorem P5:y9=y9.take 2++[cM y9 2,cM y9 3]/\tB=tB.take 2++[cM tB 2]/\∃p,cM tB 2=.Return (some (bN (cM tB 2))) p:=⟨by kernel_rfl,by kernel_rfl,(cM tB 2).pos,by kernel_rfl⟩
theorem Ar{s:Stmt}{v:AV}{b:OV}(h:kj (ev O (n+6)) s [.v cu,.v aa,.v bP] caps ss=.ok v b eG):cA O (n+10) 1309 [.v cu,.v (cb nm (.clo s caps)),.v ca,.v aa,.v bP] ss=.ok v (.v .none) eG:=by
 obtain⟨e1,e2,p,e3⟩:=P5;rw[Ks O (n+9)];have h1:(ev O (n+9)).x zo tB (xr (cb nm (.clo s caps)) ca aa ss [("saved",.v .any)])=.ok (.ret v) (xr (cb nm (.clo s caps)) ca aa eG [("saved",.v .any)]):=by
  rw[e2];refine ew (NK O n ..) (dj ?_);rw[e3];refine lA ?_;rw[Ss,U4,h];rfl
 have h2:bO (ev O (n+9)) zo y9 (xr (cb nm (.clo s caps)) ca aa ss [])=.ok (.ret v) (xr (cb nm (.clo s caps)) ca aa eG [("saved",.v .any)]):=by
  rw[e1];refine ew (P6 O (n+1) ..) (dj ?_);rw[Vq,h1];rw[oY];show(((bO (ev O (n+8)) zo (IE (cM y9 2)) _).bind _).noExc)=_;rw[Vp];rfl
 rw[h2];rfl
end
def C8:List Stmt:=ic (fu 150 25)
def QN:Cx:=⟨jJ (fu 150 25),none,none⟩
def LW(x:Str):AV:=.ins o6 [("kind",.str "symbol"),("name",.str x),("attrs",.none)]
def Hx:LE:=[("kind",.str "language"),("items",.lst [LW "FUN",LW "..."]),("tags",.lst [.none,.none]),("attrs",.none),("code",.none)]
def wj:AV:=.ins jd Hx
def Hv:OV:=.oi jd (Hx.map λp=>(p.1,.v p.2))
abbrev H5(f aa:AV)(co:OV)(ss:OA):S:=⟨[],[("self",.v cu),("f",.v f),("args",.v aa),("env",.v bP),("call",co)],ss,none⟩
section
variable(T:cK)(n:Nat)(nm:Str)(c aa:AV)(ss:OA)
abbrev H6(T:cK):vX:=bC [1309] T
theorem Ke(f):cA (H6 T) (n+1) 1346 [.v cu,.v f,.v aa,.v bP] ss=(match bO (ev (H6 T) n) QN C8 (H5 f aa (.v .none) ss)with
  | .ok fl s=>fq false (ke (fu 150 25)) fl s
  | .exc m s=>.exc m s.ss
  | .no=>.no):=by kernel_rfl
theorem Ps:bO (ev (H6 T) (n+12)) QN (C8.take 4) (H5 (cb nm c) aa (.v .none) ss)=.ok .next (H5 (cb nm c) aa Hv ss):=by kernel_rfl
theorem U7:(ev (H6 T) (n+12)).e QN (bN (cM C8 4)) (H5 (cb nm c) aa Hv ss)=(T 1309 [.v cu,.v (cb nm c),.v wj,.v aa,.v bP] ss).toR (H5 (cb nm c) aa (.v wj) ss) λv Y s=>cZ v s:=by kernel_rfl
theorem Pr:C8=C8.take 4++[cM C8 4]/\∃p,cM C8 4=.Return (some (bN (cM C8 4))) p:=⟨by kernel_rfl,(cM C8 4).pos,by kernel_rfl⟩
theorem Ao{v:AV}{b:OV}(h:T 1309 [.v cu,.v (cb nm c),.v wj,.v aa,.v bP] ss=.ok v b eG):cA (H6 T) (n+13) 1346 [.v cu,.v (cb nm c),.v aa,.v bP] ss=.ok v (.v .none) eG:=by
 obtain⟨e1,p,e3⟩:=Pr;rw[Ke T _];have h2:bO (ev (H6 T) (n+12)) QN C8 (H5 (cb nm c) aa (.v .none) ss)=.ok (.ret v) (H5 (cb nm c) aa (.v wj) eG):=by
  rw[e1];refine ew (Ps T n ..) (dj ?_);rw[e3];refine lA ?_;rw[U7,h];rfl
 rw[h2];rfl
end
def TA:cK:=cA dH 20
def TB:cK:=cA (bC oU TA) 25
def TV:cK:=cA (H6 TB) 13
theorem W7:RW TV:=λfo k x ss hfo hk hx cI=>by
 refine Ao TB 0 "f" (gY fo) _ _ (b:=.v .none)<|Ar _ 15 "f" _ _ _ (b:=.v .none) ?_;rw[FD,oY,show bO (ev _ 20) y6 nh _=_ from FE (T:=TA) (n:=12) U2 LJ hfo hk hx ss cI]
 rfl
def kT(a:Addr):Stmt:=(dc gW a).getD (.Pass ⟨0,0,0,0⟩)
def rK:List Stmt:=ic (kT 575)
def oN:Cx:=⟨jJ (kT 575),none,none⟩
abbrev jB(f vs:AV)(ss:OA)(tl:LO):S:=⟨[],("interp",.v cu)::("f",.v f)::("values",.v vs)::("rest",.v (.lst []))::("env",.v bP)::tl,ss,none⟩
def HY:List Stmt:=cU (cM rK 1)
def iT(s:Stmt):Expr:=dE (kS s).1 0
section
variable(T:cK)(n:Nat)(f vs:AV)(ss:OA)
abbrev my(T:cK):vX:=bC [1346] T
theorem Kr:cA (my T) (n+1) 575 [.v cu,.v f,.v vs,.v (.lst []),.v bP] ss=(match bO (ev (my T) n) oN rK (jB f vs ss [])with
  | .ok fl s=>fq false (ke (kT 575)) fl s
  | .exc m s=>.exc m s.ss
  | .no=>.no):=by kernel_rfl
theorem Vo:bL (ev (my T) (n+12)) oN (cM rK 0) (jB f vs ss [])=.ok .next (jB f vs ss [("found",.ol [])]):=by kernel_rfl
theorem Vn(xs fo:LA):bL (ev (my T) (n+12)) oN (cM rK 1) (jB f (.lst xs) ss [("found",.ol fo)])=ek (λa s=>(bR (ev (my T) (n+12)) oN (iT (cM rK 1)) (.v a) s).bind λY s=>(ev (my T) (n+12)).x oN HY s) xs (jB f (.lst xs) ss [("found",.ol fo)]):=by kernel_rfl
theorem PT(a)(fo):bR (ev (my T) (n+12)) oN (iT (cM rK 1)) (.v a) (jB f vs ss [("found",fo)])=.ok .next (jB f vs ss [("found",fo),("value",.v a)]):=by kernel_rfl
theorem PS(a b)(fo):bR (ev (my T) (n+12)) oN (iT (cM rK 1)) (.v a) (jB f vs ss [("found",fo),("value",.v b)])=.ok .next (jB f vs ss [("found",fo),("value",.v a)]):=by kernel_rfl
abbrev LF:Expr:=eB (bN (cM HY 0))
theorem P1(a)(fo):(ev (my T) (n+9)).e oN (eB LF) (jB f vs ss [("found",fo),("value",.v a)])=(T 1346 [.v cu,.v f,.v (.lst [.tup [.none,a]]),.v bP] ss).toR (jB f vs ss [("found",fo),("value",.v a)]) λv Y s=>cZ v s:=by kernel_rfl
theorem PY(s):(ev (my T) (n+10)).e oN LF s=(bY (ev (my T) (n+9)) oN false [eB LF] s).bind λos s=>((ev (my T) (n+9)).f 282 (kT 282) (([]:LA).map OV.v++os) s.ss).toR s λv Y s=>cZ v s:=by kernel_rfl
theorem PW(k)(xs)(a):(ev (my T) (n+9)).f 282 (kT 282) [.v (bV k xs a)] ss=.ok (bV k xs a) (.v .none) ss:=by kernel_rfl
theorem P2(a)(fo:LA):bL (ev (my T) (n+11)) oN (cM HY 0) (jB f vs ss [("found",.ol fo),("value",.v a)])=((vl ((ev (my T) (n+10)).e oN LF (jB f vs ss [("found",.ol fo),("value",.v a)]))).bind λa s=>(match bQ oN (.Name "found" ⟨0,0,0,0⟩) s with
    |some (_,.ol xs)=>(match dF (xs.length+1)with|true=>cZ .none (s.set "found" (.ol (xs++[a])))|false=>.no)
    |_=>.no)).bind λY s=>.ok .next s:=by kernel_rfl
theorem Ht:rK=[cM rK 0,cM rK 1,cM rK 2,cM rK 3]/\HY=[cM HY 0]:=⟨by kernel_rfl,by kernel_rfl⟩
theorem PZ(a)(fo:LA):bQ oN (.Name "found" ⟨0,0,0,0⟩) (jB f vs ss [("found",.ol fo),("value",.v a)])=some (("found":Str),OV.ol fo):=by kernel_rfl
theorem Vm(fo)(tl:LO):bL (ev (my T) (n+12)) oN (cM rK 2) (jB f vs ss (("found",fo)::tl))=.ok .next (jB f vs ss (("found",fo)::tl)):=by kernel_rfl
theorem Vl(fo:LA)(tl:LO):bL (ev (my T) (n+12)) oN (cM rK 3) (jB f vs ss (("found",.ol fo)::tl))=.ok (.ret (.lst fo)) (jB f vs ss (("found",.v (.lst fo))::tl)):=by kernel_rfl
theorem Vk{v:AV}(hv:∃k xs a,v=bV k xs a)(a:AV)(fo:OV){b:OV}(h:T 1346 [.v cu,.v f,.v (.lst [.tup [.none,a]]),.v bP] ss=.ok v b eG):(ev (my T) (n+10)).e oN LF (jB f vs ss [("found",fo),("value",.v a)])=.ok (.v v) (jB f vs eG [("found",fo),("value",.v a)]):=by
 refine D5 hv ?_;rintro k xs c rfl;rw[PY,cE (s1:=jB f vs eG [("found",fo),("value",.v a)]) (a:=bV k xs c) (by rw[P1,h];rfl) rfl]
 refine(c0 ..).trans ?_;exact(aN (λr=>C.toR r (jB f vs eG [("found",fo),("value",.v a)]) λv Y s=>cZ v s) (PW T n eG k xs c)).trans rfl
theorem FT{v:AV}(hv:∃k xs a,v=bV k xs a)(a:AV)(fo:LA)(hl:fo.length<=100){b:OV}(h:T 1346 [.v cu,.v f,.v (.lst [.tup [.none,a]]),.v bP] ss=.ok v b eG):bO (ev (my T) (n+11)) oN HY (jB f vs ss [("found",.ol fo),("value",.v a)])=.ok .next (jB f vs eG [("found",.ol (fo++[v])),("value",.v a)]):=by
 rw[Ht.2];refine bG ?_ rfl;rw[P2,Vk T n f vs ss hv a _ h];rw[ip,c0,PZ];dsimp only;rw[uU hl];kernel_rfl
end
structure Ig(T:cK)(f:AV)(xs:List AV)(oO:AV->AV)(za:AV->List AV):Prop where
 run:∀a∈xs,∀ss:List AV,ss.length<=100->T 1346 [.v cu,.v f,.v (.lst [.tup [.none,a]]),.v bP] (some ss)=.ok (oO a) (.v .none) (some (ss++za a))
 vc9:∀a∈xs,∃k ys c,oO a=bV k ys c
 one:∀a∈xs,(za a).length<=1
theorem Ig.tail{T:cK}{f:AV}(h:Ig T f (a::xs) oO za):Ig T f xs oO za:=⟨λb q=>h.run b (.tail _ q),λb q=>h.vc9 b (.tail _ q),λb q=>h.one b (.tail _ q)⟩
section
variable{T:cK}(n:Nat){f:AV}(vs:AV){oO:AV->AV}{za:AV->LA}
def QQ(T:cK)(n:Nat)(a:AV)(s:S):R Fl:=(bR (ev (my T) (n+12)) oN (iT (cM rK 1)) (.v a) s).bind λY s=>(ev (my T) (n+12)).x oN HY s
theorem FQ:∀(xs fo ss:LA) (tl:LO),(tl=[]\/∃b,tl=[(("value":Str),OV.v b)])->Ig T f xs oO za->fo.length+xs.length<=100->ss.length+xs.length<=100->
  ∃eY,ek (QQ T n) xs (jB f vs (some ss) (("found",.ol fo)::tl))=.ok .next (jB f vs (some (ss++xs.flatMap za)) (("found",.ol (fo++xs.map oO))::eY)):=by
 intro xs;induction xs with
 |nil=>intro fo ss tl _ _ _ _;exact⟨tl,by rw[List.flatMap_nil,List.map_nil,aU,aU];rfl⟩
 |cons a l ih=>
  intro fo ss tl ht H l1 l2;rw[aM]at l1 l2;refine cF (ih (fo++[oO a]) (ss++za a) [("value",.v a)] (.inr ⟨a,rfl⟩) H.tail (by rw[aw,aT];lia) (by have:=H.one a (.head _);rw[aw];lia)) λeY e=>⟨eY,?_⟩
  have h1:QQ T n a (jB f vs (some ss) (("found",.ol fo)::tl))=.ok .next (jB f vs (some (ss++za a)) [("found",.ol (fo++[oO a])),("value",.v a)]):=by
   have q:bR (ev (my T) (n+12)) oN (iT (cM rK 1)) (.v a) (jB f vs (some ss) (("found",.ol fo)::tl))=.ok .next (jB f vs (some ss) [("found",.ol fo),("value",.v a)]):=by
    obtain rfl|⟨b,rfl⟩:=ht
    ·exact PT T n ..
    ·exact PS T n ..
   unfold QQ;rw[q,oY];exact FT T n f vs _ (H.vc9 a (.head _)) a fo (by lia) (H.run a (.head _) ss (by lia))
  show(QQ T n a _).bind _=_
  rw[h1];refine e.trans ?_;rw[bj,bj];rfl
theorem Hs(xs ss:LA)(H:Ig T f xs oO za)(l1:xs.length<=5)(l2:ss.length<=50):cA (my T) (n+13) 575 [.v cu,.v f,.v (.lst xs),.v (.lst []),.v bP] (some ss)=.ok (.lst (xs.map oO)) (.v .none) (some (ss++xs.flatMap za)):=by
 refine cF (FQ n (.lst xs) xs [] ss [] (.inl rfl) H (by rw[List.length_nil];lia) (by lia)) λeY e=>?_
 rw[Kr T (n+12)];have h:bO (ev (my T) (n+12)) oN rK (jB f (.lst xs) (some ss) [])=.ok (.ret (.lst (xs.map oO))) (jB f (.lst xs) (some (ss++xs.flatMap za)) (("found",.v (.lst (xs.map oO)))::eY)):=by
  rw[Ht.1];exact bG (Vo T n ..) (bG ((Vn T n ..).trans e) (bG (Vm T n ..) (dj (Vl T n ..))))
 rw[h];rfl
end
def tY(fs:List Int)(k:Int)(nb rb:Bool):AV:=bV (iq rb (cW k)) (gQ rb (cW k) (fs.map (cP k))) (ud nb fs.length)
theorem pL(fs)(cI:fs.length<=5)(k)(hk:k=0\/k=1)(nb rb)(ss):cA dH 20 561 [.v (tY fs k nb rb)] ss=.ok (.lst (fs.map (gT k))) (.v .none) ss:=by
 revert fs;obtain rfl|rfl:=hk<;>obtain _|_:=nb<;>obtain _|_:=rb<;>exact fP
theorem Nn(k)(hk:k=0\/k=1)(xs)(m)(hm:m<=5)(nb rb)(ss):cA dH 20 568 [.v (bV (iq rb (cW k)) xs (ud nb m))] ss=.ok (eC nb m) (.v .none) ss:=by
 have:m=0\/m=1\/m=2\/m=3\/m=4\/m=5:=by lia
 obtain rfl|rfl:=hk<;>obtain _|_:=rb<;>obtain _|_:=nb<;>obtain rfl|rfl|rfl|rfl|rfl|rfl:=this<;>kernel_rfl
theorem OZ(fs:List Int)(cI:fs.length<=5)(fo)(nb)(ss):cA dH 20 240 [.v (.lst (fs.map (dC fo))),.v (eC nb fs.length)] ss=.ok (bV "list" (fs.map (dC fo)) (ud nb fs.length)) (.v .none) ss:=by
 revert fs;obtain _|_:=nb<;>exact fP
def Dl:List Stmt:=ic (kT 961)
def um:Cx:=⟨jJ (kT 961),none,none⟩
noncomputable def oS:List Addr:=[561,568,575,240]
abbrev QF(v f:AV)(ss:OA)(tl:LO):S:=⟨[],("interp",.v cu)::("args",.v (.lst [.tup [.none,v],.tup [.none,f]]))::("env",.v bP)::tl,ss,none⟩
abbrev iV(v f:AV)(ss:OA):S:=QF v f ss [("v",.v v),("f",.v f),("rest",.v (.lst []))]
section
variable(T:cK)(n:Nat)(k:Str)(xs:LA)(a:AV)(nm:Str)(c:AV)(ss:OA)
theorem JT(v f):cA (bC oS T) (n+1) 961 [.v cu,.v (.lst [.tup [.none,v],.tup [.none,f]]),.v bP] ss=(match bO (ev (bC oS T) n) um Dl (QF v f ss [])with
  | .ok fl s=>fq false (ke (kT 961)) fl s
  | .exc m s=>.exc m s.ss
  | .no=>.no):=by kernel_rfl
theorem O6:bO (ev (bC oS T) (n+30)) um (Dl.take 3) (QF (bV k xs a) (cb nm c) ss [])=.ok .next (iV (bV k xs a) (cb nm c) ss):=by kernel_rfl
abbrev Lg:Expr:=bN (cM Dl 3)
abbrev jL:Expr:=dE (bX Lg) 0
abbrev Mk:Expr:=dE (bX Lg) 1
theorem Uu(s):(ev (bC oS T) (n+30)).e um Lg s=(bY (ev (bC oS T) (n+29)) um false [jL,Mk] s).bind λos s=>(T 240 (([]:LA).map OV.v++os) s.ss).toR s λv Y s=>cZ v s:=by kernel_rfl
theorem O5(s):(ev (bC oS T) (n+29)).e um jL s=(bY (ev (bC oS T) (n+28)) um false (bX jL) s).bind λos s=>(T 575 (([]:LA).map OV.v++os) s.ss).toR s λv Y s=>cZ v s:=by kernel_rfl
theorem O4(v f):(ev (bC oS T) (n+29)).e um Mk (iV v f ss)=(T 568 [.v v] ss).toR (iV v f ss) λv Y s=>cZ v s:=by kernel_rfl
theorem JU(v f):(ev (bC oS T) (n+28)).e um (dE (bX jL) 2) (iV v f ss)=(T 561 [.v v] ss).toR (iV v f ss) λv Y s=>cZ v s:=by kernel_rfl
theorem O3:Dl=Dl.take 3++[cM Dl 3]/\(∃p,cM Dl 3=.Return (some Lg) p)/\bX jL=[dE (bX jL) 0,dE (bX jL) 1,dE (bX jL) 2,dE (bX jL) 3,dE (bX jL) 4]:=⟨by kernel_rfl,⟨(cM Dl 3).pos,by kernel_rfl⟩,by kernel_rfl⟩
theorem Mj(v f):(ev (bC oS T) (n+28)).e um (dE (bX jL) 0) (iV v f ss)=.ok (.v cu) (iV v f ss)/\(ev (bC oS T) (n+28)).e um (dE (bX jL) 1) (iV v f ss)=.ok (.v f) (iV v f ss)/\(ev (bC oS T) (n+28)).e um (dE (bX jL) 3) (iV v f ss)=.ok (.v (.lst [])) (iV v f ss)/\(ev (bC oS T) (n+28)).e um (dE (bX jL) 4) (iV v f ss)=.ok (.v bP) (iV v f ss):=(qL (by kernel_rfl) (by kernel_rfl) (by kernel_rfl) (by kernel_rfl))
theorem O2{T:cK}{oO nv r:AV}(h1:T 561 [.v (bV k xs a)] ss=.ok (.lst cq) (.v .none) ss)(h2:T 575 [.v cu,.v (cb nm c),.v (.lst cq),.v (.lst []),.v bP] ss=.ok oO (.v .none) eG)(h3:T 568 [.v (bV k xs a)] eG=.ok nv (.v .none) eG)(h4:T 240 [.v oO,.v nv] eG=.ok r (.v .none) eG):
  cA (bC oS T) (n+31) 961 [.v cu,.v (.lst [.tup [.none,bV k xs a],.tup [.none,cb nm c]]),.v bP] ss=.ok r (.v .none) eG:=by
 refine fF O3 ?_;rintro e1 ⟨p,e2⟩ e3;refine lg (Mj T n ss (bV k xs a) (cb nm c)) λv0 v1 v3 v4=>lg (Mj T n eG (bV k xs a) (cb nm c)) λu0 u1 u3 u4=>?_
 have q1:(ev (bC oS T) (n+29)).e um jL (iV (bV k xs a) (cb nm c) ss)=.ok (.v oO) (iV (bV k xs a) (cb nm c) eG):=by
  rw[O5,e3,cE v0 (cE v1 (cE (by rw[JU,h1];rfl) (cE v3 (cE v4 rfl))))]
  refine(c0 ..).trans<|(aN (λr=>C.toR r _ λv Y s=>cZ v s) h2).trans rfl
 have q:(ev (bC oS T) (n+30)).e um Lg (iV (bV k xs a) (cb nm c) ss)=.ok (.v r) (iV (bV k xs a) (cb nm c) eG):=by
  rw[Uu,cE q1 (cE (by rw[O4,h3];rfl) rfl)]
  refine(c0 ..).trans<|(aN (λr=>C.toR r _ λv Y s=>cZ v s) h4).trans rfl
 rw[JT T _];have h:bO (ev (bC oS T) (n+30)) um Dl (QF (bV k xs a) (cb nm c) ss [])=.ok (.ret r) (iV (bV k xs a) (cb nm c) eG):=by
  rw[e1];refine ew (O6 T n ..) (dj ?_);rw[e2];exact lA q
 rw[h];rfl
end
def GI:cK:=λa os ss=>match Nat.beq a 575 with|true=>cA (my TV) 13 a os ss|false=>TA a os ss
theorem RW.fnT{T:cK}(h:RW T){k:Int}(hfo:eO fo)(hk:k=0\/k=1)(fs:List Int)(hf:∀x∈fs,eO x):Ig T (cb "f" (gY fo)) (fs.map (gT k)) (λa=>match a with| .ins _ [_,(_,.lst [.int x]),_]=>dC fo x| .ins _ [_,(_,.lst [.str x]),_]=>dC fo x.cps.size|_=>.none) (λa=>match a with| .ins _ [_,(_,.lst [.int x]),_]=>[.int x]| .ins _ [_,(_,.lst [.str x]),_]=>[.int x.cps.size]|_=>[]) where
 run:=λa ha ss l=>by
  refine bW (List.mem_map.mp ha) ?_;rintro x hx rfl;have:=h fo k x ss hfo hk (hf x hx) l;obtain rfl|rfl:=hk
  ·exact this
  ·rcases(hf x hx).cases with rfl|rfl|rfl|rfl|rfl<;>exact this
 vc9:=λa ha=>by
  refine bW (List.mem_map.mp ha) ?_;rintro x hx rfl;obtain rfl|rfl:=hk<;>exact(rX _ _ _ rfl)
 one:=λa ha=>by
  refine bW (List.mem_map.mp ha) ?_;rintro x hx rfl;obtain rfl|rfl:=hk<;>exact aC 1
theorem AK{γ:Type}{f:Z->β}{g:β->γ}{h:Z->γ}:∀(l:List Z),(∀x∈l,g (f x)=h x)->(l.map f).map g=l.map h:=by
 intro l;induction l with
 |nil=>intro _;exact rfl
 |cons x l ih=>intro q;rw[aP,aP,aP,q x (.head _),ih λy hy=>q y (.tail _ hy)]
theorem Fd{γ:Type}{f:Z->β}{g:β->List γ}{h:Z->γ}:∀(l:List Z),(∀x∈l,g (f x)=[h x])->(l.map f).flatMap g=l.map h:=by
 intro l;induction l with
 |nil=>intro _;exact rfl
 |cons x l ih=>intro q;rw[aP,List.flatMap_cons,q x (.head _),ih λy hy=>q y (.tail _ hy)];rfl
theorem Hu{k:Int}(hfo:eO fo)(hk:k=0\/k=1)(fs:List Int)(hf:∀x∈fs,eO x)(cI:fs.length<=5)(ss:LA)(l2:ss.length<=50):GI 575 [.v cu,.v (cb "f" (gY fo)),.v (.lst (fs.map (gT k))),.v (.lst []),.v bP] (some ss)=.ok (.lst (fs.map (dC fo))) (.v .none) (some (ss++fs.map .int)):=by
 have e:=Hs 0 (fs.map (gT k)) ss (W7.fnT hfo hk fs hf) (by rw[ah];exact cI) l2
 refine e.trans ?_;rw[AK (h:=dC fo) fs λx hx=>?_,Fd (h:=AV.int) fs λx hx=>?_]
 ·obtain rfl|rfl:=hk
  ·rfl
  ·rcases(hf x hx).cases with rfl|rfl|rfl|rfl|rfl<;>rfl
 ·obtain rfl|rfl:=hk
  ·rfl
  ·rcases(hf x hx).cases with rfl|rfl|rfl|rfl|rfl<;>rfl
def IP(T:cK):Prop:=∀(fs:List Int) (k fo:Int) (nb rb:Bool) (ss:LA),(∀x∈fs,eO x)->fs.length<=5->(k=0\/k=1)->eO fo->ss.length<=50->
 T 961 [.v cu,.v (.lst [.tup [.none,tY fs k nb rb],.tup [.none,cb "f" (gY fo)]]),.v bP] (some ss)=.ok (bV "list" (fs.map (dC fo)) (ud nb fs.length)) (.v .none) (some (ss++fs.map .int))
theorem Ut:IP (cA (bC oS GI) 40):=λfs k fo nb rb ss hf cI hk hfo l=>
 O2 9 _ _ _ _ _ _ (pL fs cI k hk nb rb _) (Hu hfo hk fs hf cI ss l) (Nn k hk _ _ cI nb rb _) (OZ fs cI fo nb _)
section
variable(T:cK)(n:Nat)(o1 o2 o3 o4:OV)(cs:LA)(i h2 h3:Int)
theorem VD(fo)(ma ki fi it nm ro)(k)(xs)(m)(nb)(vs):xL T n (sT 16) (lV o1 o2 o3 (.oi dD jb) fo ma ki fi it nm ro (eR k xs (Ia nb m)) [] [("f",mH "f" (gY fo)),("values",.v vs)])=((T 961 [.v cu,.v (.lst [.tup [.none,bV k xs (ud nb m)],.tup [.none,cb "f" (gY fo)]]),.v bP] (some [])).toR (lV o1 o2 o3 (.v cu) fo ma ki fi it nm ro (.v (bV k xs (ud nb m))) [] [("f",.v (cb "f" (gY fo))),("values",.v vs)]) λv Y s=>cZ v s).bind λo s=>aL T n (cV (sT 16)) o s:=by
 obtain _|_:=nb<;>kernel_rfl
end
section
variable(T:cK)(n:Nat)(o1 o2 o3 o4:OV)(cs:LA)(i h2 h3:Int)
theorem VN(fo)(ma ki fi it nm ro v f vs)(r)(ss):aL T n (cV (sT 16)) (.v r) (lV o1 o2 o3 o4 fo ma ki fi it nm ro v ss [("f",f),("values",vs)])=.ok .next (lV o1 o2 o3 o4 fo ma ki fi it nm ro v ss [("f",f),("values",vs),("told",.v r)]):=by kernel_rfl
theorem Tw{T:cK}(hT:IP T)(fs:List Int)(k fo:Int)(nb rb:Bool)(hf:∀x∈fs,eO x)(cI:fs.length<=5)(hk:k=0\/k=1)(hfo:eO fo)(ma ki fi it nm ro:OV)(vs:AV):xL T n (sT 16) (lV o1 o2 o3 (.oi dD jb) fo ma ki fi it nm ro (eR (iq rb (cW k)) (gQ rb (cW k) (fs.map (cP k))) (Ia nb fs.length)) [] [("f",mH "f" (gY fo)),("values",.v vs)])=.ok .next (lV o1 o2 o3 (.v cu) fo ma ki fi it nm ro (.v (tY fs k nb rb)) (fs.map .int) [("f",.v (cb "f" (gY fo))),("values",.v vs),("told",.v (bV "list" (fs.map (dC fo)) (ud nb fs.length)))]):=by
 rw[VD,show T 961 [.v cu,.v (.lst [.tup [.none,bV (iq rb (cW k)) (gQ rb (cW k) (fs.map (cP k))) (ud nb fs.length)],.tup [.none,cb "f" (gY fo)]]),.v bP] (some [])=_ from hT fs k fo nb rb [] hf cI hk hfo (bb _)]
 exact VN T n ..
end
theorem xS{n:Nat}(P:∀a x,i6 n a=some x->xn x x=true)(l:LA):∀xs,gD n l=some xs->rR xs xs=true:=by
 induction l with
 |nil=>intro xs h;rw[<-aJ (h)];rfl
 |cons a l ih=>
  intro xs;show(match i6 n a with
   |some x=>(match gD n l with|some r=>some _|none=>none)
   |none=>none)=some xs->_
  refine eE (i6 n a) (λe=>c8) λx e=>eE (gD n l) (λe2=>c8) λr e2=>?_
  intro h;rw[<-aJ h];show(match xn x x with|true=>rR r r|false=>false)=true
  rw[P a x e];exact ih r e2
theorem sG{n:Nat}(ih:∀a x,i6 n a=some x->xn x x=true)(c:List PyData->PyData)(hc:∀r,xn (c r) (c r)=rR r r)(l:LA){x:PyData}:(match gD n l with|some l=>some (c l)|none=>none)=some x->xn x x=true:=by
 refine eE (gD n l) (λe=>c8) λr e=>?_
 intro h;rw[<-aJ h,hc];exact xS ih l r e
theorem Bf(n):∀a x,i6 n a=some x->xn x x=true:=by
 have flat:∀y x,xn y y=true->some y=some x->xn x x=true:=λy x q h=>aJ h▸q
 induction n with
 |zero=>
  intro a x h;induction a using AV.casesOn with
  |none=>exact flat .none x rfl h
  |bool b=>exact flat (.bool b) x (beq_self_eq_true b) h
  |int i=>exact flat (.int i) x (decide_eq_true rfl) h
  |str y=>exact flat (.str y) x (cR.mpr rfl) h
  |_=>exact c8 h
 |succ n ih=>
  intro a x h;induction a using AV.casesOn with
  |none=>exact flat .none x rfl h
  |bool b=>exact flat (.bool b) x (beq_self_eq_true b) h
  |int i=>exact flat (.int i) x (decide_eq_true rfl) h
  |str y=>exact flat (.str y) x (cR.mpr rfl) h
  |lst l=>exact sG ih .list (λY=>rfl) l h
  |tup l=>exact sG ih .tuple (λY=>rfl) l h
  |_=>exact c8 h
theorem gR(h:(i6 4 a).isSome=true):eK a a=some true:=by
 unfold eK;refine eE (i6 4 a) (λe=>by rw[e]at h;exact dT h) λx e=>aN some (Bf 4 a x e)
theorem yS(h:(i6 4 a).isSome=true):DU a a=some true:=by
 induction a using AV.casesOn with
 |lst xs=>
  show(match Nat.beq xs.length xs.length with|true=>eK _ _|false=>some false)=some true
  rw[Nat.beq_refl];exact gR h
 |_=>exact gR h
def cB(s:Stmt):Expr:=dE (kS s).1 0
def kh(s:Stmt):List Stmt:=(kS s).2.2
noncomputable def j4(e:Expr):List Expr:=(kE e).1
noncomputable def k8(e:Expr):Expr:=dE (kE e).1 0
noncomputable def ik(e:Expr):Expr:=dE (kE e).1 1
section
variable{s2:S}
noncomputable def mB(b:Bool)(x y:Z):Z:=match b with|true=>x|false=>y
theorem mJ{sT:Stmt}{r:R Fl}(h:rc.b cx (cB sT) s=.ok b s1)(h2:mB b (rc.x cx (cU sT) s1) (rc.x cx (kh sT) s1)=r)(h0:bL rc cx sT s=(rc.b cx (cB sT) s).bind λc s=>(match c with|true=>rc.x cx (cU sT) s|false=>rc.x cx (kh sT) s):=by kernel_rfl):bL rc cx sT s=r:=by
 rw[h0,h];obtain _|_:=b<;>exact h2
theorem iy{r:R Bool}(h:rc.b cx e s=.ok false s1)(h2:fy rc cx .Or l s1=r):fy rc cx .Or (e::l) s=r:=by
 show(rc.b cx e s).bind _=_
 rw[h];exact h2
theorem zu(h:rc.b cx e s=.ok true s1):fy rc cx .Or (e::l) s=.ok true s1:=by
 show(rc.b cx e s).bind _=_
 rw[h];rfl
theorem gI(h:(i6 4 a).isSome=true)(hs:a≠.seen):ij a a .NotEq s=.ok false s:=by
 have e:ij a a .NotEq s=(match qw .NotEq a a with|some t=>R.ok t s|none=>.no):=by
  induction a using AV.casesOn with
  |seen=>exact absurd rfl hs
  |_=>rfl
 rw[e,show qw .NotEq a a=(eK a a).map not from rfl,gR h];rfl
theorem ku(h:(i6 4 a).isSome=true):ij a a .Eq s=.ok true s:=by
 have e:ij a a .Eq s=(match qw .Eq a a with|some t=>R.ok t s|none=>.no):=by
  induction a using AV.casesOn<;>rfl
 rw[e,show qw .Eq a a=DU a a from rfl,yS h]
end
noncomputable def kW:AV->Bool
 | .none=>true
 | .bool _=>true
 | .int _=>true
 | .str _=>true
 |_=>false
theorem Qa(h:kW a=true)(n):∃x,i6 n a=some x:=by
 obtain _|_:=a<;>first|exact Bool.noConfusion h|(obtain _|_:=n<;>exact⟨_,rfl⟩)
theorem HB(n):∀xs:LA,xs.all kW=true->∃r,gD n xs=some r:=by
 intro xs;induction xs with
 |nil=>intro _;exact⟨[],rfl⟩
 |cons a l ih=>
  intro h;rw[List.all_cons,aO]at h;refine cF (Qa h.1 n) λx e=>cF (ih h.2) λr e2=>⟨x::r,by rw[qN,e,e2]⟩
theorem je(h:xs.all kW=true):(i6 4 (.lst xs)).isSome=true:=by
 refine cF (HB 3 xs h) λr e=>?_;rw[zU,e];rfl
noncomputable def dB(N:OA):AV:=match N with|none=>.none|some l=>.lst l
def gM(N:OA):AV:=match N with|none=>.none|some l=>.dct [("names",bV "character" l .none)]
def mI(N:OA):Prop:=(i6 4 (dB N)).isSome=true
def uk:List Stmt:=ic (kT 1400)
def rG:Cx:=⟨jJ (kT 1400),none,none⟩
noncomputable abbrev mP(bB C7 names:AV)(ss:OA):S:=⟨[],[("told",.v bB),("due",.v C7),("names",.v names)],ss,none⟩
def pv(p:Str×LA):AV:=bV p.1 p.2 .none
noncomputable def pt(p:Str×LA):AV:=.tup [.str p.1,.lst p.2]
def KU:List Stmt:=cU (cM uk 1)
abbrev KV:Expr:=bN (cM KU 0)
abbrev WE:Expr:=bN (cM uk 2)
abbrev KW(i:Nat):Expr:=dE (j4 (cB (cM uk 0))) i
section
variable(n:Nat)(ss:OA)(bB C7 names:AV)
theorem AL:cA dH (n+1) 1400 [.v bB,.v C7,.v names] ss=(match bO (ev dH n) rG uk (mP bB C7 names ss)with
  | .ok fl s=>fq false (ke (kT 1400)) fl s
  | .exc m s=>.exc m s.ss
  | .no=>.no):=by kernel_rfl
def Zy(k:Str):Prop:=k="list"\/k="integer"\/k="character"
theorem Mh{k:Str}(hk:Zy k)(hN:mI N)(xs)(c):bL (ev dH (n+18)) rG (cM uk 0) (mP (bV k xs (gM N)) (bV k xs c) (dB N) ss)=.ok .next (mP (bV k xs (gM N)) (bV k xs c) (dB N) ss):=by
 refine mJ (b:=false) (s1:=mP (bV k xs (gM N)) (bV k xs c) (dB N) ss) ?_ (by kernel_rfl)
 have a0:(ev dH (n+17)).b rG (KW 0) (mP (bV k xs (gM N)) (bV k xs c) (dB N) ss)=.ok false (mP (bV k xs (gM N)) (bV k xs c) (dB N) ss):=by obtain rfl|rfl|rfl:=hk<;>kernel_rfl
 have a1:(ev dH (n+17)).b rG (KW 1) (mP (bV k xs (gM N)) (bV k xs c) (dB N) ss)=ij (dB N) (dB N) .NotEq (mP (bV k xs (gM N)) (bV k xs c) (dB N) ss):=by obtain _|_:=N<;>kernel_rfl
 have a2:(ev dH (n+17)).b rG (KW 2) (mP (bV k xs (gM N)) (bV k xs c) (dB N) ss)=ij (.int xs.length) (.int xs.length) .NotEq (mP (bV k xs (gM N)) (bV k xs c) (dB N) ss):=by kernel_rfl
 refine Eq.trans (b:=fy _ rG .Or [KW 0,KW 1,KW 2] _) (by kernel_rfl)<|iy a0 (iy (a1.trans (gI hN (by obtain _|_:=N<;>exact AV.noConfusion))) (iy (a2.trans (gI rfl AV.noConfusion)) rfl))
theorem Uq(xs)(a):bL (ev dH (n+18)) rG (cM uk 1) (mP (bV "list" xs a) C7 names ss)=bO (ev dH (n+17)) rG KU (mP (bV "list" xs a) C7 names ss):=by kernel_rfl
theorem OU{k:Str}(hk:k="integer"\/k="character")(xs)(a):bL (ev dH (n+18)) rG (cM uk 1) (mP (bV k xs a) C7 names ss)=.ok .next (mP (bV k xs a) C7 names ss):=by obtain rfl|rfl:=hk<;>kernel_rfl
theorem OW(s):(ev dH (n+17)).e rG KV s=((vl ((ev dH (n+16)).e rG (k8 KV) s)).bind λa s=>(vl ((ev dH (n+16)).e rG (ik KV) s)).bind λb s=>ij a b .Eq s).bind λc s=>cZ (.bool c) s:=by kernel_rfl
theorem Up(a)(ps:LP)(cI:ps.length<=5):(ev dH (n+16)).e rG (k8 KV) (mP (bV "list" (ps.map pv) a) C7 names ss)=.ok (.v (.lst (ps.map pt))) (mP (bV "list" (ps.map pv) a) C7 names ss):=by
 revert ps;exact fP
theorem Uo(a)(ps:LP)(cI:ps.length<=5):(ev dH (n+16)).e rG (ik KV) (mP bB (bV "list" (ps.map pv) a) names ss)=.ok (.v (.lst (ps.map pt))) (mP bB (bV "list" (ps.map pv) a) names ss):=by
 revert ps;exact fP
theorem OT(k k2)(xs ys)(a b):(ev dH (n+18)).e rG WE (mP (bV k xs a) (bV k2 ys b) names ss)=(ij (.lst xs) (.lst ys) .Eq (mP (bV k xs a) (bV k2 ys b) names ss)).bind λc s=>cZ (.bool c) s:=by kernel_rfl
theorem Hb:uk=[cM uk 0,cM uk 1,cM uk 2]/\KU=[cM KU 0]/\(∃p,cM KU 0=.Return (some KV) p)/\∃p,cM uk 2=.Return (some WE) p:=⟨by kernel_rfl,by kernel_rfl,⟨(cM KU 0).pos,by kernel_rfl⟩,(cM uk 2).pos,by kernel_rfl⟩
theorem Ey:∀ps:LP,(∀p∈ps,p.2.all kW=true)->∃r,gD 3 (ps.map pt)=some r:=by
 intro ps;induction ps with
 |nil=>intro _;exact⟨[],rfl⟩
 |cons p l ih=>
  refine λh=>cF (ih λy hy=>h y (.tail _ hy)) λr e=>cF (HB 1 p.2 (h p (.head _))) λq e2=>⟨.tuple [.str p.1,.list q]::r,?_⟩
  rw[aP,qN,e];have:i6 3 (pt p)=some (.tuple [.str p.1,.list q]):=by show(match gD 2 [.str p.1,.lst p.2]with|some l=>some _|none=>none)=_;rw[qN,qN,zU,e2];rfl
  rw[this]
theorem xZ(ps:LP)(hp:∀p∈ps,p.2.all kW=true)(cI:ps.length<=5)(hN:mI N)(ss:OA):cA dH 20 1400 [.v (bV "list" (ps.map pv) (gM N)),.v (bV "list" (ps.map pv) .none),.v (dB N)] ss=.ok (.bool true) (.v .none) ss:=by
 refine lg Hb ?_;rintro e1 e2 ⟨p,e3⟩ _;rw[AL 19];have h:bO (ev dH 19) rG uk (mP (bV "list" (ps.map pv) (gM N)) (bV "list" (ps.map pv) .none) (dB N) ss)=.ok (.ret (.bool true)) (mP (bV "list" (ps.map pv) (gM N)) (bV "list" (ps.map pv) .none) (dB N) ss):=by
  rw[e1];refine bG (Mh 1 ss (.inl rfl) hN _ _) (dj ?_);rw[Uq 1,e2];refine dj ?_;rw[e3];refine lA ?_;refine cF (Ey ps hp) λr e=>?_;rw[OW 1,Up 1 ss _ _ _ ps cI,ip,c0,Uo 1 ss _ _ _ ps cI,ip,c0,ku (by rw[zU,e];rfl)]
  rfl
 rw[h];rfl
theorem x6{k:Str}(hk:k="integer"\/k="character")(xs:LA)(hx:xs.all kW=true)(hN:mI N)(ss:OA):cA dH 20 1400 [.v (bV k xs (gM N)),.v (bV k xs .none),.v (dB N)] ss=.ok (.bool true) (.v .none) ss:=by
 obtain⟨e1,e2,_,p,e3⟩:=Hb;rw[AL 19];have h:bO (ev dH 19) rG uk (mP (bV k xs (gM N)) (bV k xs .none) (dB N) ss)=.ok (.ret (.bool true)) (mP (bV k xs (gM N)) (bV k xs .none) (dB N) ss):=by
  rw[e1];refine bG (Mh 1 ss (.inr hk) hN _ _) (bG (OU 1 ss _ _ hk xs _) (dj ?_));rw[e3];refine lA ?_;rw[OT 1,ku (je hx)];rfl
 rw[h];rfl
end
theorem ll{n:Nat}{r:R Bool}(l)(h0:(ev O (n+1)).b cx e s=fy (ev O n) cx .Or l s)(h:fy (ev O n) cx .Or l s=r):(ev O (n+1)).b cx e s=r:=h0.trans h
theorem jG{n:Nat}{sT:Stmt}(h:(ev O (n+1)).b cx (cB sT) s=.ok false s1)(h0:bL (ev O (n+1)) cx sT s=((ev O (n+1)).b cx (cB sT) s).bind λc s=>(match c with|true=>(ev O (n+1)).x cx (cU sT) s|false=>(ev O (n+1)).x cx [] s):=by kernel_rfl):bL (ev O (n+1)) cx sT s=.ok .next s1:=by
 rw[h0,h];rfl
noncomputable def HW(nb:Bool)(m:Nat):OA:=match nb with|true=>some (Gr m)|false=>none
theorem zZ(nb)(m):dB (HW nb m)=eC nb m:=by obtain _|_:=nb<;>rfl
theorem G5(nb)(m):gM (HW nb m)=ud nb m:=by obtain _|_:=nb<;>rfl
noncomputable def pr(fo x:Int):Str×LA:=(LK fo x,LL fo x)
theorem KP(fo)(fs:List Int):(fs.map (pr fo)).map pv=fs.map (dC fo):=by rw[bh];rfl
theorem GV{x:Int}(hf:eO fo)(hx:eO x):(pr fo x).2.all kW=true:=by
 obtain rfl|rfl|rfl|rfl|rfl:=hf.cases<;>obtain rfl|rfl|rfl|rfl|rfl:=hx.cases<;>rfl
structure me(T:cK):Prop where
 list:∀(ps:List (Str×List AV)),(∀p∈ps,p.2.all kW=true)->ps.length<=5->∀N:Option (List AV),mI N->∀ss:Option (List AV),T 1400 [.v (bV "list" (ps.map pv) (gM N)),.v (bV "list" (ps.map pv) .none),.v (dB N)] ss=.ok (.bool true) (.v .none) ss
 flat:∀k:Str,(k="integer"\/k="character")->∀xs:List AV,xs.all kW=true->∀N:Option (List AV),mI N->∀ss:Option (List AV),T 1400 [.v (bV k xs (gM N)),.v (bV k xs .none),.v (dB N)] ss=.ok (.bool true) (.v .none) ss
theorem zW:me TA:=⟨λps hp cI N hN ss=>xZ ps hp cI hN ss,λk hk xs hx N hN ss=>x6 hk xs hx hN ss⟩
theorem AH(m):(Gr m).all kW=true:=by
 obtain h|h:=Nat.lt_or_ge m 5
 ·obtain rfl|rfl|rfl|rfl|rfl:=Mf h<;>rfl
 rw[show Gr m=Qy from List.take_of_length_le h];rfl
theorem JL(nb)(m):mI (HW nb m):=by
 obtain _|_:=nb
 ·rfl
 ·exact je (AH m)
theorem me.vals{T:cK}(hT:me T)(hfo:eO fo)(hf:∀x∈fs,eO x)(cI:fs.length<=5)(hN:mI N)(ss:OA):T 1400 [.v (bV "list" (fs.map (dC fo)) (gM N)),.v (bV "list" (fs.map (dC fo)) .none),.v (dB N)] ss=.ok (.bool true) (.v .none) ss:=by
 have:=hT.list (fs.map (pr fo)) (λp hp=>by refine bW (List.mem_map.mp hp) ?_;rintro x hx rfl;exact GV hfo (hf x hx)) (by rw[ah];exact cI) N hN ss
 rw[KP]at this;exact this
section
variable(T:cK)(n:Nat)(o1 o2 o3 o4:OV)
abbrev Mw:Expr:=dE (j4 (cB (sT 17))) 0
abbrev Mv:Expr:=dE (j4 (cB (sT 17))) 1
theorem R2(fo)(ma ki it nm ro v f vs bB)(xs ss:LA):(eL T (n+19)).b lX Mw (lV o1 o2 o3 o4 fo ma ki (.v (.lst xs)) it nm ro v ss [("f",f),("values",vs),("told",bB)])=(match eK (.lst ss) (.lst xs)with|some t=>.ok (!t) (lV o1 o2 o3 o4 fo ma ki (.v (.lst xs)) it nm ro v ss [("f",f),("values",vs),("told",bB)])|none=>.no):=by kernel_rfl
theorem RY(fo)(ma ki fi it ro v f)(nm vs bB)(ss):(eL T (n+19)).b lX Mv (lV o1 o2 o3 o4 fo ma ki fi it (.v nm) ro v ss [("f",f),("values",.v vs),("told",.v bB)])=((vl ((T 1400 [.v bB,.v (.ins gG [("kind",.str "list"),("items",vs),("attrs",.none)]),.v nm] (some ss)).toR (lV o1 o2 o3 o4 fo ma ki fi it (.v nm) ro v ss [("f",f),("values",.v vs),("told",.v bB)]) λv Y s=>cZ v s)).bind λa s=>(match gZ a with|some b=>R.ok b s|none=>.no)).bind λb s=>.ok (!b) s:=by kernel_rfl
theorem wL(fs:List Int):(fs.map AV.int).all kW=true:=by induction fs with|nil=>rfl|cons x l ih=>exact ih
theorem Tv{T:cK}(hT:me T)(fs:List Int)(fo:Int)(nb:Bool)(hf:∀x∈fs,eO x)(cI:fs.length<=5)(hfo:eO fo)(ma ki it ro v f:OV):xL T n (sT 17) (lV o1 o2 o3 o4 fo ma ki (.v (.lst (fs.map .int))) it (.v (eC nb fs.length)) ro v (fs.map .int) [("f",f),("values",.v (.lst (fs.map (dC fo)))),("told",.v (bV "list" (fs.map (dC fo)) (ud nb fs.length)))])=.ok .next (lV o1 o2 o3 o4 fo ma ki (.v (.lst (fs.map .int))) it (.v (eC nb fs.length)) ro v (fs.map .int) [("f",f),("values",.v (.lst (fs.map (dC fo)))),("told",.v (bV "list" (fs.map (dC fo)) (ud nb fs.length)))]):=by
 have a:=(R2 T n o1 o2 o3 o4 fo ma ki it (.v (eC nb fs.length)) ro v f (.v (.lst (fs.map (dC fo)))) (.v (bV "list" (fs.map (dC fo)) (ud nb fs.length))) (fs.map .int) (fs.map .int)).trans (by rw[gR (je (wL fs))])
 have q:=hT.vals hfo hf cI (JL nb fs.length) (some (fs.map .int))
 rw[zZ,G5]at q;have b:=(RY T n o1 o2 o3 o4 fo ma ki (.v (.lst (fs.map .int))) it ro v f (eC nb fs.length) (.lst (fs.map (dC fo))) (bV "list" (fs.map (dC fo)) (ud nb fs.length)) (fs.map .int)).trans (aN (λr=>((vl (C.toR r _ λv Y s=>cZ v s)).bind λa s=>(match gZ a with|some b=>R.ok b s|none=>.no)).bind λb s=>.ok (!b) s) q)
 exact jG (ll [Mw,Mv] (by kernel_rfl) (iy a (iy b rfl)))
end
def nV(fs:List Int)(k:Int)(nb rb:Bool):OV:=match nb,rb with
 |false,false=>if k=0 then .v .none else .ol (fs.map (cP k))
 |_,_=>.v (eC nb fs.length)
def uK(fs:List Int)(k:Int)(nb rb:Bool):AV:=match nb,rb with
 |false,false=>if k=0 then .none else .lst (fs.map (cP k))
 |_,_=>eC nb fs.length
section
variable(T:cK)(n:Nat)(o1 o2 o3 o4:OV)
theorem Tu(fs)(cI:fs.length<=5)(k)(hk:k=0\/k=1)(nb rb)(fo)(ma fi v f vs bB)(ss):xL T n (sT 18) (lV o1 o2 o3 o4 fo ma (.v (.str (cW k))) fi (.v (.lst (fs.map (cP k)))) (.v (eC nb fs.length)) (.v (.bool rb)) v ss [("f",f),("values",vs),("told",bB)])=.ok .next (lV o1 o2 o3 o4 fo ma (.v (.str (cW k))) fi (.v (.lst (fs.map (cP k)))) (.v (eC nb fs.length)) (.v (.bool rb)) v ss [("f",f),("values",vs),("told",bB),("shown",nV fs k nb rb)]):=by
 revert fs;obtain rfl|rfl:=hk<;>obtain _|_:=nb<;>obtain _|_:=rb<;>exact fP
end
inductive lU:Str×List AV->Prop where
 |i0:lU ("integer",[])
 |i1 (a:AV):lU ("integer",[a])
 |i2 (a b:AV):lU ("integer",[a,b])
 |c1 (a:AV):lU ("character",[a])
theorem uL{x:Int}(hf:eO fo)(hx:eO x):lU (pr fo x):=by
 obtain rfl|rfl|rfl|rfl|rfl:=hf.cases
 ·exact .i1 _
 ·exact .i2 _ _
 ·obtain rfl|rfl|rfl|rfl|rfl:=hx.cases<;>first|exact .i0|exact .i1 _|exact .i2 _ _
 ·exact .c1 _
 ·obtain rfl|rfl|rfl|rfl|rfl:=hx.cases<;>first|exact .i1 _|exact .c1 _
noncomputable def sz(p:Str×LA):Int:=p.2.length
noncomputable def ur:Int->List Int->Int
 |s,[]=>s
 |s,c::l=>if 0<=s/\c≠s then-1 else ur c l
def Sz(c:Int):Prop:=c= -1\/c=0\/c=1\/c=2
theorem lU.sz{p:Str×LA}(h:lU p):Sz (sz p):=by
 induction h using lU.casesOn<;>first|exact .inr (.inl rfl)|exact .inr (.inr (.inl rfl))|exact .inr (.inr (.inr rfl))
def fX(a:Addr):Cx:=⟨jJ (kT a),none,jw (eQ vV a) (ke (kT a))⟩
def fB(a:Addr):List Stmt:=ic (kT a)
section
variable(n:Nat)(ss:OA)(vs:AV)
noncomputable abbrev y7(ss:OA)(vs:AV)(sh:Int)(tl:LO):S:=⟨[],("values",.v vs)::("shared",.v (.int sh))::tl,ss,none⟩
def H7(n:Nat)(a:AV)(s:S):R Fl:=(bR (ev dH (n+18)) (fX 940) (iT (cM (fB 940) 1)) (.v a) s).bind λY s=>(ev dH (n+18)).x (fX 940) (cU (cM (fB 940) 1)) s
theorem Kn:cA dH (n+1) 940 [.v vs] ss=(match bO (ev dH n) (fX 940) (fB 940) ⟨[],[("values",.v vs)],ss,none⟩with
  | .ok fl s=>fq false (ke (kT 940)) fl s
  | .exc m s=>.exc m s.ss
  | .no=>.no):=by kernel_rfl
theorem A5:bL (ev dH (n+18)) (fX 940) (cM (fB 940) 0) ⟨[],[("values",.v vs)],ss,none⟩=.ok .next (y7 ss vs (-1) []):=by kernel_rfl
theorem A4(xs:LA)(sh):bL (ev dH (n+18)) (fX 940) (cM (fB 940) 1) (y7 ss (.lst xs) sh [])=ek (H7 n) xs (y7 ss (.lst xs) sh []):=by kernel_rfl
theorem Km(sh)(tl):bL (ev dH (n+18)) (fX 940) (cM (fB 940) 2) (y7 ss vs sh tl)=.ok (.ret (.int sh)) (y7 ss vs sh tl):=by kernel_rfl
theorem FA{p:Str×LA}(hp:lU p)(hs:Sz sh)(tl:LO)(ht:tl=[]\/∃b,tl=[(("value":Str),OV.v b)]):H7 n (pv p) (y7 ss vs sh tl)=.ok (if 0<=sh/\sz p≠sh then .ret (.int (-1))else .next) (y7 ss vs (if 0<=sh/\sz p≠sh then sh else sz p) [("value",.v (pv p))]):=by
 obtain rfl|⟨b,rfl⟩:=ht<;>induction hp using lU.casesOn<;>obtain rfl|rfl|rfl|rfl:=hs<;>kernel_rfl
theorem FC:∀(ps:LP) (sh:Int) (tl:LO),(∀p∈ps,lU p)->Sz sh->(tl=[]\/∃b,tl=[(("value":Str),OV.v b)])->∃eY Xy,ek (H7 n) (ps.map pv) (y7 ss vs sh tl)=.ok .next (y7 ss vs (ur sh (ps.map sz)) eY)\/(ur sh (ps.map sz)= -1/\ek (H7 n) (ps.map pv) (y7 ss vs sh tl)=.ok (.ret (.int (-1))) (y7 ss vs Xy eY)):=by
 intro ps;induction ps with
 |nil=>intro sh tl _ _ _;exact(iY tl 0 (.inl rfl))
 |cons p l ih=>
  intro sh tl hp hs ht;have e:ek (H7 n) ((p::l).map pv) _=(H7 n (pv p) (y7 ss vs sh tl)).bind λfl s=>(match fl with| .next=>ek (H7 n) (l.map pv) s| .brk=>.ok .next s| .ret v=>.ok (.ret v) s):=rfl
  rw[e,FA n ss vs (hp p (.head _)) hs tl ht,aP];by_cases q:0<=sh/\sz p≠sh
  ·exact(iY _ sh (.inr ⟨aA q,by rw[aA q,aA q];rfl⟩))
  ·rw[au q,au q,show ur sh (sz p::l.map sz)=ur (sz p) (l.map sz)from au q]
   exact ih _ _ (λy hy=>hp y (.tail _ hy)) (hp p (.head _)).sz (.inr ⟨_,rfl⟩)
theorem PE(ps:LP)(hp:∀p∈ps,lU p)(ss):cA dH 20 940 [.v (.lst (ps.map pv))] ss=.ok (.int (ur (-1) (ps.map sz))) (.v .none) ss:=by
 refine iA (FC 1 ss (.lst (ps.map pv)) ps _ [] hp (.inl rfl) (.inl rfl)) λtl sh h=>?_;rw[Kn 19,show fB 940=[cM _ 0,cM _ 1,cM _ 2] by kernel_rfl]
 obtain h|⟨e,h⟩:=h
 ·rw[bG (A5 1 ss _) (bG ((A4 1 ss _ _).trans h) (dj (Km 1 ..)))];rfl
 ·rw[bG (A5 1 ss _) (dj ((A4 1 ss _ _).trans h)),e];rfl
end
noncomputable def qA(e:Expr):Expr:=dE (kE e).1 0
noncomputable def Dz(e:Expr):Expr:=dE (kE e).1 1
section
variable{n:Nat}{s2:S}
theorem dX{l:List Addr}{T:cK}{a:Addr}{v:AV}{b:OV}(ha:bY (ev (bC l T) n) cx false (bX e) s=.ok os s1)(hT:T a os s1.ss=.ok v b eG)(h0:(ev (bC l T) (n+1)).e cx e s=(bY (ev (bC l T) n) cx false (bX e) s).bind λos s=>(T a (([]:LA).map OV.v++os) s.ss).toR s λv Y s=>cZ v s:=by kernel_rfl):(ev (bC l T) (n+1)).e cx e s=.ok (.v v) {s1 with ss:=eG}:=by
 rw[h0,ha];show(T a os s1.ss).toR s1 _=_;rw[hT];rfl
theorem cX{l:List Addr}{T:cK}{a:Addr}{v:AV}{b:OV}{cl:LE}(hT:T a os ss=.ok v b eG)(ha:bY (ev (bC l T) n) cx false (bX e) ⟨cl,loc,ss,dl⟩=.ok os ⟨cl,loc,ss,dl⟩)(h0:(ev (bC l T) (n+1)).e cx e ⟨cl,loc,ss,dl⟩=(bY (ev (bC l T) n) cx false (bX e) ⟨cl,loc,ss,dl⟩).bind λos s=>(T a (([]:LA).map OV.v++os) s.ss).toR s λv Y s=>cZ v s:=by kernel_rfl):(ev (bC l T) (n+1)).e cx e ⟨cl,loc,ss,dl⟩=.ok (.v v) ⟨cl,loc,eG,dl⟩:=dX (h0:=h0) ha hT
theorem NM{k:AV}{r:R OV}(hb:(ev O n).e cx (qA e) s=.ok (.v a) s1)(hi:(ev O n).e cx (Dz e) s1=.ok (.v k) s2)(h:fw a k s2=r)(h0:(ev O (n+1)).e cx e s=(vl ((ev O n).e cx (qA e) s)).bind λa s=>(vl ((ev O n).e cx (Dz e) s)).bind λk s=>fw a k s:=by kernel_rfl):(ev O (n+1)).e cx e s=r:=by
 rw[h0,hb,ip,c0,hi,ip];exact h
theorem lY{k:AV}{o:OV}(h:fw a k s=.ok o s)(hb:(ev O n).e cx (qA e) s=.ok (.v a) s)(hi:(ev O n).e cx (Dz e) s=.ok (.v k) s)(h0:(ev O (n+1)).e cx e s=(vl ((ev O n).e cx (qA e) s)).bind λa s=>(vl ((ev O n).e cx (Dz e) s)).bind λk s=>fw a k s:=by kernel_rfl):(ev O (n+1)).e cx e s=.ok o s:=NM (h0:=h0) hb hi h
def A'(n:Str)(a:AV)(s:S):R OV:=match a with
 | .ins c fs=>(match hU c n with
  |true=>(match ef n with
   |true=>(match Nat.beq c dD,dM n "current" with|true,true=>cZ .any s|_,_=>.no)
   |false=>(match bD fs n with|some a=>cZ a s|none=>.no))
  |false=>.no)
 |_=>.no
theorem A9{m:Str}{r:R OV}(hb:(ev O n).e cx (qA e) s=.ok (.v a) s1)(h:A' m a s1=r)(h0:(ev O (n+1)).e cx e s=(vl ((ev O n).e cx (qA e) s)).bind λa s=>A' m a s:=by kernel_rfl):(ev O (n+1)).e cx e s=r:=by
 rw[h0,hb,ip];exact h
theorem dW{sT:Stmt}{o:OV}(he:rc.e cx (bN sT) s=.ok o s1)(ha:bR rc cx (cV sT) o s1=.ok .next s2)(h0:bL rc cx sT s=(rc.e cx (bN sT) s).bind λo s=>bR rc cx (cV sT) o s:=by kernel_rfl):bL rc cx sT s=.ok .next s2:=by
 rw[h0,he];exact ha
theorem Pn{sT:Stmt}{o:OV}(he:rc.e cx (bN sT) s=.ok o s1)(h0:bL rc cx sT s=(rc.e cx (bN sT) s).bind λY s=>.ok .next s:=by kernel_rfl):bL rc cx sT s=.ok .next s1:=by
 rw[h0,he];rfl
theorem g8{sT:Stmt}(he:rc.e cx (bN sT) s=.ok (.v a) s1)(h0:bL rc cx sT s=(vl (rc.e cx (bN sT) s)).bind λa s=>.ok (.ret a) s:=by kernel_rfl):bL rc cx sT s=.ok (.ret a) s1:=by
 rw[h0,he];rfl
end
inductive vY:Str×List AV->Prop where
 |i (i:Int):0<=i->i<=8->vY ("integer",[.int i])
 |c (s:Str):vY ("character",[.str s])
def KN:AV->AV
 | .int i=>.str (fj i)
 |a=>a
noncomputable def mY(p:Str×LA):AV:=p.2.headD .none
def xm(p:Str×LA):Bool:=dM p.1 "character"
def ig(ps:LP):Str:=match ps.any xm with|true=>"character"|false=>"integer"
def mE(ps:LP)(p:Str×LA):AV:=match ps.any xm with|true=>KN (mY p)|false=>mY p
theorem AA(h:0<=i)(h2:i<=8):i=0\/i=1\/i=2\/i=3\/i=4\/i=5\/i=6\/i=7\/i=8:=by
 refine cF (Int.eq_ofNat_of_zero_le h) ?_;rintro k rfl;exact(by decide:∀i∈List.range 9,(i:Int)=0\/(i:Int)=1\/(i:Int)=2\/(i:Int)=3\/(i:Int)=4\/(i:Int)=5\/(i:Int)=6\/(i:Int)=7\/(i:Int)=8) k (List.mem_range.mpr (Nat.lt_succ_of_le (Int.ofNat_le.mp h2)))
theorem MK{p:Str×LA}(h:vY p)(ss:OA):TA 895 [.v (pv p),.v (.str "character"),.v (.lst [])] ss=.ok (bV "character" [KN (mY p)] .none) (.v .none) ss:=by
 induction h using vY.casesOn with
 |i i h h2=>obtain rfl|rfl|rfl|rfl|rfl|rfl|rfl|rfl|rfl:=AA h h2<;>kernel_rfl
 |c s=>kernel_rfl
theorem MJ{k:Str}(hk:k="integer"\/k="character")(xs)(ss):TA 895 [.v (bV k xs .none),.v (.str k),.v (.lst [])] ss=.ok (bV k xs .none) (.v .none) ss:=by
 obtain rfl|rfl:=hk<;>kernel_rfl
theorem Qd(hp:∀p∈ps,vY p)(ss):∀p∈ps,TA 895 [.v (pv p),.v (.str (ig ps)),.v (.lst [])] ss=.ok (bV (ig ps) [mE ps p] .none) (.v .none) ss:=λp h=>by
 unfold ig mE;refine fS (ps.any xm) (λe=>?_) (λe=>MK (hp p h) ss)
 have:=List.any_eq_false.mp e p h
 cases hp p h with
 |i i a b=>exact MJ (.inl rfl) _ ss
 |c s=>exact absurd rfl this
theorem GZ{p:Str×LA}(h:p.1="integer"\/p.1="character")(ss):TA 313 [.v (pv p)] ss=.ok .none (.v .none) ss:=by
 obtain⟨k,xs⟩:=p;obtain h|h:=h<;>(subst h;kernel_rfl)
protected theorem vY.k {p:Str×LA} (h:vY p):p.1="integer"\/p.1="character":=by
 induction h using vY.casesOn
 ·exact .inl rfl
 ·exact .inr rfl
section
variable(n:Nat)(ss:OA)
noncomputable abbrev C0(s:Str)(ss:OA):S:=⟨[],[("outer",.v (.str s)),("inner",.v (.str ""))],ss,none⟩
theorem JV(s):cA dH (n+1) 923 [.v (.str s),.v (.str "")] ss=(match bO (ev dH n) (fX 923) (fB 923) (C0 s ss)with
  | .ok fl s=>fq false (ke (kT 923)) fl s
  | .exc m s=>.exc m s.ss
  | .no=>.no):=by kernel_rfl
theorem Ml(s):bL (ev dH (n+18)) (fX 923) (cM (fB 923) 0) (C0 s ss)=(match dM s "" with|true=>.ok (.ret (.str "")) (C0 s ss)|false=>.ok .next (C0 s ss)):=by
 have e:bL (ev dH (n+18)) (fX 923) (cM (fB 923) 0) (C0 s ss)=((fy (ev dH (n+17)) (fX 923) .Or (j4 (cB (cM (fB 923) 0))) (C0 s ss)).bind λc s=>(match c with|true=>(ev dH (n+18)).x (fX 923) (cU (cM (fB 923) 0)) s|false=>.ok .next s)):=by kernel_rfl
 have e2:(ev dH (n+17)).b (fX 923) (dE (j4 (cB (cM (fB 923) 0))) 0) (C0 s ss)=.ok (dM s "") (C0 s ss):=by kernel_rfl
 rw[e,show j4 _=[dE _ 0,dE (j4 (cB (cM (fB 923) 0))) 1] by kernel_rfl]
 refine fS (dM s "") (λq=>?_) (λq=>by rw[q]at e2;rw[zu e2];kernel_rfl)
 rw[q]at e2;rw[iy e2 (iy (by kernel_rfl) rfl)];rfl
theorem He(s)(ss):TA 923 [.v (.str s),.v (.str "")] ss=.ok (.str s) (.v .none) ss:=by
 show cA dH 20 923 _ _=_
 rw[JV 19];have e:bO (ev dH 19) (fX 923) (fB 923) (C0 s ss)=.ok (.ret (.str s)) (C0 s ss):=by
  rw[show fB 923=[cM _ 0,cM (fB 923) 1,cM (fB 923) 2] by kernel_rfl]
  generalize q:dM s ""=zz;induction zz using i8 with
  |true=>
   obtain rfl:=cR.mp q;exact dj (by rw[Ml 1];kernel_rfl)
  |false=>exact bG (by rw[Ml 1,q]) (dj (by kernel_rfl))
 rw[e];rfl
end
section
variable(n:Nat)(ss:OA)(vs:AV)
def QO(n:Nat)(a:AV)(s:S):R Fl:=(bR (ev dH (n+18)) (fX 794) (iT (cM (fB 794) 2)) (.v a) s).bind λY s=>(ev dH (n+18)).x (fX 794) (cU (cM (fB 794) 2)) s
noncomputable def Zl:AV:=.tup [.str "NULL",.str "logical",.str "integer",.str "double",.str "character",.str "list",.str "expression"]
noncomputable abbrev y8(ss:OA)(vs:AV)(m:Int)(tl:LO):S:=⟨[],("kinds",.v vs)::("names",.v Zl)::("most",.v (.int m))::tl,ss,none⟩
theorem Ko:cA dH (n+1) 794 [.v vs] ss=(match bO (ev dH n) (fX 794) (fB 794) ⟨[],[("kinds",.v vs)],ss,none⟩with
  | .ok fl s=>fq false (ke (kT 794)) fl s
  | .exc m s=>.exc m s.ss
  | .no=>.no):=by kernel_rfl
theorem PM:bO (ev dH (n+18)) (fX 794) ((fB 794).take 2) ⟨[],[("kinds",.v vs)],ss,none⟩=.ok .next (y8 ss vs 0 []):=by kernel_rfl
theorem Vh(xs:LA):bL (ev dH (n+18)) (fX 794) (cM (fB 794) 2) (y8 ss (.lst xs) 0 [])=ek (QO n) xs (y8 ss (.lst xs) 0 []):=by kernel_rfl
noncomputable def H9(b:Bool):Int:=match b with|true=>4|false=>2
theorem FG{k:Str}(hk:k="integer"\/k="character"){m:Int}(hm:m=0\/m=2\/m=4)(tl:LO)(ht:tl=[]\/∃b,tl=[(("kind":Str),OV.v b)]):QO n (.str k) (y8 ss vs m tl)=.ok .next (y8 ss vs (if m=4 then 4 else H9 (dM k "character")) [("kind",.v (.str k))]):=by
 obtain rfl|⟨b,rfl⟩:=ht<;>obtain rfl|rfl:=hk<;>obtain rfl|rfl|rfl:=hm<;>kernel_rfl
theorem Kq{p:Z}{l:List Z}{m:Int}{c:Bool}(hm:m=0\/m=2\/m=4):(if(if m=4 then(4:Int)else H9 c)=4\/b=true then(4:Int)else if l=[]then(if m=4 then 4 else H9 c)else 2)=if m=4\/(c||b)=true then 4 else if p::l=[]then m else 2:=by
 obtain rfl|rfl|rfl:=hm<;>obtain _|_:=c<;>obtain _|_:=b<;>obtain _|_:=l<;>rfl
theorem Vf{m:Int}{c:Bool}:(if m=4 then(4:Int)else H9 c)=0\/(if m=4 then(4:Int)else H9 c)=2\/(if m=4 then(4:Int)else H9 c)=4:=by
 by_cases q:m=4
 ·rw[aA q];exact .inr (.inr rfl)
 ·rw[au q];obtain _|_:=c
  ·exact .inr (.inl rfl)
  ·exact .inr (.inr rfl)
theorem FH(ps:LP):∀(m:Int) (tl:LO),(∀p∈ps,p.1="integer"\/p.1="character")->(m=0\/m=2\/m=4)->(tl=[]\/∃b,tl=[(("kind":Str),OV.v b)])->∃eY,ek (QO n) (ps.map λp=>.str p.1) (y8 ss vs m tl)=.ok .next (y8 ss vs (if m=4\/ps.any xm=true then 4 else if ps=[]then m else 2) eY):=by
 induction ps with
 |nil=>exact λm tl Y hm Y=>⟨tl,by obtain rfl|rfl|rfl:=hm<;>rfl⟩
 |cons p l ih=>
  intro m tl hp hm ht;refine cF (ih (if m=4 then 4 else H9 (dM p.1 "character")) [("kind",.v (.str p.1))] (λy hy=>hp y (.tail _ hy)) Vf (.inr ⟨_,rfl⟩)) λeY h=>?_
  refine⟨eY,?_⟩;show(QO n (.str p.1) (y8 ss vs m tl)).bind _=_;rw[FG n ss vs (hp p (.head _)) hm tl ht];exact h.trans (aN (λk=>R.ok Fl.next (y8 ss vs k eY)) (Kq hm))
theorem Vg(b)(tl):bL (ev dH (n+18)) (fX 794) (cM (fB 794) 3) (y8 ss vs (match b with|true=>4|false=>2) tl)=.ok (.ret (.str (match b with|true=>"character"|false=>"integer"))) (y8 ss vs (match b with|true=>4|false=>2) tl):=by
 obtain _|_:=b<;>kernel_rfl
theorem Hr(ps:LP)(hp:∀p∈ps,p.1="integer"\/p.1="character")(h0:ps≠[])(ss:OA):TA 794 [.v (.lst (ps.map λp=>.str p.1))] ss=.ok (.str (ig ps)) (.v .none) ss:=by
 refine cF (FH 1 ss (.lst (ps.map λp=>.str p.1)) ps 0 [] hp (.inl rfl) (.inl rfl)) λtl h=>?_
 show cA dH 20 794 _ _=_
 have h:_=R.ok Fl.next (y8 ss _ (match ps.any xm with|true=>4|false=>2) tl):=h.trans (by
  rw[au h0];cases ps.any xm<;>rfl)
 rw[Ko 19,show fB 794=(fB 794).take 2++[cM (fB 794) 2,cM (fB 794) 3] by kernel_rfl,ew (PM 1 ss _) (bG ((Vh 1 ss _).trans h) (dj (Vg 1 ..)))]
 rfl
end
def gb(O:vX)(n:Nat)(Gz:Cx)(e:Expr)(xs:LA)(s:S):R OV:=((dU (λs=>(vl ((ev O n).e Gz (eJ e) s)).bind λa s=>.ok [a] s) (gN e) (λs=>.ok true s) xs {s with cl:=[]}).bind fD).noExc
theorem gh{n:Nat}{Gz:Cx}{xs:List Z}{u g:Z->AV}(ht:∃p,gN e=.Name x p)(hl:xs.length<=100)(h:∀a∈xs,(ev O n).e Gz (eJ e) ⟨[(x,u a)],loc,ss,dl⟩=.ok (.v (g a)) ⟨[(x,u a)],loc,ss,dl⟩):gb O n Gz e (xs.map u) ⟨[],loc,ss,dl⟩=.ok (.v (.lst (xs.map g))) ⟨[],loc,ss,dl⟩:=by
 obtain⟨p,e1⟩:=ht;obtain⟨i9,c⟩:=qh (f:=λs=>(vl ((ev O n).e Gz _ s)).bind λa s=>.ok [a] s) (s:=⟨[],loc,ss,dl⟩) xs [] (.inl rfl) λa ha=>by
  rw[h a ha];rfl
 unfold gb;rw[e1];refine(aN (λr=>(R.bind r fD).noExc) c).trans ?_
 show(fD _ _).noExc=_
 unfold fD;rw[show dF (xs.map g).length=true from aQ (by rw[ah];lia)]
 rfl
theorem As{n:Nat}{sT:Stmt}{o:Expr}{v:AV}(h0:bL (ev O (n+1)) cx sT s=((vl ((ev O n).e cx (eB (bN sT)) s)).bind λa s=>(match bQ cx o s with
    |some (_,.ol xs)=>(match dF (xs.length+1)with|true=>cZ .none (s.set x (.ol (xs++[a])))|false=>.no)
    |_=>.no)).bind λY s=>.ok .next s) (he:(ev O n).e cx (eB (bN sT)) s=.ok (.v v) s1) (ho:bQ cx o s1=some (x,.ol xs)) (hl:xs.length<=100):bL (ev O (n+1)) cx sT s=.ok .next (s1.set x (.ol (xs++[v]))):=by
 rw[h0,he,ip,c0,ho];dsimp only;rw[uU hl];rfl
theorem sP{m:Nat}{done rest:LA}(h:(List.range m).map (λ(k:Nat)=>AV.int (k:Int))=done++a::rest):a=.int (done.length:Int)/\done.length<m:=by
 have l:=by
  have:=aN List.length h
  rwa [ah,aY,aw,aM]at this
 have q:((List.range m).map (λ(k:Nat)=>AV.int k))[done.length]? =some a:=by rw[h,List.getElem?_append_right (aC _),Nat.sub_self];rfl
 rw[bc,List.getElem?_range (by lia)]at q
 exact⟨(aJ q).symm,by lia⟩
theorem Ed{l:List Z}{a:Z}(h:l[j]? =some a):l.take j++[a]=l.take (j+1):=by
 rw[List.take_add_one,h];rfl
theorem iB(h:xs[j]? =some a):fw (.lst xs) (.int (j:Int)) s=.ok (.v a) s:=by
 show(match xs[j]? with|some a=>cZ a s|none=>.no)=_
 rw[h];rfl
def ey(a:Addr)(r:R Fl):C:=match r with
 | .ok fl s=>fq false (ke (kT a)) fl s
 | .exc m s=>.exc m s.ss
 | .no=>.no
def Me(N:OA)(j:Nat)(f:Str):Prop:=match N with|none=>f=""|some l=>l[j]? =some (.str f)
noncomputable def k5:List Addr:=[794,895,313,923]
abbrev pE:Cx:=fX 928
abbrev kU(i:Nat):Stmt:=cM (fB 928) i
def My:Cx:=⟨jJ (kT 928),some (jc (bN (kU 1))),none⟩
noncomputable abbrev zk(vs nm:AV)(ss:OA)(tl:LO):S:=⟨[],("values",.v vs)::("names",.v nm)::tl,ss,none⟩
abbrev GA(vs nm:AV)(ss:OA)(K:Str)(cq:LA)(fo:OV)(b:Bool)(tl:LO):S:=zk vs nm ss (("kind",.v (.str K))::("items",.v (.lst cq))::("result",eR K cq (.v .none))::("found",fo)::("some",.v (.bool b))::tl)
abbrev xq(i:Nat):Stmt:=cM (cU (kU 5)) i
section
variable(T:cK)(n:Nat)(ss:OA)(vs nm:AV)
theorem Kg:cA (bC k5 T) (n+1) 928 [.v vs,.v nm] ss=ey 928 (bO (ev (bC k5 T) n) pE (fB 928) (zk vs nm ss [])):=by kernel_rfl
theorem Px(ps:LP)(cI:ps.length<=5):bY (ev (bC k5 T) (n+18)) pE false (bX (bN (kU 0))) (zk (.lst (ps.map pv)) nm ss [])=.ok [.v (.lst (ps.map λp=>.str p.1))] (zk (.lst (ps.map pv)) nm ss []):=by
 revert ps;exact fP
theorem Vb(K)(xs:LA):bL (ev (bC k5 T) (n+20)) pE (kU 1) (zk (.lst xs) nm ss [("kind",.v (.str K))])=(gb (bC k5 T) (n+20) My (bN (kU 1)) xs (zk (.lst xs) nm ss [("kind",.v (.str K))])).bind λo s=>bR (ev (bC k5 T) (n+20)) pE (cV (kU 1)) o s:=by kernel_rfl
theorem Pw(K)(cq:LA)(N):bO (ev (bC k5 T) (n+20)) pE [kU 2,kU 3,kU 4] (zk vs (dB N) ss [("kind",.v (.str K)),("items",.v (.lst cq))])=.ok .next (GA vs (dB N) ss K cq (.ol []) N.isSome []):=by obtain _|_:=N<;>kernel_rfl
def RJ(n:Nat)(a:AV)(s:S):R Fl:=(bR (ev (bC k5 T) (n+20)) pE (iT (kU 5)) (.v a) s).bind λY s=>(ev (bC k5 T) (n+20)).x pE (cU (kU 5)) s
theorem Va(K)(cq xs:LA)(b)(cI:xs.length<=5):bL (ev (bC k5 T) (n+20)) pE (kU 5) (GA (.lst xs) nm ss K cq (.ol []) b [])=ek (RJ T n) ((List.range xs.length).map λ(k:Nat)=>AV.int (k:Int)) (GA (.lst xs) nm ss K cq (.ol []) b []):=by
 revert xs;exact fP
theorem Pu(K)(cq fo:LA)(N:OA)(tl:LO)(ht:tl=[]\/∃a b c,tl=[(("place":Str),OV.v a),("own_names",.v b),("inner",.v c)])(hf:∀l,N=some l->fo=l):ey 928 (bO (ev (bC k5 T) (n+20)) pE [kU 6,kU 7] (GA vs (dB N) ss K cq (.ol fo) N.isSome tl))=.ok (bV K cq (gM N)) (.v .none) ss:=by
 induction N using i7 with
 |none=>obtain rfl|⟨a,b,c,rfl⟩:=ht<;>kernel_rfl
 |some l=>
  obtain rfl:=hf l rfl;obtain rfl|⟨a,b,c,rfl⟩:=ht<;>kernel_rfl
def Zk(F:LA)(vs:LA)(nm:AV)(ss:OA)(K:Str)(cq:LA)(b:Bool)(done:LA)(s:S):Prop:=∃tl:LO,(tl=[]\/∃a b c,tl=[(("place":Str),OV.v a),("own_names",.v b),("inner",.v c)])/\s=GA (.lst vs) nm ss K cq (.ol (F.take done.length)) b tl
abbrev rJ(K:Str)(cq fo:LA)(b:Bool)(j:Int)(tl:LO):S:=GA vs nm ss K cq (.ol fo) b (("place",.v (.int j))::tl)
theorem U9(K)(cq fo:LA)(b)(j)(tl:LO)(ht:tl=[]\/∃a b c,tl=[(("place":Str),OV.v a),("own_names",.v b),("inner",.v c)]):∃eY,(eY=[]\/∃b c,eY=[(("own_names":Str),OV.v b),("inner",.v c)])/\bR (ev (bC k5 T) (n+20)) pE (iT (kU 5)) (.v (.int j)) (GA vs nm ss K cq (.ol fo) b tl)=.ok .next (rJ ss vs nm K cq fo b j eY):=by
 obtain rfl|⟨a,b',c,rfl⟩:=ht
 ·exact(cf _ (.inl rfl) (by kernel_rfl))
 ·exact(cf ([("own_names",.v b'),("inner",.v c)]) (.inr (iY _ _ rfl)) (by kernel_rfl))
theorem Fq{T:cK}{n:Nat}{ss:OA}{vs:LA}{f:Str}(hv:vs[j]? =some a)(hn:T 313 [.v a] ss=.ok .none (.v .none) ss)(hj:T 923 [.v (.str f),.v (.str "")] ss=.ok (.str f) (.v .none) ss)(hF:Me N j f)(fo)(hl:fo.length<=100)(tl:LO)(ht:tl=[]\/∃b c,tl=[(("own_names":Str),OV.v b),("inner",.v c)]):bO (ev (bC k5 T) (n+19)) pE (cU (kU 5)) (rJ ss (.lst vs) (dB N) K cq fo N.isSome j tl)=.ok .next (rJ ss (.lst vs) (dB N) K cq (fo++[.str f]) N.isSome j [("own_names",.v .none),("inner",.v (.str ""))]):=by
 rw[show cU _=[xq 0,xq 1,xq 2,xq 3] by kernel_rfl]
 have q0:bL (ev (bC k5 T) (n+19)) pE (xq 0) (rJ ss (.lst vs) (dB N) K cq fo N.isSome j tl)=.ok .next (rJ ss (.lst vs) (dB N) K cq fo N.isSome j (("own_names",.v .none)::tl.drop 1)):=by
  have s0:(ev (bC k5 T) (n+18)).e pE (eB (bN (xq 0))) (rJ ss (.lst vs) (dB N) K cq fo N.isSome j tl)=.ok (.v a) (rJ ss (.lst vs) (dB N) K cq fo N.isSome j tl):=by
   obtain rfl|⟨b,c,rfl⟩:=ht<;>exact lY (iB hv) (by kernel_rfl) (by kernel_rfl)
  have s1:bY (ev (bC k5 T) (n+18)) pE false (bX (bN (xq 0))) (rJ ss (.lst vs) (dB N) K cq fo N.isSome j tl)=.ok [.v a] (rJ ss (.lst vs) (dB N) K cq fo N.isSome j tl):=by
   exact cE s0 rfl
  obtain rfl|⟨b,c,rfl⟩:=ht<;>exact dW (dX s1 hn) (by kernel_rfl)
 have XT:∃eY,eY=tl.drop 1/\(eY=[]\/∃c,eY=[(("inner":Str),OV.v c)]):=(cf _ rfl (by obtain rfl|⟨b,c,rfl⟩:=ht;exact .inl rfl;exact .inr ⟨c,rfl⟩))
 refine bW XT λeY e h'=>?_;rw[<-e]at q0;have q1:bO (ev (bC k5 T) (n+19)) pE [xq 1,xq 2] (rJ ss (.lst vs) (dB N) K cq fo N.isSome j (("own_names",.v .none)::eY))=.ok .next (rJ ss (.lst vs) (dB N) K cq fo N.isSome j [("own_names",.v .none),("inner",.v (.str ""))]):=by
  obtain rfl|⟨c,rfl⟩:=h'<;>kernel_rfl
 have q3:bL (ev (bC k5 T) (n+19)) pE (xq 3) (rJ ss (.lst vs) (dB N) K cq fo N.isSome j [("own_names",.v .none),("inner",.v (.str ""))])=.ok .next (rJ ss (.lst vs) (dB N) K cq (fo++[.str f]) N.isSome j [("own_names",.v .none),("inner",.v (.str ""))]):=by
  have s0:(ev (bC k5 T) (n+17)).e pE (eB (eB (bN (xq 3)))) (rJ ss (.lst vs) (dB N) K cq fo N.isSome j [("own_names",.v .none),("inner",.v (.str ""))])=.ok (.v (.str f)) (rJ ss (.lst vs) (dB N) K cq fo N.isSome j [("own_names",.v .none),("inner",.v (.str ""))]):=by
   induction N using i7 with
   |none=>
    subst hF
    kernel_rfl
   |some l=>
    refine Eq.trans (by kernel_rfl) (iB hF)
  have s1:bY (ev (bC k5 T) (n+17)) pE false (bX (eB (bN (xq 3)))) (rJ ss (.lst vs) (dB N) K cq fo N.isSome j [("own_names",.v .none),("inner",.v (.str ""))])=.ok [.v (.str f),.v (.str "")] (rJ ss (.lst vs) (dB N) K cq fo N.isSome j [("own_names",.v .none),("inner",.v (.str ""))]):=by
   rw[show bX _=[eB _,dE (bX (eB (bN (xq 3)))) 1] by kernel_rfl]
   exact cE s0 (by kernel_rfl)
  exact(As (o:=.Name "found" ⟨0,0,0,0⟩) (x:="found") (by kernel_rfl) (dX s1 hj) (by kernel_rfl) hl).trans (by kernel_rfl)
 exact bG q0 (ew q1 (bG q3 rfl))
noncomputable def zL(m:Nat)(N:OA):LA:=match N with|none=>List.replicate m (.str "")|some l=>l
def GK(N:OA)(m:Nat):Prop:=∀l,N=some l->l.length=m/\∀a∈l,∃s,a=AV.str s
theorem Fs{m:Nat}(hN:GK N m)(hj:j<m):∃f,(zL m N)[j]? =some (.str f)/\Me N j f:=by
 induction N using i7 with
 |none=>exact(cf _ (List.getElem?_replicate_of_lt hj) rfl)
 |some l=>
  refine cH (hN l rfl) λh1 h2=>?_;have lt:j<l.length:=by lia
  refine cF (h2 l[j] (List.getElem_mem lt)) λs e=>?_;have:l[j]? =some (.str s):=by rw[az lt,e]
  exact(cf s this this)
theorem Hp{T:cK}(n:Nat){g:Str×LA->AV}(cI:ps.length<=5)(hN:GK N ps.length)(ss:OA)(h1:T 794 [.v (.lst (ps.map λp=>.str p.1))] ss=.ok (.str K) (.v .none) ss)(h2:∀p∈ps,T 895 [.v (pv p),.v (.str K),.v (.lst [])] ss=.ok (bV K [g p] .none) (.v .none) ss)(h3:∀p∈ps,T 313 [.v (pv p)] ss=.ok .none (.v .none) ss)(h4:∀f:Str,T 923 [.v (.str f),.v (.str "")] ss=.ok (.str f) (.v .none) ss):
  cA (bC k5 T) (n+21) 928 [.v (.lst (ps.map pv)),.v (dB N)] ss=.ok (bV K (ps.map g) (gM N)) (.v .none) ss:=by
 rw[Kg T (n+20),show fB 928=kU 0::kU 1::([kU 2,kU 3,kU 4]++kU 5::[kU 6,kU 7]) by kernel_rfl]
 have q0:bL (ev (bC k5 T) (n+20)) pE (kU 0) (zk (.lst (ps.map pv)) (dB N) ss [])=.ok .next (zk (.lst (ps.map pv)) (dB N) ss [("kind",.v (.str K))]):=
  dW (dX (Px T (n+1) ss (dB N) ps cI) h1) (by kernel_rfl)
 have q1:bL (ev (bC k5 T) (n+20)) pE (kU 1) (zk (.lst (ps.map pv)) (dB N) ss [("kind",.v (.str K))])=.ok .next (zk (.lst (ps.map pv)) (dB N) ss [("kind",.v (.str K)),("items",.v (.lst (ps.map g)))]):=by
  rw[Vb,gh (u:=pv) (g:=g) (x:="value") ⟨(gN (bN (kU 1))).pos,by kernel_rfl⟩ (by lia) λp hp=>?_]
  ·kernel_rfl
  ·have c:=cX (l:=k5) (T:=T) (n:=n+17) (cx:=My) (e:=qA (qA (eJ (bN (kU 1))))) (cl:=[("value",pv p)]) (loc:=[("values",.v (.lst (ps.map pv))),("names",.v (dB N)),("kind",.v (.str K))]) (dl:=none) (h2 p hp) (by kernel_rfl)
   exact lY (a:=.lst [g p]) (k:=.int 0) (by kernel_rfl) (A9 (m:="items") c (by kernel_rfl)) (by kernel_rfl)
 have I0:Zk (zL ps.length N) (ps.map pv) (dB N) ss K (ps.map g) N.isSome [] (GA (.lst (ps.map pv)) (dB N) ss K (ps.map g) (.ol []) N.isSome []):=(cf ([]) (.inl rfl) (by rw[show(zL ps.length N).take ([]:LA).length=[]from List.take_zero ..]))
 obtain⟨s',e5,tl,ht,rfl⟩:=wU (f:=RJ T n) (xs:=(List.range (ps.map pv).length).map λ(k:Nat)=>AV.int (k:Int)) I0 λdone a rest s e h=>by
  refine cH (sP e) ?_;rintro rfl lt;refine bW h ?_;rintro tl ht rfl;rw[ah]at lt;refine bW (Fs hN lt) λf f1 f2=>?_;refine bW (U9 T n ss (.lst (ps.map pv)) (dB N) K (ps.map g) ((zL ps.length N).take done.length) N.isSome (done.length:Int) tl ht) λeY Rz e1=>?_;refine⟨_,?_,[("place",.v (.int (done.length:Int))),("own_names",.v .none),("inner",.v (.str ""))],.inr (rX _ _ _ rfl),rfl⟩;unfold RJ;rw[e1,c0,oY,Fq (a:=pv ps[done.length]) (by rw[bc,az lt];rfl) (h3 _ (List.getElem_mem lt)) (h4 f) f2 _ (by rw[List.length_take];lia) eY Rz,Ed f1,aw,aT]
 refine(aN (ey 928) (bG q0 (bG q1 (ew (Pw T n ss _ K _ N) (bG ((Va T n ss (dB N) K (ps.map g) (ps.map pv) N.isSome (by rw[ah];exact cI)).trans e5) rfl))))).trans ?_
 refine Pu T n ss _ K _ _ N tl ht λl e=>?_;subst e;rw[ah,aY,ah,show zL ps.length (some l)=l from rfl,List.take_of_length_le (by have:=(hN l rfl).1;lia)]
end
def kg:AV:=.ins jE [("kind",.str "NULL"),("attrs",.none)]
def nB(m:Nat)(N:OA):AV:=match N with
 |none=>.dct [("dim",bV "integer" [.int 2,.int m] .none)]
 |some l=>.dct [("dim",bV "integer" [.int 2,.int m] .none),("dimnames",bV "list" [kg,bV "character" l .none] .none)]
noncomputable def p2(t:AV×AV):Str×LA:=("integer",[t.1,t.2])
theorem Qe(ts)(cI:ts.length<=5)(h0:ts≠[])(N)(ss):cA dH 20 933 [.v (.lst ((ts.map p2).map pv)),.v (dB N)] ss=.ok (bV "integer" ((ts.map p2).flatMap (·.2)) (nB ts.length N)) (.v .none) ss:=by
 revert ts;obtain _|_:=N<;>exact fP (λh=>absurd rfl h) (λY Y=>by kernel_rfl) (λY Y Y=>by kernel_rfl) (λY Y Y Y=>by kernel_rfl) (λY Y Y Y Y=>by kernel_rfl) (λY Y Y Y Y Y=>by kernel_rfl)
theorem Hc(ps:LP)(cI:ps.length<=5)(N)(ss):cA dH 20 240 [.v (.lst (ps.map pv)),.v (dB N)] ss=.ok (bV "list" (ps.map pv) (gM N)) (.v .none) ss:=by
 revert ps;obtain _|_:=N<;>exact fP
theorem Fy:∀l s c,(∀x∈l,0<=x)->ur s l=c->0<=c->(∀x∈l,x=c)/\(0<=s->s=c):=by
 intro l;induction l with
 |nil=>intro s c _ h _;exact⟨(λY q=>nomatch q),λY=>h⟩
 |cons x l ih=>
  intro s c hl h hc;have e:ur s (x::l)=if 0<=s/\x≠s then-1 else ur x l:=rfl
  rw[e]at h;by_cases q:0<=s/\x≠s
  ·rw[aA q]at h;lia
  ·rw[au q]at h
   refine cH (ih x c (λy hy=>hl y (.tail _ hy)) h hc) λh1 h2=>?_
   have hx:=h2 (hl x (.head _))
   refine⟨λy hy=>?_,λhs=>?_⟩
   ·obtain rfl|z:=List.mem_cons.mp hy
    ·exact hx
    ·exact h1 y z
   ·rw[<-hx]
    exact Classical.byContradiction λz=>q ⟨hs,λw=>z w.symm⟩
structure qK(ps:List (Str×List AV)):Prop where
 shp:∀p∈ps,lU p
 one:∀p∈ps,sz p=1->vY p
 plain:∀p∈ps,p.2.all kW=true
 ln9:ps.length<=5
theorem wb(hfo:eO fo)(hf:∀x∈fs,eO x)(cI:fs.length<=5):qK (fs.map (pr fo)) where
 shp:=λp hp=>by refine bW (List.mem_map.mp hp) ?_;rintro x hx rfl;exact uL hfo (hf x hx)
 one:=λp hp h=>by
  refine bW (List.mem_map.mp hp) ?_;rintro x hx rfl;revert h;obtain rfl|rfl|rfl|rfl|rfl:=hfo.cases<;>rcases(hf x hx).cases with rfl|rfl|rfl|rfl|rfl<;>intro h<;>first|exact .c _|exact .i _ (by decide) (by decide)|exact absurd h (by decide)
 plain:=λp hp=>by refine bW (List.mem_map.mp hp) ?_;rintro x hx rfl;exact GV hfo (hf x hx)
 ln9:=by rw[ah];exact cI
theorem Jd(ps:LP):∀x∈ps.map sz,0<=x:=λx hx=>by
 refine bW (List.mem_map.mp hx) ?_;rintro p _ rfl;exact Int.natCast_nonneg _
set_option tactic.hygienic true in
theorem Ii(h:∀p∈ps,lU p)(h2:∀p∈ps,sz p=2):∃ts:List (AV×AV),ps=ts.map p2:=by
 induction ps with
 |nil=>exact⟨[],rfl⟩
 |cons p l ih=>
  refine cF (ih (λy hy=>h y (.tail _ hy)) (λy hy=>h2 y (.tail _ hy))) ?_;rintro ts rfl
  have e:=h2 p (.head _)
  cases h p (.head _)
  case i2 a b=>exact⟨(a,b)::ts,rfl⟩
  case i0=>exact absurd (show(0:Int)=2 from e) (by decide)
  all_goals exact absurd (show(1:Int)=2 from e) (by decide)
theorem zv(h:qK ps)(h2:∀p∈ps,sz p=1):∀p∈ps,vY p:=λp hp=>h.one p hp (h2 p hp)
def zm(ps:LP)(N:OA):AV:=bV (ig ps) (ps.map (mE ps)) (gM N)
def Gs(ps:LP)(N:OA):AV:=bV "integer" (ps.flatMap (·.2)) (nB ps.length N)
def zj(ps:LP)(N:OA):AV:=bV "list" (ps.map pv) (gM N)
def cm(ps:LP):Int:=ur (-1) (ps.map sz)
def j9(ps:LP)(N:OA):AV:=if cm ps=1 then zm ps N else if cm ps=2 then Gs ps N else zj ps N
theorem jS{c:Int}(h:cm ps=c)(hc:0<=c):∀p∈ps,sz p=c:=λp hp=>(Fy _ _ _ (Jd ps) h hc).1 _ (List.mem_map.mpr ⟨p,hp,rfl⟩)
theorem wg{c:Int}(h:cm ps=c)(hc:0<=c):ps≠[]:=λe=>by
 subst e;have:(-1)=c:=h;lia
theorem Pz(hp:∀p∈ps,lU p):Sz (cm ps):=by
 have:∀(l:LP) s,(∀p∈l,lU p)->Sz s->Sz (ur s (l.map sz)):=λl=>by
  induction l with
  |nil=>exact λs Y h=>h
  |cons p l ih=>
   intro s h hs;show Sz (if 0<=s/\sz p≠s then-1 else ur _ _)
   split
   ·exact .inl rfl
   ·exact ih _ (λy hy=>h y (.tail _ hy)) (h p (.head _)).sz
 exact this ps _ hp (.inl rfl)
noncomputable def y0:List Addr:=[940,928,933,240]
section
variable(T:cK)(n:Nat)(ss:OA)(vs nm:AV)
noncomputable abbrev Qv(vs nm:AV)(ss:OA)(tl:LO):S:=⟨[],("values",.v vs)::("names",.v nm)::tl,ss,none⟩
theorem Jm:cA (bC y0 T) (n+1) 954 [.v vs,.v nm] ss=ey 954 (bO (ev (bC y0 T) n) (fX 954) (fB 954) (Qv vs nm ss [])):=by kernel_rfl
theorem SJ{c:Int}(h:T 940 [.v vs] ss=.ok (.int c) (.v .none) ss):bL (ev (bC y0 T) (n+18)) (fX 954) (cM (fB 954) 0) (Qv vs nm ss [])=.ok .next (Qv vs nm ss [("count",.v (.int c))]):=dW (cX h (by kernel_rfl)) (by kernel_rfl)
noncomputable abbrev Gn(vs nm:AV)(ss:OA)(c:Int):S:=Qv vs nm ss [("count",.v (.int c))]
abbrev Wr(i:Nat):Stmt:=cM (cU (cM (fB 954) i)) 0
theorem N4:bL (ev (bC y0 T) (n+18)) (fX 954) (cM (fB 954) 1) (Gn vs nm ss 1)=bO (ev (bC y0 T) (n+17)) (fX 954) [Wr 1] (Gn vs nm ss 1):=by kernel_rfl
theorem N3:bL (ev (bC y0 T) (n+18)) (fX 954) (cM (fB 954) 2) (Gn vs nm ss 2)=bO (ev (bC y0 T) (n+17)) (fX 954) [Wr 2] (Gn vs nm ss 2):=by kernel_rfl
theorem GU{c:Int}(h:c= -1\/c=0\/c=2):bL (ev (bC y0 T) (n+18)) (fX 954) (cM (fB 954) 1) (Gn vs nm ss c)=.ok .next (Gn vs nm ss c):=by obtain rfl|rfl|rfl:=h<;>kernel_rfl
theorem N6{c:Int}(h:c= -1\/c=0):bL (ev (bC y0 T) (n+18)) (fX 954) (cM (fB 954) 2) (Gn vs nm ss c)=.ok .next (Gn vs nm ss c):=by obtain rfl|rfl:=h<;>kernel_rfl
theorem N5{T:cK}(n)(hp:qK ps)(ss)(h0:T 940 [.v (.lst (ps.map pv))] ss=.ok (.int (cm ps)) (.v .none) ss)(h1:cm ps=1->T 928 [.v (.lst (ps.map pv)),.v (dB N)] ss=.ok (zm ps N) (.v .none) ss)(h2:cm ps=2->T 933 [.v (.lst (ps.map pv)),.v (dB N)] ss=.ok (Gs ps N) (.v .none) ss)(h3:T 240 [.v (.lst (ps.map pv)),.v (dB N)] ss=.ok (zj ps N) (.v .none) ss):
  cA (bC y0 T) (n+19) 954 [.v (.lst (ps.map pv)),.v (dB N)] ss=.ok (j9 ps N) (.v .none) ss:=by
 rw[Jm T _,show fB 954=[cM (fB 954) 0,cM (fB 954) 1,cM (fB 954) 2,cM (fB 954) 3] by kernel_rfl]
 have q0:=SJ T n ss _ (dB N) h0
 have hs:=Pz hp.shp
 unfold j9;generalize cm ps=c at*;have li:c= -1\/c=0->ey 954 (bO _ _ [cM _ 0,cM _ 1,cM _ 2,cM (fB 954) 3] _)=.ok _ _ ss:=λh=>by
  rw[bG q0 (bG (GU T n ss _ _ (by lia)) (bG (N6 T n ss _ _ h) (dj (g8 (cX h3 (by kernel_rfl))))))];rfl
 obtain rfl|rfl|rfl|rfl:=hs
 ·exact li (.inl rfl)
 ·exact li (.inr rfl)
 ·rw[bG q0 (dj ((N4 T n ss _ _).trans (dj (g8 (cX (h1 rfl) (by kernel_rfl))))))];rfl
 ·rw[bG q0 (bG (GU T n ss _ _ (by decide)) (dj ((N3 T n ss _ _).trans (dj (g8 (cX (h2 rfl) (by kernel_rfl)))))))];rfl
end
def QY:cK:=λa os ss=>match Nat.beq a 928 with|true=>cA (bC k5 TA) 21 a os ss|false=>TA a os ss
def TS:cK:=cA (bC y0 QY) 20
theorem Ji(hp:qK ps)(hN:GK N ps.length)(ss):TS 954 [.v (.lst (ps.map pv)),.v (dB N)] ss=.ok (j9 ps N) (.v .none) ss:=
 N5 1 hp ss (PE ps hp.shp ss) (λh=>Hp 0 hp.ln9 hN ss (Hr ps (λp q=>(zv hp (jS h (by decide)) p q).k) (wg h (by decide)) ss) (Qd (zv hp (jS h (by decide))) ss) (λp q=>GZ (zv hp (jS h (by decide)) p q).k ss) (λf=>He f ss))
  (λh=>by
   refine cF (Ii hp.shp (jS h (by decide))) ?_;rintro ts rfl
   have:=Qe ts (by have:=hp.ln9;rwa [ah]at this) (λe=>wg h (by decide) (by rw[e];rfl)) N ss
   unfold Gs;rw[ah];exact this) (Hc ps hp.ln9 N ss)
noncomputable def qG(i:Int):List Int->Nat
 |[]=>0
 |j::l=>if j=i then qG i l+1 else qG i l
theorem A2(i):∀l,qG i l<=l.length:=by
 intro l;induction l with
 |nil=>exact aC 0
 |cons j l ih=>
  unfold qG;rw[aM]
  split<;>lia
theorem Ft(i):∀l,qG i l=l.length->∀x∈l,x=i:=by
 intro l;induction l with
 |nil=>intro _;exact λY q=>nomatch q
 |cons j l ih=>
  intro h x hx;have le:=A2 i l;unfold qG at h;rw[aM]at h;by_cases q:j=i
  ·rw[aA q]at h
   obtain rfl|z:=List.mem_cons.mp hx
   ·exact q
   ·exact ih (by lia) x z
  ·rw[au q]at h;lia
theorem te(c):∀l,(∀x∈l,x=c)->ur c l=c:=by
 intro l;induction l with
 |nil=>intro _;exact rfl
 |cons x l ih=>
  intro h;obtain rfl:=h x (.head _);show(if 0<=x/\x≠x then-1 else ur x l)=x
  rw[au (λq=>q.2 rfl)]
  exact ih λy hy=>h y (.tail _ hy)
noncomputable def gz:List Addr:=[1400]
noncomputable abbrev mX(bB vs nm:AV)(ss:OA)(tl:LO):S:=⟨[],("told",.v bB)::("values",.v vs)::("names",.v nm)::tl,ss,none⟩
abbrev gA(i:Nat):Stmt:=cM (fB 1405) i
abbrev xk(i:Nat):Expr:=dE (j4 (cB (gA 1))) i
abbrev Lb(i:Nat):Stmt:=cM (cU (gA i)) 0
section
variable(T:cK)(n:Nat)(ss:OA)(bB nm:AV)
theorem uJ(vs):cA (bC gz T) (n+1) 1405 [.v bB,.v vs,.v nm] ss=ey 1405 (bO (ev (bC gz T) n) (fX 1405) (fB 1405) (mX bB vs nm ss [])):=by kernel_rfl
theorem LX(ps:LP)(cI:ps.length<=5):bL (ev (bC gz T) (n+18)) (fX 1405) (gA 0) (mX bB (.lst (ps.map pv)) nm ss [])=.ok .next (mX bB (.lst (ps.map pv)) nm ss [("sizes",.v (.lst (ps.map λp=>.int (sz p))))]):=by
 revert ps;exact fP
theorem N0(ps:LP)(cI:ps.length<=5)(zs):(ev (bC gz T) (n+17)).b (fX 1405) (xk 0) (mX bB (.lst (ps.map pv)) nm ss [("sizes",.v zs)])=.ok ps.isEmpty (mX bB (.lst (ps.map pv)) nm ss [("sizes",.v zs)]):=by
 revert ps;exact fP
theorem NZ(vs)(c)(cs)(cI:(c::cs).length<=5):(ev (bC gz T) (n+17)).b (fX 1405) (xk 1) (mX bB vs nm ss [("sizes",.v (.lst ((c::cs).map .int)))])=.ok (decide ((qG c (c::cs):Int)<((c::cs).length:Int))) (mX bB vs nm ss [("sizes",.v (.lst ((c::cs).map .int)))]):=by
 have:∀l:List Int,l.length<=5->match l with|[]=>True|c::cs=>(ev (bC gz T) (n+17)).b (fX 1405) (xk 1) (mX bB vs nm ss [("sizes",.v (.lst ((c::cs).map .int)))])=.ok (decide ((qG c (c::cs))<((c::cs).length:Int))) (mX bB vs nm ss [("sizes",.v (.lst ((c::cs).map .int)))]):=
  fP trivial
 exact this _ cI
theorem NY(vs)(c)(cs:LA):(ev (bC gz T) (n+17)).b (fX 1405) (xk 2) (mX bB vs nm ss [("sizes",.v (.lst (.int c::cs)))])=.ok (decide (c=0)) (mX bB vs nm ss [("sizes",.v (.lst (.int c::cs)))]):=by kernel_rfl
theorem NX{vs zs:AV}(h1:fy (ev (bC gz T) (n+17)) (fX 1405) .Or [xk 0,xk 1,xk 2] (mX bB vs nm ss [("sizes",.v zs)])=.ok true (mX bB vs nm ss [("sizes",.v zs)])):bL (ev (bC gz T) (n+18)) (fX 1405) (gA 1) (mX bB vs nm ss [("sizes",.v zs)])=bO (ev (bC gz T) (n+17)) (fX 1405) [Lb 1] (mX bB vs nm ss [("sizes",.v zs)]):=by
 have e:bL (ev (bC gz T) (n+18)) (fX 1405) (gA 1) (mX bB vs nm ss [("sizes",.v zs)])=(fy (ev (bC gz T) (n+17)) (fX 1405) .Or [xk 0,xk 1,xk 2] (mX bB vs nm ss [("sizes",.v zs)])).bind λc s=>(match c with|true=>bO (ev (bC gz T) (n+17)) (fX 1405) [Lb 1] s|false=>(ev (bC gz T) (n+18)).x (fX 1405) [] s):=by kernel_rfl
 rw[e,h1];rfl
theorem Ep{T:cK}(hT:me T)(hp:qK ps)(hN:mI N)(h1:cm ps≠1)(h2:cm ps≠2)(ss):cA (bC gz T) (n+19) 1405 [.v (zj ps N),.v (.lst (ps.map pv)),.v (dB N)] ss=.ok (.bool true) (.v .none) ss:=by
 rw[uJ T _,show fB 1405=gA 0::gA 1::(fB 1405).drop 2 by kernel_rfl]
 have q1:fy (ev (bC gz T) (n+17)) (fX 1405) .Or [xk 0,xk 1,xk 2] (mX (zj ps N) (.lst (ps.map pv)) (dB N) ss [("sizes",.v (.lst (ps.map λp=>.int (sz p))))])=.ok true (mX (zj ps N) (.lst (ps.map pv)) (dB N) ss [("sizes",.v (.lst (ps.map λp=>.int (sz p))))]):=by
  have a:=N0 T n ss (zj ps N) (dB N) ps hp.ln9 (.lst (ps.map λp=>.int (sz p)))
  induction ps using eZ with
  |nil=>exact zu a
  |cons p l=>
   have b:=NZ T n ss (zj (p::l) N) (dB N) (.lst ((p::l).map pv)) (sz p) (l.map sz) (by have:=hp.ln9;rwa [aM,ah]at*)
   have e:(sz p::l.map sz).map AV.int=(p::l).map λp=>.int (sz p):=by rw[aP,bh];rfl
   rw[e]at b;refine iy a ?_;by_cases q:(qG (sz p) (sz p::l.map sz))<((sz p::l.map sz).length:Int)
   ·rw[decide_eq_true q]at b;exact zu b
   ·rw[bl q]at b
    refine iy b (zu ((NY T n ss (zj (p::l) N) (dB N) (.lst ((p::l).map pv)) (sz p) (l.map λp=>.int (sz p))).trans ?_))
    have all:=Ft (sz p) (sz p::l.map sz) (by have:=A2 (sz p) (sz p::l.map sz);lia)
    have e:cm (p::l)=sz p:=te _ _ λx hx=>all x (.tail _ hx)
    have:=(hp.shp p (.head _)).sz
    have pos:0<=sz p:=Int.natCast_nonneg _
    rw[decide_eq_true (by obtain z|z|z|z:=this<;>lia)]
    rfl
 have q2:bO (ev (bC gz T) (n+17)) (fX 1405) [Lb 1] _=.ok _ (mX (zj ps N) (.lst (ps.map pv)) (dB N) ss [("sizes",.v (.lst (ps.map λp=>.int (sz p))))]):=
  dj (g8 (cX (hT.list ps hp.plain hp.ln9 N hN ss) (by kernel_rfl)))
 rw[bG (LX T n ss _ _ ps hp.ln9) (dj ((NX T n ss _ _ q1).trans q2))];rfl
end
theorem yJ{f:S->R LA}{u g:Z->AV}{P:LE->Prop}(xs:List Z)(cl)(h:P cl)(H:∀a∈xs,∀cl,P cl->∃i9,P i9/\f {s with cl:=dy cl x (u a)}=.ok [g a] {s with cl:=i9}):∃i9,dU f (.Name x p) (λs=>.ok true s) (xs.map u) {s with cl:=cl}=.ok (xs.map g) {s with cl:=i9}:=
 lJ xs cl h λa ha cl hc=>bW (H a ha cl hc) λc h1 h2=>eF _ c rfl h1 h2
noncomputable def p1(q:Str×AV):Str×LA:=(q.1,[q.2])
theorem AE(h:∀p∈ps,vY p):∃qs:LE,ps=qs.map p1:=by
 induction ps with
 |nil=>exact⟨[],rfl⟩
 |cons p l ih=>
  refine cF (ih λy hy=>h y (.tail _ hy)) ?_;rintro qs rfl
  cases h p (.head _)with
  |i i _ _=>exact⟨("integer",.int i)::qs,rfl⟩
  |c s=>exact⟨("character",.str s)::qs,rfl⟩
theorem E4(x):∀l:List Str,uo x (l.map .str)=some (l.any λy=>dM y x):=by
 intro l;induction l with
 |nil=>exact rfl
 |cons y l ih=>
  rw[aP,List.any_cons,Hf,ih];cases dM y x<;>rfl
abbrev Qu:Expr:=bN (gA 2)
noncomputable def uy(e:Expr):Expr:=dE (kE e).1 0
noncomputable def zG(e:Expr)(i:Nat):Expr×Expr:=match(J2 e)[i]? with|some ⟨t,it,_,_⟩=>(t,it)|none=>(e,e)
def LY:Cx:=⟨jJ (kT 1405),some (jc (bN (gA 3))),none⟩
def Wo(T:cK)(n:Nat)(s:S):R LA:=(vl ((ev (bC gz T) (n+18)).e LY (zG (bN (gA 3)) 1).2 s)).bind λa s=>(match dh a with
    |none=>.no
    |some ys=>dU (λs=>(vl ((ev (bC gz T) (n+18)).e LY (eJ (bN (gA 3))) s)).bind λa s=>.ok [a] s) (zG (bN (gA 3)) 1).1 (λs=>.ok true s) ys s)
section
variable(T:cK)(n:Nat)(ss:OA)(bB nm:AV)
noncomputable abbrev pC(bB vs nm:AV)(ss:OA)(zs:LA)(tl:LO):S:=mX bB vs nm ss (("sizes",.v (.lst zs))::tl)
theorem SE(qs:LE)(cI:qs.length<=5)(h0:qs≠[]):bL (ev (bC gz T) (n+18)) (fX 1405) (gA 1) (pC bB (.lst ((qs.map p1).map pv)) nm ss (qs.map λY=>.int 1) [])=.ok .next (pC bB (.lst ((qs.map p1).map pv)) nm ss (qs.map λY=>.int 1) []):=by
 revert qs;exact fP (λh=>absurd rfl h) (λY Y=>by kernel_rfl) (λY Y Y=>by kernel_rfl) (λY Y Y Y=>by kernel_rfl) (λY Y Y Y Y=>by kernel_rfl) (λY Y Y Y Y Y=>by kernel_rfl)
theorem NR(qs:LE)(cI:qs.length<=5)(zs):(ev (bC gz T) (n+17)).b (fX 1405) (uy Qu) (pC bB (.lst ((qs.map p1).map pv)) nm ss zs [])=(match uo "character" ((qs.map (·.1)).map .str)with|some t=>R.ok t (pC bB (.lst ((qs.map p1).map pv)) nm ss zs [])|none=>.no):=by
 revert qs;exact fP
noncomputable def WH(b:Bool):Str:=match b with|true=>"character"|false=>"integer"
theorem SD(qs:LE)(cI:qs.length<=5)(zs:LA):bL (ev (bC gz T) (n+18)) (fX 1405) (gA 2) (pC bB (.lst ((qs.map p1).map pv)) nm ss zs [])=.ok .next (pC bB (.lst ((qs.map p1).map pv)) nm ss zs [("kind",.v (.str (ig (qs.map p1))))]):=by
 have e0:bL (ev (bC gz T) (n+18)) (fX 1405) (gA 2) (pC bB (.lst ((qs.map p1).map pv)) nm ss zs [])=(((ev (bC gz T) (n+17)).b (fX 1405) (uy Qu) (pC bB (.lst ((qs.map p1).map pv)) nm ss zs [])).bind λc s=>(match c with|true=>(ev (bC gz T) (n+17)).e (fX 1405) (rZ Qu) s|false=>(ev (bC gz T) (n+17)).e (fX 1405) (iF Qu) s)).bind λo s=>bR (ev (bC gz T) (n+18)) (fX 1405) (cV (gA 2)) o s:=by kernel_rfl
 have k:ig (qs.map p1)=WH ((qs.map (·.1)).any λy=>dM y "character"):=by
  unfold ig WH;rw[List.any_map,List.any_map];rfl
 rw[e0,NR T n ss bB nm qs cI zs,E4,k];cases(qs.map (·.1)).any λy=>dM y "character"<;>kernel_rfl
theorem NP(qs:LE)(cI:qs.length<=5)(zs):bL (ev (bC gz T) (n+18)) (fX 1405) (gA 3) (pC bB (.lst ((qs.map p1).map pv)) nm ss zs [("kind",.v (.str "integer"))])=.ok .next (pC bB (.lst ((qs.map p1).map pv)) nm ss zs [("kind",.v (.str "integer")),("items",.v (.lst (qs.map (·.2))))]):=by
 revert qs;exact fP
theorem NQ(xs zs:LA):bL (ev (bC gz T) (n+18)) (fX 1405) (gA 3) (pC bB (.lst xs) nm ss zs [("kind",.v (.str "character"))])=(((dU (Wo T n) (zG (bN (gA 3)) 0).1 (λs=>.ok true s) xs (pC bB (.lst xs) nm ss zs [("kind",.v (.str "character"))])).bind fD).noExc).bind λo s=>bR (ev (bC gz T) (n+18)) (fX 1405) (cV (gA 3)) o s:=by kernel_rfl
def Xx(cl:LE):Prop:=cl=[]\/∃a b,cl=[(("one":Str),a),("item",b)]
theorem SA(ps:LP)(h:∀p∈ps,vY p)(cI:ps.length<=5)(zs:LA):bL (ev (bC gz T) (n+18)) (fX 1405) (gA 3) (pC bB (.lst (ps.map pv)) nm ss zs [("kind",.v (.str "character"))])=.ok .next (pC bB (.lst (ps.map pv)) nm ss zs [("kind",.v (.str "character")),("items",.v (.lst (ps.map λp=>KN (mY p))))]):=by
 obtain⟨p,e⟩:∃p,(zG (bN (gA 3)) 0).1=.Name "one" p:=⟨((zG (bN (gA 3)) 0).1).pos,by kernel_rfl⟩
 obtain⟨i9,c⟩:=yJ (f:=Wo T n) (p:=p) (s:=pC bB (.lst (ps.map pv)) nm ss zs [("kind",.v (.str "character"))]) (u:=pv) (g:=λp=>KN (mY p)) (P:=Xx) ps [] (.inl rfl) λp hp cl hc=>⟨[("one",pv p),("item",mY p)],.inr (iY _ _ rfl),by
  cases h p hp with
  |i i a b=>obtain rfl|⟨a,b,rfl⟩:=hc<;>obtain rfl|rfl|rfl|rfl|rfl|rfl|rfl|rfl|rfl:=AA ‹_› ‹_›<;>kernel_rfl
  |c s=>obtain rfl|⟨a,b,rfl⟩:=hc<;>kernel_rfl⟩
 rw[NQ,e];refine(aN (λr=>((R.bind r fD).noExc).bind λo s=>bR (ev (bC gz T) (n+18)) (fX 1405) (cV (gA 3)) o s) c).trans ?_
 show((fD (ps.map λp=>KN (mY p)) _).noExc).bind _=_
 unfold fD;rw[show dF (ps.map λp=>KN (mY p)).length=true from aQ (by rw[ah];lia)]
 kernel_rfl
theorem Sy(vs)(K)(qs:LE)(cI:qs.length<=5)(h0:qs≠[])(cq:LA):bL (ev (bC gz T) (n+18)) (fX 1405) (gA 4) (pC bB vs nm ss (qs.map λY=>.int 1) [("kind",.v (.str K)),("items",.v (.lst cq))])=bO (ev (bC gz T) (n+17)) (fX 1405) [Lb 4] (pC bB vs nm ss (qs.map λY=>.int 1) [("kind",.v (.str K)),("items",.v (.lst cq))]):=by
 revert qs;exact fP (λh=>absurd rfl h) (λY Y=>by kernel_rfl) (λY Y Y=>by kernel_rfl) (λY Y Y Y=>by kernel_rfl) (λY Y Y Y Y=>by kernel_rfl) (λY Y Y Y Y Y=>by kernel_rfl)
theorem EH(h:∀p∈ps,vY p):(ps.map (mE ps)).all kW=true:=by
 rw[List.all_eq_true];refine λa ha=>bW (List.mem_map.mp ha) ?_;rintro p hp rfl
 unfold mE;cases h p hp<;>cases ps.any xm<;>rfl
theorem JF(ps:LP):ig ps="integer"\/ig ps="character":=by
 unfold ig;cases ps.any xm
 ·exact .inl rfl
 ·exact .inr rfl
theorem Eo{T:cK}(hT:me T)(hp:qK ps)(hN:mI N)(h1:cm ps=1)(ss:OA):cA (bC gz T) (n+19) 1405 [.v (zm ps N),.v (.lst (ps.map pv)),.v (dB N)] ss=.ok (.bool true) (.v .none) ss:=by
 have s1:=jS h1 (by decide)
 have o1:=zv hp s1
 have ne:=wg h1 (by decide)
 have cI:=hp.ln9
 rw[uJ T (n+18),show fB 1405=gA 0::gA 1::gA 2::gA 3::gA 4::(fB 1405).drop 5 by kernel_rfl]
 have q0:=LX T n ss (zm ps N) (dB N) ps hp.ln9
 rw[List.map_congr_left (f:=λp=>AV.int (sz p)) (g:=λY=>AV.int 1) λp q=>by rw[s1 p q]]at q0
 have q3:bL (ev (bC gz T) (n+18)) (fX 1405) (gA 3) (pC (zm ps N) (.lst (ps.map pv)) (dB N) ss (ps.map λY=>.int 1) [("kind",.v (.str (ig ps)))])=.ok .next (pC (zm ps N) (.lst (ps.map pv)) (dB N) ss (ps.map λY=>.int 1) [("kind",.v (.str (ig ps))),("items",.v (.lst (ps.map (mE ps))))]):=by
  generalize e:ps.any xm=zz;induction zz using i8 with
  |true=>
   have a:=SA T n ss (zm ps N) (dB N) ps o1 hp.ln9 (ps.map λY=>.int 1)
   unfold ig mE;rw[e];exact a
  |false=>
   generalize ht:zm ps N=bB;refine cF (AE o1) ?_;rintro qs rfl;unfold ig mE;rw[e];refine(NP T n ss bB (dB N) qs (by rwa [ah]at cI) ((qs.map p1).map λY=>.int 1)).trans ?_
   rw[bh (g:=λp=>mY p)];rfl
 have r4:=dj (l:=[]) (g8 (cx:=fX 1405) (sT:=Lb 4) (s:=pC (zm ps N) (.lst (ps.map pv)) (dB N) ss (ps.map λY=>.int 1) [("kind",.v (.str (ig ps))),("items",.v (.lst (ps.map (mE ps))))]) (cX (l:=gz) (n:=n+16) (hT.flat (ig ps) (JF ps) (ps.map (mE ps)) (EH o1) N hN ss) (by kernel_rfl)))
 generalize ht:zm ps N=bB at*;generalize hK:ig ps=K at*;generalize hI:ps.map (mE ps)=cq at*;refine cF (AE o1) ?_;rintro qs rfl;have cI:qs.length<=5:=by rwa [ah]at cI
 have ne:qs≠[]:=λe=>ne (by rw[e];rfl)
 have m:((qs.map p1).map λY=>AV.int 1)=qs.map λY=>.int 1:=by rw[bh];rfl
 rw[m]at q0 q3 r4;have q2:=SD T n ss bB (dB N) qs cI (qs.map λY=>.int 1)
 rw[hK]at q2;rw[bG q0 (bG (SE T n ss bB (dB N) qs cI ne) (bG q2 (bG q3 (dj ((Sy T n ss bB (dB N) _ K qs cI ne cq).trans r4)))))];rfl
end
theorem Fe(h:∀p∈ps,p.2.all kW=true):(ps.flatMap (·.2)).all kW=true:=by
 rw[List.all_flatMap,List.all_eq_true];exact h
abbrev KO(i:Nat):Expr:=dE (j4 (cB (gA 5))) i
section
variable(T:cK)(n:Nat)(ss:OA)
abbrev xj(bB:AV)(ts:List (AV×AV))(nm:AV)(ss:OA):S:=mX bB (.lst ((ts.map p2).map pv)) nm ss [("sizes",.v (.lst (ts.map λY=>.int 2))),("kind",.v (.str "integer")),("items",.v (.lst ((ts.map p2).flatMap (·.2))))]
theorem GS(bB nm)(ts)(cI:ts.length<=5)(h0:ts≠[]):bO (ev (bC gz T) (n+18)) (fX 1405) [gA 0,gA 1,gA 2,gA 3,gA 4] (mX bB (.lst ((ts.map p2).map pv)) nm ss [])=.ok .next (xj bB ts nm ss):=by
 revert ts;exact fP (λh=>absurd rfl h) (λY Y=>by kernel_rfl) (λY Y Y=>by kernel_rfl) (λY Y Y Y=>by kernel_rfl) (λY Y Y Y Y=>by kernel_rfl) (λY Y Y Y Y Y=>by kernel_rfl)
theorem NW(cq)(a nm)(ts):(ev (bC gz T) (n+17)).b (fX 1405) (KO 0) (xj (bV "integer" cq a) ts nm ss)=.ok false (xj (bV "integer" cq a) ts nm ss):=by kernel_rfl
theorem NV(cq)(a nm)(ts):(ev (bC gz T) (n+17)).b (fX 1405) (KO 1) (xj (bV "integer" cq a) ts nm ss)=ij (.lst cq) (.lst ((ts.map p2).flatMap (·.2))) .NotEq (xj (bV "integer" cq a) ts nm ss):=by kernel_rfl
theorem NU(cq)(N)(ts)(cI:ts.length<=5)(h0:ts≠[]):(ev (bC gz T) (n+17)).b (fX 1405) (KO 2) (xj (bV "integer" cq (nB ts.length N)) ts (dB N) ss)=.ok false (xj (bV "integer" cq (nB ts.length N)) ts (dB N) ss):=by
 revert ts;obtain _|_:=N<;>exact fP (λh=>absurd rfl h) (λY Y=>by kernel_rfl) (λY Y Y=>by kernel_rfl) (λY Y Y Y=>by kernel_rfl) (λY Y Y Y Y=>by kernel_rfl) (λY Y Y Y Y Y=>by kernel_rfl)
theorem NT(cq)(m)(ts):bL (ev (bC gz T) (n+18)) (fX 1405) (gA 6) (xj (bV "integer" cq (nB m none)) ts .none ss)=.ok (.ret (.bool true)) (xj (bV "integer" cq (nB m none)) ts .none ss):=by kernel_rfl
theorem NS(cq l:LA)(m)(ts):bL (ev (bC gz T) (n+18)) (fX 1405) (gA 6) (xj (bV "integer" cq (nB m (some l))) ts (.lst l) ss)=.ok .next (xj (bV "integer" cq (nB m (some l))) ts (.lst l) ss):=by kernel_rfl
theorem SG(cq l:LA)(m)(ts):bL (ev (bC gz T) (n+18)) (fX 1405) (gA 7) (xj (bV "integer" cq (nB m (some l))) ts (.lst l) ss)=(vl ((vl ((ij (.lst l) (.lst l) .Eq (xj (bV "integer" cq (nB m (some l))) ts (.lst l) ss)).bind λb s=>cZ (.bool b) s)).bind λa s=>cZ a s)).bind λa s=>.ok (.ret a) s:=by kernel_rfl
theorem Jk(hp:qK (ts.map p2))(hN:mI N)(h0:ts≠[])(ss):cA (bC gz T) (n+19) 1405 [.v (Gs (ts.map p2) N),.v (.lst ((ts.map p2).map pv)),.v (dB N)] ss=.ok (.bool true) (.v .none) ss:=by
 have cI:=by have:=hp.ln9;rwa [ah]at this
 unfold Gs;rw[ah];have b:=(NV T n ss _ (nB ts.length N) (dB N) ts).trans (gI (je (Fe hp.plain)) AV.noConfusion);have q5:bL _ _ (gA 5) _=.ok .next _:=
  jG (ll [KO 0,KO 1,KO 2] (by kernel_rfl) (iy (NW ..) (iy b (iy (NU T n ss _ N ts cI h0) rfl))))
 rw[uJ T _,show fB 1405=[gA 0,gA 1,gA 2,gA 3,gA 4]++[gA 5,gA 6,gA 7] by kernel_rfl]
 induction N using i7 with
 |none=>rw[ew (GS T n ss _ _ ts cI h0) (bG q5 (dj (NT ..)))];rfl
 |some l=>
  rw[ew (GS T n ss _ _ ts cI h0) (bG q5 (bG (NS ..) (dj ((SG ..).trans (by rw[ku (show(i6 4 (.lst l)).isSome=true from hN)];rfl)))))];rfl
end
theorem GK.ok{m:Nat}(h:GK N m):mI N:=by
 induction N using i7 with
 |none=>rfl
 |some l=>exact je (List.all_eq_true.mpr λa ha=>by refine cF ((h l rfl).2 a ha) ?_;rintro s rfl;rfl)
def MT(T:cK):Prop:=∀(ps:LP) (N:OA) (ss:OA),qK ps->GK N ps.length->T 1405 [.v (j9 ps N),.v (.lst (ps.map pv)),.v (dB N)] ss=.ok (.bool true) (.v .none) ss
theorem SH{T:cK}(hT:me T):MT (cA (bC gz T) 20):=λps N ss hp hN=>by
 unfold j9
 split
 ·next h=>exact Eo 1 hT hp hN.ok h ss
 ·next h=>
  split
  ·next h2=>
   refine cF (Ii hp.shp (jS h2 (by decide))) ?_;rintro ts rfl
   exact Jk T 1 hp hN.ok (λe=>wg h2 (by decide) (by rw[e];rfl)) ss
  ·next h2=>exact Ep 1 hT hp hN.ok h h2 ss
def yZ(fs:List Int)(k:Int)(nb rb:Bool):OA:=match nb,rb with
 |false,false=>if k=0 then none else some (fs.map (cP k))
 |_,_=>HW nb fs.length
theorem N2(fs)(k)(nb rb):dB (yZ fs k nb rb)=uK fs k nb rb:=by
 unfold yZ uK;obtain _|_:=nb<;>obtain _|_:=rb<;>first|exact zZ .. |(dsimp only;split<;>rfl)
theorem z0(nb){m:Nat}(hm:m<=5):GK (HW nb m) m:=λl e=>by
 induction nb using i8 with
 |false=>exact c8 e
 |true=>
  obtain rfl:=oI e;have:m=0\/m=1\/m=2\/m=3\/m=4\/m=5:=by lia
  refine⟨by obtain rfl|rfl|rfl|rfl|rfl|rfl:=this<;>rfl,λa ha=>?_⟩
  have:=List.mem_of_mem_take ha
  unfold Qy at this;simp only[List.mem_cons,List.not_mem_nil,or_false]at this;obtain rfl|rfl|rfl|rfl|rfl:=this<;>exact⟨_,rfl⟩
theorem zV(cI:fs.length<=5){k:Int}(hk:k=0\/k=1)(nb rb):GK (yZ fs k nb rb) fs.length:=by
 unfold yZ;obtain _|_:=nb<;>obtain _|_:=rb
 ·obtain rfl|rfl:=hk
  ·exact λY e=>nomatch e
  ·exact λl e=>by
    obtain rfl:=aJ e;exact⟨ah ..,λa ha=>by refine bW (List.mem_map.mp ha) ?_;rintro x _ rfl;exact⟨_,rfl⟩⟩
 all_goals exact z0 _ cI
theorem GP(fs)(cI:fs.length<=5){k:Int}(hk:k=0\/k=1)(nb rb)(ss):TA 582 [.v (tY fs k nb rb),.v (.bool true)] ss=.ok (dB (yZ fs k nb rb)) (.v .none) ss:=by
 revert fs;obtain rfl|rfl:=hk<;>obtain _|_:=nb<;>obtain _|_:=rb<;>exact fP
noncomputable def vU:List Addr:=[561,575,582,954]
abbrev uh(i:Nat):Stmt:=cM (fB 968) i
abbrev Q9(v f:AV)(ss:OA)(tl:LO):S:=⟨[],("interp",.v cu)::("args",.v (.lst [.tup [.none,v],.tup [.str "FUN",f]]))::("env",.v bP)::tl,ss,none⟩
abbrev nr(v f:AV)(ss:OA)(tl:LO):S:=Q9 v f ss (("v",.v v)::("f",.v f)::("rest",.v (.lst []))::("simplify",.v .none)::("named",.v .none)::tl)
section
variable(T:cK)(n:Nat)(k:Str)(xs:LA)(a:AV)(nm:Str)(c:AV)(ss:OA)
theorem Jo(v f):cA (bC vU T) (n+1) 968 [.v cu,.v (.lst [.tup [.none,v],.tup [.str "FUN",f]]),.v bP] ss=ey 968 (bO (ev (bC vU T) n) (fX 968) (fB 968) (Q9 v f ss [])):=by kernel_rfl
theorem N8:bO (ev (bC vU T) (n+30)) (fX 968) ((fB 968).take 3) (Q9 (bV k xs a) (cb nm c) ss [])=.ok .next (nr (bV k xs a) (cb nm c) ss []):=by kernel_rfl
theorem SN(v f fo nv):bL (ev (bC vU T) (n+30)) (fX 968) (uh 5) (nr v f ss [("found",.v fo),("names",.v nv)])=bO (ev (bC vU T) (n+29)) (fX 968) [cM (cU (uh 5)) 0] (nr v f ss [("found",.v fo),("names",.v nv)]):=by kernel_rfl
theorem N7{T:cK}{oO:LA}{nv r:AV}(h1:T 561 [.v (bV k xs a)] ss=.ok (.lst cq) (.v .none) ss)(h2:T 575 [.v cu,.v (cb nm c),.v (.lst cq),.v (.lst []),.v bP] ss=.ok (.lst oO) (.v .none) eG)(h3:T 582 [.v (bV k xs a),.v (.bool true)] eG=.ok nv (.v .none) eG)(h4:T 954 [.v (.lst oO),.v nv] eG=.ok r (.v .none) eG):
  cA (bC vU T) (n+31) 968 [.v cu,.v (.lst [.tup [.none,bV k xs a],.tup [.str "FUN",cb nm c]]),.v bP] ss=.ok r (.v .none) eG:=by
 rw[Jo T (n+30),show fB 968=(fB 968).take 3++[uh 3,uh 4,uh 5,uh 6] by kernel_rfl]
 have e2:(ev (bC vU T) (n+29)).e (fX 968) (dE (bX (bN (uh 3))) 2) (nr (bV k xs a) (cb nm c) ss [])=.ok (.v (.lst cq)) (nr (bV k xs a) (cb nm c) ss []):=cX h1 (by kernel_rfl)
 have e0:(ev (bC vU T) (n+29)).e (fX 968) (dE (bX (bN (uh 3))) 0) (nr (bV k xs a) (cb nm c) ss [])=.ok (.v cu) (nr (bV k xs a) (cb nm c) ss []):=by kernel_rfl
 have ar:bY (ev (bC vU T) (n+29)) (fX 968) false (bX (bN (uh 3))) (nr (bV k xs a) (cb nm c) ss [])=.ok [.v cu,.v (cb nm c),.v (.lst cq),.v (.lst []),.v bP] (nr (bV k xs a) (cb nm c) ss []):=by
  rw[show bX (bN (uh 3))=dE (bX (bN (uh 3))) 0::dE (bX (bN (uh 3))) 1::dE (bX (bN (uh 3))) 2::(bX (bN (uh 3))).drop 3 by kernel_rfl]
  exact cE e0 (cE (by kernel_rfl) (cE e2 (by kernel_rfl)))
 have q4:bL (ev (bC vU T) (n+30)) (fX 968) (uh 4) (nr (bV k xs a) (cb nm c) eG [("found",.v (.lst oO))])=.ok .next (nr (bV k xs a) (cb nm c) eG [("found",.v (.lst oO)),("names",.v nv)]):=dW (cX h3 (by kernel_rfl)) (by kernel_rfl)
 rw[ew (N8 T n k xs a nm c ss) (bG (dW (dX (n:=n+29) ar h2) (by kernel_rfl)) (bG q4 (dj ((SN T n eG _ _ _ _).trans (dj (g8 (cX h4 (by kernel_rfl))))))))]
 rfl
end
def TP:cK:=λa os ss=>match Nat.beq a 954 with|true=>TS a os ss|false=>GI a os ss
def MU(T:cK):Prop:=∀(fs:List Int) (k fo:Int) (nb rb:Bool) (ss:LA),(∀x∈fs,eO x)->fs.length<=5->(k=0\/k=1)->eO fo->ss.length<=50->
 T 968 [.v cu,.v (.lst [.tup [.none,tY fs k nb rb],.tup [.str "FUN",cb "f" (gY fo)]]),.v bP] (some ss)=.ok (j9 (fs.map (pr fo)) (yZ fs k nb rb)) (.v .none) (some (ss++fs.map .int))
theorem SK:MU (cA (bC vU TP) 40):=λfs k fo nb rb ss hf cI hk hfo l=>
 N7 9 _ _ _ _ _ _ (pL fs cI k hk nb rb _) (Hu hfo hk fs hf cI ss l) (GP fs cI hk nb rb _) (by
  have:=Ji (wb hfo hf cI) (by rw[ah];exact zV cI hk nb rb) (some (ss++fs.map .int))
  rw[KP]at this;exact this)
structure W where
 o1:OV
 o2:OV
 fo:Int
 ma:AV
 ki:AV
 fi:AV
 it:AV
 nm:AV
 ro:AV
 v:AV
 f:AV
 vs:AV
 sh:AV
abbrev M0(w:W)(hd bB sh:OV)(ss:LA)(dl:Nat)(tl:LO):S:=⟨[],("script",w.o1)::("cells",w.o2)::("hand",hd)::("interp",.v cu)::("form",.k (.int w.fo))::("many",.v w.ma)::("kind",.v w.ki)::("figures",.v w.fi)::("items",.v w.it)::("names",.v w.nm)::("as_rows",.v w.ro)::("v",.v w.v)::("seen",.k .seen)::("called",.v (gY w.fo))::("f",.v w.f)::("values",.v w.vs)::("told",bB)::("shown",sh)::tl,some ss,some dl⟩
abbrev Ma(w:W)(hd bB:OV)(ss:LA)(dl:Nat)(tl:LO):S:=M0 w hd bB (.v w.sh) ss dl tl
noncomputable def uC(e:Expr):Expr:=dE (kE e).1 0
theorem zY{n:Nat}(h0:(ev O (n+2)).b cx e s=((vl ((ev O n).e cx (uC e) s)).bind λa s=>(match gZ a with|some b=>R.ok b s|none=>.no)).bind λb s=>.ok (!b) s)(he:(ev O n).e cx (uC e) s=.ok (.v (.bool b)) s1):(ev O (n+2)).b cx e s=.ok (!b) s1:=by
 rw[h0,he];rfl
abbrev DO:Expr:=dE (j4 (cB (sT 19))) 0
abbrev Mu:Expr:=dE (j4 (cB (sT 19))) 1
section
variable(T:cK)(n:Nat)(w:W)(hd bB:OV)
theorem R1(ss xs:LA)(cI:xs.length<=5)(hw:w.fi=.lst xs):(eL T (n+19)).b lX Mu (Ma w hd bB ss 1357 [])=(match eK (.lst ss) (.lst (xs++(xs++[])))with|some t=>.ok (!t) (Ma w hd bB ss 1357 [])|none=>.no):=by
 cases w;subst hw
 revert xs;exact fP
theorem Tt{T:cK}{w:W}(cI:fs.length<=5)(hw:w.fi=.lst (fs.map .int))(h:T 968 [.v cu,.v (.lst [.tup [.none,w.v],.tup [.str "FUN",w.f]]),.v bP] (some (fs.map .int))=.ok r1 (.v .none) (some (fs.map .int++fs.map .int)))(h2:T 1405 [.v r1,.v w.vs,.v w.sh] (some (fs.map .int++fs.map .int))=.ok (.bool true) (.v .none) (some (fs.map .int++fs.map .int)))(sh)(hs:sh=.v w.sh\/∃l,sh=.ol l/\w.sh=.lst l):
  xL T n (sT 19) (M0 w hd bB sh (fs.map .int) 1357 [])=.ok .next (Ma w hd bB (fs.map .int++fs.map .int) 1357 []):=by
 have c:(eL T (n+16)).e lX (eB (uC DO)) (M0 w hd bB sh _ 1357 [])=.ok _ (M0 w hd bB sh (fs.map .int++fs.map .int) 1357 []):=cX h (by kernel_rfl)
 have ar:bY (eL T (n+16)) lX false (bX (uC DO)) (M0 w hd bB sh (fs.map .int) 1357 [])=.ok [.v r1,.v w.vs,.v w.sh] (Ma w hd bB (fs.map .int++fs.map .int) 1357 []):=by
  rw[show bX _=eB _::(bX (uC DO)).drop 1 by kernel_rfl]
  refine cE c ?_;obtain rfl|⟨l,rfl,e⟩:=hs
  ·kernel_rfl
  ·cases w;subst e;kernel_rfl
 have b:=(R1 T n w hd bB (fs.map .int++fs.map .int) _ (by rw[ah];exact cI) hw).trans (by rw[aU,gR (je (by rw[List.all_append,wL];rfl))])
 exact jG (ll [DO,Mu] (by kernel_rfl) (iy (zY (b:=true) (by kernel_rfl) (dX ar h2)) (iy b rfl)))
end
theorem cg{f g:Z->β}(l:List Z)(h:l.map f=l.map g:=by kernel_rfl):∀a∈l,f a=g a:=List.map_inj_left.mp h
theorem DD(l:List AV)(h:l.length<=4):∃a b c d,l=[a,b,c,d].take l.length:=match l,h with
 |[],_=>(xF AV.none AV.none AV.none AV.none rfl)
 |[a],_=>(xF a AV.none AV.none AV.none rfl)
 |[a,b],_=>(xF a b AV.none AV.none rfl)
 |[a,b,c],_=>(xF a b c AV.none rfl)
 |[a,b,c,d],_=>(xF a b c d rfl)
 |a::b::c::d::e::l,h=>absurd h (by simp only[aM];lia)
noncomputable def n5:List Nat:=[0,1,2,3,4]
theorem hB{i:Nat}(h:i<=4):i∈n5:=(by decide:∀m∈List.range 5,m∈n5) i (List.mem_range.mpr (Nat.lt_succ_of_le h))
noncomputable def dN(mo:Nat):Str×LA:=match mo with
 |0=>("integer",[.int 0])
 |1=>("integer",[.int 0,.int 0])
 |_=>("character",[.str ""])
theorem si(h:mo<3):mo∈[0,1,2]:=by
 have:=Iu h
 obtain rfl|rfl|rfl:=this<;>decide
theorem Rg{i:Nat}(hi:i<=4)(gV:mo<3):(i,mo)∈n5.flatMap (λi=>[0,1,2].map λmo=>(i,mo)):=List.mem_flatMap.mpr (cf i (hB hi) (List.mem_map.mpr (cf mo (si gV) rfl)))
def mS(mo i:Nat)(p:Str×LA):Option Str:=match Nat.beq p.2.length (dN mo).2.length with
 |false=>some (("values must be length ":Str)++fj (dN mo).2.length++",\n but FUN(X[["++fj ((i:Int)+1)++"]]) result is length "++fj p.2.length)
 |true=>(match dM p.1 (dN mo).1 with
  |false=>some (("values must be type '":Str)++(dN mo).1++"',\n but FUN(X[["++fj ((i:Int)+1)++"]]) result is type '"++p.1++"'")
  |true=>none)
noncomputable def fV(mo:Nat):Nat->LP->Option Str
 |_,[]=>none
 |i,p::l=>match mS mo i p with|some m=>some m|none=>fV mo (i+1) l
noncomputable def rS(d:Option Str):AV:=.str (d.getD "")
abbrev La:List Stmt:=cU (sT 22)
abbrev QH:Stmt:=cM La 0
abbrev Rv:Stmt:=cM (kh QH) 0
theorem HG(h:rc.b cx e s=.ok false s1):fy rc cx .And (e::l) s=.ok false s1:=by
 show(rc.b cx e s).bind _=_
 rw[h];rfl
section
variable(T:cK)(n:Nat)(w:W)(hd bB:OV)(ss:LA)
theorem VC(cs)(i h2 h3):xL T n (sT 20) (Ma w (cT cs i h2 h3) bB ss 1357 [])=((vl ((T 1374 [cT cs i h2 h3,.v (.int 3)] (some ss)).toL "hand" (Ma w (cT cs i h2 h3) bB ss 1357 []))).bind λk s=>fw (.lst [pv (dN 0),pv (dN 1),pv (dN 2)]) k s).bind λo s=>aL T n (cV (sT 20)) o s:=by kernel_rfl
theorem VM(a):aL T n (cV (sT 20)) (.v a) (Ma w hd bB ss 1357 [])=.ok .next (Ma w hd bB ss 1357 [("model",.v a)]):=by kernel_rfl
theorem Tr{T:cK}(hT:fH T)(h:dx):∃mo h',mo<3/\xL T n (sT 20) (Ma w h.o bB ss 1357 [])=.ok .next (Ma w (dx.o h') bB ss 1357 [("model",.v (pv (dN mo)))]):=by
 refine dR (hT h 3 (some ss) (.inr (.inl rfl))) λd h' e d0 d1=>(cz d.toNat h' (by lia) ?_)
 unfold dx.o at e⊢;rw[VC,e];have:d=0\/d=1\/d=2:=by lia
 obtain rfl|rfl|rfl:=this<;>exact VM T n w _ bB ss _
theorem Tq(m):xL T n (sT 21) (Ma w hd bB ss 1357 [("model",m)])=.ok .next (Ma w hd bB ss 1357 [("model",m),("due",.v (.str ""))]):=by kernel_rfl
abbrev gn(w:W)(hd bB:OV)(ss:LA)(mo:Nat)(d:AV)(tl:LO):S:=Ma w hd bB ss 1357 (("model",.v (pv (dN mo)))::("due",.v d)::tl)
def zr(a:AV)(s:S):R Fl:=(aL T n (iT (sT 22)) (.v a) s).bind λY s=>(eL T (n+20)).x lX La s
theorem VB(mo m:Nat)(hm:m<=5)(d)(hw:w.ma=.int m):xL T n (sT 22) (gn w hd bB ss mo d [])=ek (zr T n) ((List.range m).map λ(k:Nat)=>AV.int (k:Int)) (gn w hd bB ss mo d []):=by
 cases w;subst hw
 have:m=5\/m<=4:=by lia
 obtain rfl|h:=this
 ·kernel_rfl
 ·exact cg (f:=λm:Nat=>xL T n _ (gn ⟨_,_,_,.int m,_,_,_,_,_,_,_,_,_⟩ hd bB ss mo d [])) (g:=λm:Nat=>ek _ ((List.range m).map λ(k:Nat)=>AV.int k) (gn ⟨_,_,_,.int m,_,_,_,_,_,_,_,_,_⟩ hd bB ss mo d [])) n5 (by kernel_rfl) m (hB h)
def d6(tl:LO):Prop:=tl=[]\/∃b,tl=[(("at":Str),OV.v b)]
theorem LQ(a d:AV)(mo:Nat)(tl:LO)(ht:d6 tl):aL T n (iT (sT 22)) (.v a) (gn w hd bB ss mo d tl)=.ok .next (gn w hd bB ss mo d [("at",.v a)]):=by
 obtain rfl|⟨b,rfl⟩:=ht<;>kernel_rfl
theorem TU(a b c d)(rest:LA){p:Str×LA}(hp:lU p):∀q∈n5.flatMap (λi=>[0,1,2].map λmo=>(i,mo)),w.vs=.lst (([a,b,c,d].take q.1)++pv p::rest)->bO (eL T (n+19)) lX La (gn w hd bB ss q.2 (.str "") [("at",.v (.int q.1))])=.ok .next (gn w hd bB ss q.2 (rS (mS q.2 q.1 p)) [("at",.v (.int q.1))]):=by
 intro q hq hw;cases w;subst hw;obtain _|_:=hp<;>exact cg (f:=λq:Nat×Nat=>bO _ lX La (gn ⟨_,_,_,_,_,_,_,_,_,_,_,.lst (([a,b,c,d].take q.1)++pv (_,_)::rest),_⟩ hd bB ss q.2 _ [("at",.v (.int q.1))])) (g:=λq:Nat×Nat=>.ok .next (gn ⟨_,_,_,_,_,_,_,_,_,_,_,.lst (([a,b,c,d].take q.1)++pv (_,_)::rest),_⟩ hd bB ss q.2 (rS (mS q.2 q.1 (_,_))) [("at",.v (.int q.1))])) _ (by kernel_rfl) q hq
theorem Sl(a)(mo){m:Str}(hm:dM m ""=false):bO (eL T (n+19)) lX La (gn w hd bB ss mo (.str m) [("at",.v a)])=.ok .next (gn w hd bB ss mo (.str m) [("at",.v a)]):=by
 have q:∀k,(ev (bC eT T) (k+17)).b lX (dE (j4 (cB QH)) 0) (gn w hd bB ss mo (.str m) [("at",.v a)])=.ok (dM m "") (gn w hd bB ss mo (.str m) [("at",.v a)]):=λk=>by kernel_rfl
 have q2:∀k,(ev (bC eT T) (k+17)).b lX (dE (j4 (cB Rv)) 0) (gn w hd bB ss mo (.str m) [("at",.v a)])=.ok (dM m "") (gn w hd bB ss mo (.str m) [("at",.v a)]):=λk=>by kernel_rfl
 rw[hm]at q q2;refine Eq.trans (b:=bO _ lX [QH] _) (by kernel_rfl) (bG (mJ ((show(eL T (n+19)).b lX _ (gn w hd bB ss mo (.str m) [("at",.v a)])=fy _ lX .And [dE _ 0,dE (j4 (cB QH)) 1] _ by kernel_rfl).trans (HG (q (n+1)))) ?_) rfl)
 exact bG (jG ((show(eL T (n+18)).b lX (cB Rv) (gn w hd bB ss mo (.str m) [("at",.v a)])=fy _ lX .And [dE _ 0,dE (j4 (cB Rv)) 1] _ by kernel_rfl).trans (HG (q2 n)))) rfl
theorem OK{i:Nat}{p:Str×LA}{m:Str}(hp:lU p)(gV:mo<3)(hi:i<=4)(h:mS mo i p=some m):dM m ""=false:=by
 have:∀q∈n5.flatMap (λi=>[0,1,2].map λmo=>(i,mo)),(match mS q.2 q.1 p with|some m=>dM m ""|none=>false)=false:=by
  induction hp using lU.casesOn<;>exact cg _
 have:=this _ (Rg hi gV)
 rw[show mS (i,mo).2 (i,mo).1 p=some m from h]at this
 exact this
end
theorem Uw(T:cK)(n:Nat){w:W}(hd bB:OV)(ss:LA)(mo:Nat){m:Str}(hm:dM m ""=false):∀(xs:LA) (tl:LO),d6 tl->∃eY,d6 eY/\(eY=[]↔xs=[]/\tl=[])/\ek (zr T n) xs (gn w hd bB ss mo (.str m) tl)=.ok .next (gn w hd bB ss mo (.str m) eY):=by
 intro xs;induction xs with
 |nil=>intro tl ht;exact(ej tl ht ⟨λh=>⟨rfl,h⟩,λh=>h.2⟩ rfl)
 |cons a l ih=>
  intro tl ht;refine dI (ih [("at",.v a)] (.inr ⟨a,rfl⟩)) λeY t1 t2 e=>?_;refine(ej eY t1 ⟨λh=>absurd (t2.mp h).2 (by intro z;injection z),λh=>absurd h.1 (by intro z;injection z)⟩ ?_)
  show(zr T n a _).bind _=_
  unfold zr;rw[LQ T n w hd bB ss _ _ mo tl ht,c0,oY,Sl T n w hd bB ss _ mo hm];exact e
theorem Uv(T:cK)(n:Nat){w:W}(hd bB:OV)(ss:LA)(gV:mo<3):∀(pA ei:LP) (tl:LO),w.vs=.lst ((ei++pA).map pv)->(∀p∈pA,lU p)->(ei++pA).length<=5->d6 tl->∃eY,d6 eY/\(eY=[]↔pA=[]/\tl=[])/\ek (zr T n) ((List.range' ei.length pA.length).map λ(k:Nat)=>AV.int (k:Int)) (gn w hd bB ss mo (.str "") tl)=.ok .next (gn w hd bB ss mo (rS (fV mo ei.length pA)) eY):=by
 intro pA;induction pA with
 |nil=>intro ei tl _ _ _ ht;exact(ej tl ht ⟨λh=>⟨rfl,h⟩,λh=>h.2⟩ rfl)
 |cons p l ih=>
  intro ei tl hw hp cI ht;rw[aw,aM]at cI;have e:ek (zr T n) ((List.range' ei.length (p::l).length).map λ(k:Nat)=>AV.int (k:Int)) (gn w hd bB ss mo (.str "") tl)=(zr T n (.int ei.length) (gn w hd bB ss mo (.str "") tl)).bind λfl s=>(match fl with| .next=>ek (zr T n) _ s| .brk=>.ok .next s| .ret v=>.ok (.ret v) s):=rfl
  have b:zr T n (.int ei.length) (gn w hd bB ss mo (.str "") tl)=.ok .next (gn w hd bB ss mo (rS (mS mo ei.length p)) [("at",.v (.int ei.length))]):=by
   refine zS (DD (ei.map pv) (by rw[ah];lia)) λa b c d q=>?_
   rw[ah]at q;unfold zr;rw[LQ T n w hd bB ss _ _ mo tl ht,oY];exact TU T n w hd bB ss a b c d (l.map pv) (hp p (.head _)) (ei.length,mo) (Rg (by lia) gV) (by rw[hw,List.map_append,<-q];rfl)
  rw[e,b];show∃eY,d6 eY/\(eY=[]↔p::l=[]/\tl=[])/\ek (zr T n) _ _=.ok .next (gn w hd bB ss mo (rS (match mS mo ei.length p with|some m=>some m|none=>fV mo (ei.length+1) l)) eY)
  have ne:∀eY:LO,(eY=[]↔l.length=0/\[(("at":Str),OV.v (AV.int ei.length))]=[])->(eY=[]↔p::l=[]/\tl=[]):=λeY h=>⟨λz=>absurd (h.mp z).2 (by intro y;injection y),λz=>absurd z.1 (by intro y;injection y)⟩
  generalize r:mS mo ei.length p=zz;induction zz using i7 with
  |some m=>
   refine dI (Uw T n (w:=w) hd bB ss mo (OK (hp p (.head _)) gV (by lia) r) ((List.range' (ei.length+1) l.length).map λ(k:Nat)=>AV.int (k:Int)) [("at",.v (.int ei.length))] (.inr ⟨_,rfl⟩)) λeY t1 t2 e2=>?_
   exact(ej eY t1 (ne eY (t2.trans (by rw[List.map_eq_nil_iff,List.range'_eq_nil_iff]))) e2)
  |none=>
   refine dI (ih (ei++[p]) [("at",.v (.int ei.length))] (by rw[hw,bj];rfl) (λy hy=>hp y (.tail _ hy)) (by rw[aw,aw,aT];lia) (.inr ⟨_,rfl⟩)) λeY t1 t2 e2=>?_
   rw[aw]at e2;exact(ej eY t1 (ne eY (t2.trans (by rw[List.length_eq_zero_iff]))) e2)
theorem Tp{T:cK}(n){w:W}(hd bB)(ss)(gV:mo<3)(hp:∀p∈ps,lU p)(cI:ps.length<=5)(hm:w.ma=.int ps.length)(hw:w.vs=.lst (ps.map pv)):∃tl,d6 tl/\xL T n (sT 22) (gn w hd bB ss mo (.str "") [])=.ok .next (gn w hd bB ss mo (rS (fV mo 0 ps)) tl):=by
 refine dI (Uv T n hd bB ss gV ps [] [] hw hp cI (.inl rfl)) λtl t1 Y e=>(cf tl t1 ((VB T n w hd bB ss mo ps.length cI _ hm).trans ?_))
 rw[List.range_eq_range'];exact e
section
variable{n:Nat}{l:List Addr}{T:cK}{a:Addr}
theorem Kt{x v:AV}{b:OV}{cl:LE}(ha:bY (ev (bC l T) n) cx false (bX e) ⟨cl,loc,ss,dl⟩=.ok os ⟨cl,loc,ss,dl⟩)(hT:T a (.v x::os) ss=.ok v b eG)(h0:(ev (bC l T) (n+1)).e cx e ⟨cl,loc,ss,dl⟩=(bY (ev (bC l T) n) cx false (bX e) ⟨cl,loc,ss,dl⟩).bind λos s=>(T a ([x].map OV.v++os) s.ss).toR s λv Y s=>cZ v s:=by kernel_rfl):(ev (bC l T) (n+1)).e cx e ⟨cl,loc,ss,dl⟩=.ok (.v v) ⟨cl,loc,eG,dl⟩:=by
 rw[h0,ha];show(T a (.v x::os) ss).toR _ _=_;rw[hT];rfl
theorem A7{m:AV}{cl:LE}(h0:(ev (bC l T) (n+1)).e cx e ⟨cl,loc,ss,dl⟩=(bY (ev (bC l T) n) cx false (bX e) ⟨cl,loc,ss,dl⟩).bind λos s=>(T a (([]:LA).map OV.v++os) s.ss).toR s λv Y s=>cZ v s)(hT:T a os ss=.exc m eG)(ha:bY (ev (bC l T) n) cx false (bX e) ⟨cl,loc,ss,dl⟩=.ok os ⟨cl,loc,ss,dl⟩):(ev (bC l T) (n+1)).e cx e ⟨cl,loc,ss,dl⟩=.exc m ⟨cl,loc,eG,dl⟩:=by
 rw[h0,ha];show(T a os ss).toR _ _=_;rw[hT];rfl
theorem Pm{sT:Stmt}{m:AV}(h0:bL rc cx sT s=(rc.e cx (bN sT) s).bind λY s=>.ok .next s)(he:rc.e cx (bN sT) s=.exc m s1):bL rc cx sT s=.exc m s1:=by
 rw[h0,he];rfl
theorem Au{sT:Stmt}{l:List Stmt}{m:AV}(h:bL rc cx sT s=.exc m s'):bO rc cx (sT::l) s=.exc m s':=by
 show(bL rc cx sT s).bind _=_
 rw[h];rfl
end
def QP(mo i:Nat)(p:Str×LA)(ss:OA):C:=match mS mo i p with|some m=>.exc (.str m) ss|none=>.ok .none (.v .none) ss
theorem PR{p:Str×LA}(hp:lU p){i:Nat}(gV:mo<3)(hi:i<=4)(ss):TA 975 [.v (pv p),.v (pv (dN mo)),.v (.int i)] ss=QP mo i p ss:=by
 have:∀q∈n5.flatMap (λi=>[0,1,2].map λmo=>(i,mo)),TA 975 [.v (pv p),.v (pv (dN q.2)),.v (.int q.1)] ss=QP q.2 q.1 p ss:=by
  induction hp using lU.casesOn<;>exact cg _
 exact this (i,mo) (Rg hi gV)
theorem wJ{i:Nat}{p:Str×LA}(hp:lU p)(gV:mo<3)(h:mS mo i p=none):p.1=(dN mo).1/\p.2.length=(dN mo).2.length:=by
 unfold mS at h
 split at h
 ·exact zi h
 ·next q=>
  split at h
  ·exact zi h
  ·next r=>exact⟨cR.mp r,bo q⟩
theorem J4(ts)(cI:ts.length<=5)(h0:ts≠[])(N)(ss):TA 987 [.v (.lst ((ts.map p2).map pv)),.v (pv (dN 1)),.v (dB N)] ss=.ok (Gs (ts.map p2) N) (.v .none) ss:=by
 revert ts;obtain _|_:=N<;>exact fP (λh=>absurd rfl h) (λY Y=>by kernel_rfl) (λY Y Y=>by kernel_rfl) (λY Y Y Y=>by kernel_rfl) (λY Y Y Y Y=>by kernel_rfl) (λY Y Y Y Y Y=>by kernel_rfl)
noncomputable def jz:List Addr:=[561,1346,975,895,582,987]
abbrev gU(i:Nat):Stmt:=cM (fB 980) i
abbrev Qs(v f:AV)(mo:Nat)(ss:OA)(tl:LO):S:=⟨[],("interp",.v cu)::("args",.v (.lst [.tup [.none,v],.tup [.none,f],.tup [.none,pv (dN mo)]]))::("env",.v bP)::tl,ss,none⟩
abbrev xw(v f:AV)(mo:Nat)(ss:OA)(tl:LO):S:=Qs v f mo ss (("v",.v v)::("f",.v f)::("form",.v (pv (dN mo)))::("rest",.v (.lst []))::("named",.v .none)::tl)
abbrev d8(v f:AV)(mo:Nat)(cq:LA)(fo:OV)(ss:OA)(tl:LO):S:=xw v f mo ss (("values",.v (.lst cq))::("found",fo)::tl)
abbrev yY(i:Nat):Stmt:=cM (cU (gU 6)) i
section
variable(T:cK)(n:Nat)(k:Str)(xs:LA)(a:AV)(nm:Str)(c:AV)(ss:OA)
theorem I3(v f)(mo):cA (bC jz T) (n+1) 980 [.v cu,.v (.lst [.tup [.none,v],.tup [.none,f],.tup [.none,pv (dN mo)]]),.v bP] ss=ey 980 (bO (ev (bC jz T) n) (fX 980) (fB 980) (Qs v f mo ss [])):=by kernel_rfl
theorem GN(gV:mo<3):bO (ev (bC jz T) (n+30)) (fX 980) ((fB 980).take 4) (Qs (bV k xs a) (cb nm c) mo ss [])=.ok .next (xw (bV k xs a) (cb nm c) mo ss []):=by
 have:∀mo∈[0,1,2],bO (ev (bC jz T) (n+30)) (fX 980) ((fB 980).take 4) (Qs (bV k xs a) (cb nm c) mo ss [])=.ok .next (xw (bV k xs a) (cb nm c) mo ss []):=cg _
 exact this mo (si gV)
variable(v f:AV)(mo:Nat)
theorem LM(cq:LA):bL (ev (bC jz T) (n+30)) (fX 980) (gU 5) (xw v f mo ss [("values",.v (.lst cq))])=.ok .next (d8 v f mo cq (.ol []) ss []):=by kernel_rfl
def HR(a:AV)(s:S):R Fl:=(bR (ev (bC jz T) (n+30)) (fX 980) (iT (gU 6)) (.v a) s).bind λY s=>(ev (bC jz T) (n+30)).x (fX 980) (cU (gU 6)) s
theorem Sh(cq)(cI:cq.length<=5):bL (ev (bC jz T) (n+30)) (fX 980) (gU 6) (d8 v f mo cq (.ol []) ss [])=ek (HR T n) ((List.range cq.length).map λ(k:Nat)=>AV.int (k:Int)) (d8 v f mo cq (.ol []) ss []):=by
 revert cq;exact fP
def uF(tl:LO):Prop:=tl=[]\/∃a b,tl=[(("place":Str),OV.v a),("value",.v b)]
theorem Sg{fo:OV}(ht:uF tl)(b:AV):∃eY,(eY=[]\/∃b,eY=[(("value":Str),OV.v b)])/\bR (ev (bC jz T) (n+30)) (fX 980) (iT (gU 6)) (.v b) (d8 v f mo cq fo ss tl)=.ok .next (d8 v f mo cq fo ss (("place",.v b)::eY)):=by
 obtain rfl|⟨a,b',rfl⟩:=ht
 ·exact(cf ([]) (.inl rfl) (by kernel_rfl))
 ·exact(cf ([("value",.v b')]) (.inr ⟨_,rfl⟩) (by kernel_rfl))
theorem Nr{T:cK}{ss:OA}{x0 x1 x2 x3 it We:AV}{fo:OV}{b:OV}(ht:tl=[]\/∃b,tl=[(("value":Str),OV.v b)])(h:T 1346 [.v cu,.v f,.v (.lst [.tup [.none,it]]),.v bP] ss=.ok We b eG){i:Nat}(hi:i<=4):bL (ev (bC jz T) (n+29)) (fX 980) (yY 0) (d8 v f mo ([x0,x1,x2,x3].take i++it::rest) fo ss (("place",.v (.int i))::tl))=.ok .next (d8 v f mo ([x0,x1,x2,x3].take i++it::rest) fo eG [("place",.v (.int i)),("value",.v We)]):=by
 have ar:∀i∈n5,bY (ev (bC jz T) (n+28)) (fX 980) false (bX (bN (yY 0))) (d8 v f mo ([x0,x1,x2,x3].take i++it::rest) fo ss (("place",.v (.int i))::tl))=.ok [.v f,.v (.lst [.tup [.none,it]]),.v bP] (d8 v f mo ([x0,x1,x2,x3].take i++it::rest) fo ss (("place",.v (.int i))::tl)):=by
  obtain rfl|⟨b,rfl⟩:=ht<;>exact cg _
 have ar:=ar i (hB hi)
 obtain rfl|⟨b,rfl⟩:=ht<;>exact dW (Kt ar h) (by kernel_rfl)
theorem Nq{T:cK}{ss:OA}{fo:LA}{p:Str×LA}(i)(h:T 895 [.v (pv p),.v (.str (dN mo).1),.v (.lst [])] ss=.ok (pv p) (.v .none) ss)(hl:fo.length<=100)(gV:mo<3):bL (ev (bC jz T) (n+29)) (fX 980) (yY 2) (d8 v f mo cq (.ol fo) ss [("place",.v i),("value",.v (pv p))])=.ok .next (d8 v f mo cq (.ol (fo++[pv p])) ss [("place",.v i),("value",.v (pv p))]):=by
 exact(As (o:=.Name "found" ⟨0,0,0,0⟩) (x:="found") (by kernel_rfl) (dX ((show∀mo∈[0,1,2],bY (ev (bC jz T) (n+27)) (fX 980) false (bX (eB (bN (yY 2)))) (d8 v f mo cq (.ol fo) ss [("place",.v i),("value",.v (pv p))])=.ok [.v (pv p),.v (.str (dN mo).1),.v (.lst [])] (d8 v f mo cq (.ol fo) ss [("place",.v i),("value",.v (pv p))])from cg _) mo (si gV)) h) (by kernel_rfl) hl).trans (by kernel_rfl)
end
def Ql(T:cK)(f:AV)(fo k:Int):Prop:=∀(x:Int) (ss:LA),eO x->ss.length<=100->T 1346 [.v cu,.v f,.v (.lst [.tup [.none,gT k x]]),.v bP] (some ss)=.ok (dC fo x) (.v .none) (some (ss++[.int x]))
structure RO(T:cK)(f:AV)(fo k:Int)(mo:Nat):Prop where
 call:Ql T f fo k
 chk:∀(p:Str×List AV) (i:Nat) (ss:Option (List AV)),lU p->i<=4->T 975 [.v (pv p),.v (pv (dN mo)),.v (.int i)] ss=QP mo i p ss
 asK:∀(p:Str×List AV) (ss:Option (List AV)),p.1=(dN mo).1->T 895 [.v (pv p),.v (.str (dN mo).1),.v (.lst [])] ss=.ok (pv p) (.v .none) ss
def HH(f v:AV)(mo:Nat)(cq fo ss:LA)(r:R Fl)(d:Option Str):Prop:=match d with
 |none=>∃eY,uF eY/\r=.ok .next (d8 v f mo cq (.ol fo) (some ss) eY)
 |some m=>∃s' eG,r=.exc (.str m) s'/\s'.ss=some eG/\eG.length<=50
theorem D9{T:cK}(n:Nat){v f:AV}{k:Int}(H:RO T f fo k mo)(gV:mo<3)(hfo:eO fo):∀(pA ei:List Int) (ss:LA) (tl:LO),(∀x∈pA,eO x)->(ei++pA).length<=5->ss.length+pA.length<=40->uF tl->
  HH f v mo ((ei++pA).map (gT k)) ((ei++pA).map (dC fo)) (ss++pA.map .int) (ek (HR T n) ((List.range' ei.length pA.length).map λ(k:Nat)=>AV.int (k:Int)) (d8 v f mo ((ei++pA).map (gT k)) (.ol (ei.map (dC fo))) (some ss) tl)) (fV mo ei.length (pA.map (pr fo))):=by
 intro pA;induction pA with
 |nil=>intro ei ss tl _ _ _ ht;exact(cf tl ht (by rw[aU,List.map_nil,aU];rfl))
 |cons x l ih=>
  intro ei ss tl hf cI hl ht;rw[aw,aM]at cI;have i4:ei.length<=4:=by lia
  have hx:=hf x (.head _)
  refine zS (DD (ei.map (gT k)) (by rw[ah];exact i4)) λa b c d q=>?_
  rw[ah]at q;have cq:(ei++x::l).map (gT k)=[a,b,c,d].take ei.length++gT k x::l.map (gT k):=by rw[List.map_append,aP,q]
  refine bW (Sg T n (some ss) v f mo (cq:=(ei++x::l).map (gT k)) (fo:=.ol (ei.map (dC fo))) ht (.int ei.length)) λXo Yv e1=>?_;have e:ek (HR T n) ((List.range' ei.length (x::l).length).map λ(k:Nat)=>AV.int (k:Int)) (d8 v f mo ((ei++x::l).map (gT k)) (.ol (ei.map (dC fo))) (some ss) tl)=(HR T n (.int ei.length) (d8 v f mo ((ei++x::l).map (gT k)) (.ol (ei.map (dC fo))) (some ss) tl)).bind λfl s=>(match fl with| .next=>ek (HR T n) ((List.range' (ei.length+1) l.length).map λ(k:Nat)=>AV.int (k:Int)) s| .brk=>.ok .next s| .ret v=>.ok (.ret v) s):=rfl
  have q0:=Nr n v f mo (fo:=.ol (ei.map (dC fo))) (rest:=l.map (gT k)) (x0:=a) (x1:=b) (x2:=c) (x3:=d) Yv (H.call x ss hx (by lia)) i4
  rw[<-cq]at q0;have hc:=H.chk (pr fo x) ei.length (some (ss++[.int x])) (uL hfo hx) i4;have u:HR T n (.int ei.length) (d8 v f mo ((ei++x::l).map (gT k)) (.ol (ei.map (dC fo))) (some ss) tl)=bO (ev (bC jz T) (n+29)) (fX 980) [yY 0,yY 1,yY 2] (d8 v f mo ((ei++x::l).map (gT k)) (.ol (ei.map (dC fo))) (some ss) (("place",.v (.int ei.length))::Xo)):=by
   unfold HR;rw[e1,c0,oY,show cU (gU 6)=[yY 0,yY 1,yY 2] by kernel_rfl]
  rw[e,u];show HH f v mo _ _ _ _ (match mS mo ei.length (pr fo x)with|some m=>some m|none=>fV mo (ei.length+1) (l.map (pr fo)))
  unfold QP at hc;generalize r:mS mo ei.length (pr fo x)=zz;induction zz using i7 with
  |some m=>
   rw[r]at hc;have q1:bL (ev (bC jz T) (n+29)) (fX 980) (yY 1) (d8 v f mo ((ei++x::l).map (gT k)) (.ol (ei.map (dC fo))) (some (ss++[.int x])) [("place",.v (.int ei.length)),("value",.v (dC fo x))])=.exc (.str m) (d8 v f mo ((ei++x::l).map (gT k)) (.ol (ei.map (dC fo))) (some (ss++[.int x])) [("place",.v (.int ei.length)),("value",.v (dC fo x))]):=Pm (by kernel_rfl) (A7 (by kernel_rfl) hc (by kernel_rfl))
   rw[bG q0 (Au q1)];exact(eF _ _ rfl rfl (by rw[aw,aT];lia))
  |none=>
   rw[r]at hc;have q1:bL (ev (bC jz T) (n+29)) (fX 980) (yY 1) (d8 v f mo ((ei++x::l).map (gT k)) (.ol (ei.map (dC fo))) (some (ss++[.int x])) [("place",.v (.int ei.length)),("value",.v (dC fo x))])=.ok .next (d8 v f mo ((ei++x::l).map (gT k)) (.ol (ei.map (dC fo))) (some (ss++[.int x])) [("place",.v (.int ei.length)),("value",.v (dC fo x))]):=Pn (cX hc (by kernel_rfl))
   have q2:=Nq n v f mo (cq:=(ei++x::l).map (gT k)) (fo:=ei.map (dC fo)) (p:=pr fo x) (.int ei.length) (H.asK (pr fo x) (some (ss++[.int x])) (wJ (uL hfo hx) gV r).1) (by rw[ah];lia) gV
   have qq:_=R.ok Fl.next _:=bG q0 (bG q1 (bG q2 (rfl:bO _ _ [] (d8 v f mo ((ei++x::l).map (gT k)) (.ol (ei.map (dC fo)++[dC fo x])) (some (ss++[.int x])) [("place",.v (.int ei.length)),("value",.v (dC fo x))])=.ok .next _)))
   rw[qq];have ih:=ih (ei++[x]) (ss++[.int x]) [("place",.v (.int ei.length)),("value",.v (dC fo x))] (λy hy=>hf y (.tail _ hy)) (by rw[aw,aw,aT];lia) (by rw[aw,aT];rw[aM]at hl;lia) (.inr (iY _ _ rfl))
   rw[aw,aT,bj,bj,List.map_append (l₁:=ei) (l₂:=[x])]at ih;exact ih
section
variable(T:cK)(n:Nat)(v f:AV)(ss:OA)
theorem Nx(cq fo:LA)(ht:uF tl)(h:T 582 [.v v,.v (.bool true)] ss=.ok (dB N) (.v .none) ss):bO (ev (bC jz T) (n+30)) (fX 980) [gU 7,gU 8] (d8 v f mo cq (.ol fo) ss tl)=.ok .next (d8 v f mo cq (.ol fo) ss (tl++[(("names":Str),OV.v (dB N))])):=by
 obtain rfl|⟨a,b,rfl⟩:=ht
 ·exact bG (s':=d8 v f mo cq (.ol fo) ss []) (by kernel_rfl) (bG (dW (cX h (by kernel_rfl)) (by kernel_rfl)) rfl)
 ·exact bG (s':=d8 v f mo cq (.ol fo) ss [("place",.v a),("value",.v b)]) (by kernel_rfl) (bG (dW (cX h (by kernel_rfl)) (by kernel_rfl)) rfl)
noncomputable abbrev xh(tl:LO)(N:OA):LO:=tl++[(("names":Str),OV.v (dB N))]
theorem Nw(gV:mo<3)(cq)(ht:uF tl)(N):ey 980 (bO (ev (bC jz T) (n+30)) (fX 980) [gU 9,gU 10,gU 11] (d8 v f mo cq (.ol []) ss (xh tl N)))=.ok (bV (dN mo).1 [] .none) (.v .none) ss:=by
 have:∀mo∈[0,1,2],ey 980 (bO (ev (bC jz T) (n+30)) (fX 980) [gU 9,gU 10,gU 11] (d8 v f mo cq (.ol []) ss (xh tl N)))=.ok (bV (dN mo).1 [] .none) (.v .none) ss:=by
  obtain rfl|⟨a,b,rfl⟩:=ht<;>exact cg _
 exact this mo (si gV)
theorem Nv(gV:mo∈[0,2])(cq as:LA)(cI:as.length<=5)(h0:as≠[])(ht:uF tl)(N):ey 980 (bO (ev (bC jz T) (n+30)) (fX 980) [gU 9,gU 10,gU 11] (d8 v f mo cq (.ol (as.map λa=>bV (dN mo).1 [a] .none)) ss (xh tl N)))=.ok (bV (dN mo).1 as (gM N)) (.v .none) ss:=by
 have:∀mo∈[0,2],ey 980 (bO (ev (bC jz T) (n+30)) (fX 980) [gU 9,gU 10,gU 11] (d8 v f mo cq (.ol (as.map λa=>bV (dN mo).1 [a] .none)) ss (xh tl N)))=.ok (bV (dN mo).1 as (gM N)) (.v .none) ss:=by
  revert as;obtain _|_:=N<;>obtain rfl|⟨a,b,rfl⟩:=ht<;>exact fP (λh=>absurd rfl h) (λY Y=>cg _) (λY Y Y=>cg _) (λY Y Y Y=>cg _) (λY Y Y Y Y=>cg _) (λY Y Y Y Y Y=>cg _)
 exact this mo gV
theorem Nu(cq fo:LA)(h0:∃a l,fo=a::l)(ht:uF tl)(N:OA){r:AV}(h:T 987 [.v (.lst fo),.v (pv (dN 1)),.v (dB N)] ss=.ok r (.v .none) ss):ey 980 (bO (ev (bC jz T) (n+30)) (fX 980) [gU 9,gU 10,gU 11] (d8 v f 1 cq (.ol fo) ss (xh tl N)))=.ok r (.v .none) ss:=by
 refine iA h0 ?_;rintro a l rfl;obtain rfl|⟨b,c,rfl⟩:=ht
 ·have q:bO (ev (bC jz T) (n+30)) (fX 980) [gU 9,gU 10] (d8 v f 1 cq (.ol (a::l)) ss (xh [] N))=.ok .next (d8 v f 1 cq (.ol (a::l)) ss (xh [] N)):=by kernel_rfl
  have e:bY (ev (bC jz T) (n+29)) (fX 980) false (bX (bN (gU 11))) (d8 v f 1 cq (.ol (a::l)) ss (xh [] N))=.ok [.v (.lst (a::l)),.v (pv (dN 1)),.v (dB N)] (d8 v f 1 cq (.v (.lst (a::l))) ss (xh [] N)):=by kernel_rfl
  exact(aN (ey 980) (ew (l:=[gU 9,gU 10]) (l2:=[gU 11]) q (dj (g8 (dX e h))))).trans rfl
 ·have q:bO (ev (bC jz T) (n+30)) (fX 980) [gU 9,gU 10] (d8 v f 1 cq (.ol (a::l)) ss (xh [("place",.v b),("value",.v c)] N))=.ok .next (d8 v f 1 cq (.ol (a::l)) ss (xh [("place",.v b),("value",.v c)] N)):=by kernel_rfl
  have e:bY (ev (bC jz T) (n+29)) (fX 980) false (bX (bN (gU 11))) (d8 v f 1 cq (.ol (a::l)) ss (xh [("place",.v b),("value",.v c)] N))=.ok [.v (.lst (a::l)),.v (pv (dN 1)),.v (dB N)] (d8 v f 1 cq (.v (.lst (a::l))) ss (xh [("place",.v b),("value",.v c)] N)):=by kernel_rfl
  exact(aN (ey 980) (ew (l:=[gU 9,gU 10]) (l2:=[gU 11]) q (dj (g8 (dX e h))))).trans rfl
end
theorem tI(gV:mo<3):∀ps i,(∀p∈ps,lU p)->fV mo i ps=none->∀p∈ps,p.1=(dN mo).1/\p.2.length=(dN mo).2.length:=by
 intro ps;induction ps with
 |nil=>intro _ _ _;exact λY q=>nomatch q
 |cons p l ih=>
  intro i hp h y hy;unfold fV at h;refine eE (mS mo i p) (λr=>?_) (λm r=>by rw[r]at h;exact zi h)
  rw[r]at h;obtain rfl|z:=List.mem_cons.mp hy
  ·exact wJ (hp y (.head _)) gV r
  ·exact ih _ (λy hy=>hp y (.tail _ hy)) h y z
theorem ti{c:Int}(h0:ps≠[])(h:∀p∈ps,sz p=c):cm ps=c:=by
 induction ps using eZ with
 |nil=>exact absurd rfl h0
 |cons p l=>
  show ur (sz p) _=c
  rw[h p (.head _)];exact te c _ λx hx=>by refine bW (List.mem_map.mp hx) ?_;rintro q hq rfl;exact h q (.tail _ hq)
theorem SI(hp:qK ps)(h0:ps≠[])(hk:K="integer"\/K="character")(h:∀p∈ps,p.1=K/\sz p=1)(N:OA):j9 ps N=bV K (ps.map mY) (gM N)/\ps.map pv=(ps.map mY).map λa=>bV K [a] .none:=by
 have c:=ti h0 λp hp=>(h p hp).2
 have o:=zv hp (jS c (by decide))
 have e:∀p∈ps,pv p=bV K [mY p] .none:=λp hp=>by
  have:=(h p hp).1
  cases o p hp<;>(subst this;rfl)
 refine⟨?_,by rw[bh];exact List.map_congr_left e⟩
 unfold j9 zm ig mE;rw[aA c];obtain rfl|rfl:=hk
 ·rw[show ps.any xm=false from List.any_eq_false.mpr λp hp=>by unfold xm;rw[(h p hp).1];decide]
 ·rw[show ps.any xm=true from List.any_eq_true.mpr (by
   induction ps using eZ with
   |nil=>exact absurd rfl h0
   |cons p l=>exact(cf p (.head _) (by unfold xm;rw[(h p (.head _)).1];rfl)))]
  exact aN (λl=>bV "character" l (gM N)) (List.map_congr_left λp hp=>by
   have:=(h p hp).1
   cases o p hp with
   |i i _ _=>exact absurd (show("integer":Str)="character" from this) (by decide)
   |c s=>rfl)
def Dy(mo:Nat)(ps:LP)(N:OA):AV:=match ps with
 |[]=>bV (dN mo).1 [] .none
 |_=>j9 ps N
def zO(c:C)(mo:Nat)(ps:LP)(N:OA):Prop:=match fV mo 0 ps with
 |some m=>∃eG:LA,eG.length<=50/\c=.exc (.str m) (some eG)
 |none=>∃eG:LA,eG.length<=50/\c=.ok (Dy mo ps N) (.v .none) (some eG)
theorem Nt{T:cK}(n){k:Int}{c:AV}(H:RO T (cb nm c) fo k mo)(gV:mo<3)(hfo:eO fo)(hf:∀x∈fs,eO x)(cI:fs.length<=5){ss:LA}(hl:ss.length<=30)(h1:T 561 [.v (bV K xs a)] (some ss)=.ok (.lst (fs.map (gT k))) (.v .none) (some ss))(h2:∀ss,T 582 [.v (bV K xs a),.v (.bool true)] ss=.ok (dB N) (.v .none) ss)(h3:∀ts ss,ts.length<=5->ts≠[]->T 987 [.v (.lst ((ts.map p2).map pv)),.v (pv (dN 1)),.v (dB N)] ss=.ok (Gs (ts.map p2) N) (.v .none) ss):
  zO (cA (bC jz T) (n+31) 980 [.v cu,.v (.lst [.tup [.none,bV K xs a],.tup [.none,cb nm c],.tup [.none,pv (dN mo)]]),.v bP] (some ss)) mo (fs.map (pr fo)) N:=by
 rw[I3 T _,show fB 980=(fB 980).take 4++(gU 4::gU 5::gU 6::([gU 7,gU 8]++[gU 9,gU 10,gU 11])) by kernel_rfl]
 have q4:bL (ev (bC jz T) (n+30)) (fX 980) (gU 4) (xw (bV K xs a) (cb nm c) mo _ [])=.ok .next (xw (bV K xs a) (cb nm c) mo (some ss) [("values",.v (.lst (fs.map (gT k))))]):=dW (cX h1 (by kernel_rfl)) (by kernel_rfl)
 have q6:=Sh T n (some ss) (bV K xs a) (cb nm c) mo (fs.map (gT k)) (by rw[ah];exact cI)
 rw[ah,List.range_eq_range']at q6;have lp:=D9 n (v:=bV K xs a) H gV hfo fs [] ss [] hf cI (by lia) (.inl rfl)
 rw[List.nil_append]at lp;have hp:=wb hfo hf cI;unfold zO;revert lp;generalize r:fV mo 0 _=zz;induction zz using i7 with
 |some m=>
  rintro⟨s',eG,e,e2,e3⟩;refine(cf eG e3 ?_);rw[ew (GN T n K xs a nm c _ gV) (bG q4 (bG (LM T n _ _ _ mo _) (Au (q6.trans e)))),<-e2];rfl
 |none=>
  rintro⟨tl,ht,e⟩;refine(cf (ss++fs.map .int) (by rw[aw,ah];lia) ?_)
  rw[ew (GN T n K xs a nm c _ gV) (bG q4 (bG (LM T n _ _ _ mo _) (bG (q6.trans e) (ew (Nx T n _ _ _ _ _ ht (h2 _)) rfl))))];have al:=tI gV _ 0 hp.shp r;by_cases z:fs.map (pr fo)=[]
  ·rw[show fs=[]from List.map_eq_nil_iff.mp z]
   exact Nw T n _ _ _ gV _ ht N
  ·have nz:Dy mo (fs.map (pr fo)) N=j9 (fs.map (pr fo)) N:=by
    unfold Dy
    split
    ·next h=>exact absurd h z
    ·rfl
   rw[nz,<-KP];have m3:mo=1\/mo∈[0,2]:=by
    have:=Iu gV
    obtain rfl|rfl|rfl:=this
    ·exact .inr (by decide)
    ·exact .inl rfl
    ·exact .inr (by decide)
   obtain rfl|m2:=m3
   ·have s2:=λp hp=>aN Int.ofNat (al p hp).2
    refine cF (Ii hp.shp s2) λts e=>?_;rw[show j9 _ N=Gs _ N by unfold j9;rw[ti z s2];rfl,e]
    have tz:ts≠[]:=λq=>z (by rw[e,q];rfl)
    have Xn:=by have:=hp.ln9;rwa [e,ah]at this
    exact Nu T n _ _ _ _ _ (by induction ts using eZ with|nil=>exact absurd rfl tz|cons t l=>exact(iY _ _ rfl)) ht N (h3 ts _ Xn tz)
   ·refine cH (SI hp z (by obtain rfl|q:=List.mem_cons.mp m2;exact .inl rfl;obtain rfl|q:=List.mem_cons.mp q;exact .inr rfl;obtain _|_:=q) (λp h=>⟨(al p h).1,(aN Int.ofNat (al p h).2).trans (by obtain rfl|q:=List.mem_cons.mp m2;rfl;obtain rfl|q:=List.mem_cons.mp q;rfl;obtain _|_:=q)⟩) N) λe1 e2=>?_
    rw[e1,e2];exact Nv T n _ _ _ m2 _ _ (by rw[ah];exact hp.ln9) (λq=>z (List.map_eq_nil_iff.mp q)) ht N
noncomputable def y3:List Addr:=[980,1006]
section
variable(T:cK)(n:Nat)(aa:AV)(ss:OA)
abbrev KS(a:Addr)(aa:AV)(ss:OA):S:=⟨[],[("pure",.v (.ad a)),("interp",.v cu),("args",.v aa)],ss,none⟩
abbrev KR:Stmt:=cM (LN (cM (fB 1412) 0)) 0
theorem JP(a):cA (bC y3 T) (n+1) 1412 [.v (.ad a),.v cu,.v aa] ss=ey 1412 (bO (ev (bC y3 T) n) (fX 1412) [cM (fB 1412) 0] (KS a aa ss)):=by kernel_rfl
theorem Uk(s):bL (ev (bC y3 T) (n+12)) (fX 1412) (cM (fB 1412) 0) s=(match bO (ev (bC y3 T) (n+11)) (fX 1412) [KR] s with| .ok f s=>.ok f s| .exc m s=>.ok (.ret m) {s with loc:=eP s.loc "error"}| .no=>.no):=by kernel_rfl
theorem Uj{a:Addr}(ha:a=980\/a=1006):(ev (bC y3 T) (n+11)).e (fX 1412) (bN KR) (KS a aa ss)=(T a [.v cu,.v aa,.v bP] ss).toR (KS a aa ss) λv Y s=>cZ v s:=by obtain rfl|rfl:=ha<;>kernel_rfl
noncomputable def zT(c:C):C:=match c with
 | .ok v _ ss=>.ok v (.v .none) ss
 | .exc m ss=>.ok m (.v .none) ss
 | .no=>.no
theorem G9{a:Addr}(ha:a=980\/a=1006):cA (bC y3 T) (n+13) 1412 [.v (.ad a),.v cu,.v aa] ss=zT (T a [.v cu,.v aa,.v bP] ss):=by
 have e:bL (ev (bC y3 T) (n+11)) (fX 1412) KR (KS a aa ss)=(vl ((ev (bC y3 T) (n+11)).e (fX 1412) (bN KR) (KS a aa ss))).bind λa s=>.ok (.ret a) s:=by kernel_rfl
 have e1:bO _ _ [KR] _=(bL (ev (bC y3 T) (n+11)) (fX 1412) KR (KS a aa ss)).bind λf s=>(match f with| .next=>.ok .next s|f=>.ok f s):=rfl
 rw[JP T _];show ey 1412 ((bL _ _ _ _).bind _)=_;rw[Uk,e1,e,Uj T n aa ss ha];cases T a [.v cu,.v aa,.v bP] ss<;>rfl
end
theorem Bo(ps)(N):∃K xs a,j9 ps N=bV K xs a:=by
 unfold j9
 split
 ·exact(rX _ _ _ rfl)
 ·split<;>exact(rX _ _ _ rfl)
abbrev Lw(i:Nat):Expr:=dE (j4 (cB (sT 24))) i
abbrev Yr:Stmt:=cM (cU (sT 24)) 0
abbrev WI:Stmt:=cM (kh (sT 24)) 0
abbrev Yq:Stmt:=cM (kh WI) 0
section
variable(T:cK)(n:Nat)(w:W)(hd:OV)(ss:LA)(mo:Nat)
theorem LZ{T:cK}{w:W}{mo:Nat}{d r:AV}{b:OV}{ss eG:LA}(ht:d6 tl)(h:T 1412 [.v (.ad 980),.v cu,.v (.lst [.tup [.none,w.v],.tup [.none,w.f],.tup [.none,pv (dN mo)]])] (some ss)=.ok r b (some eG)):xL T n (sT 23) (gn w hd bB ss mo d tl)=.ok .next (gn w hd (.v r) eG mo d tl):=by
 obtain rfl|⟨a,rfl⟩:=ht<;>exact dW (cX h (by kernel_rfl)) (by kernel_rfl)
theorem Og(ht:d6 tl)(m):xL T n (sT 24) (gn w hd (.v (.str m)) ss mo (.str m) tl)=.ok .next (gn w hd (.v (.str m)) ss mo (.str m) tl):=by
 have a:(eL T (n+19)).b lX (Lw 0) (gn w hd (.v (.str m)) ss mo (.str m) tl)=.ok true (gn w hd (.v (.str m)) ss mo (.str m) tl):=by obtain rfl|⟨a,rfl⟩:=ht<;>kernel_rfl
 have b:(eL T (n+19)).b lX (cB Yr) (gn w hd (.v (.str m)) ss mo (.str m) tl)=ij (.str m) (.str m) .NotEq (gn w hd (.v (.str m)) ss mo (.str m) tl):=by obtain rfl|⟨a,rfl⟩:=ht<;>kernel_rfl
 have b:=b.trans (gI rfl AV.noConfusion)
 exact mJ (ll [Lw 0,Lw 1] (by kernel_rfl) (zu a)) (bG (jG b) rfl)
theorem Sv(ht:d6 tl)(K)(xs)(a):(eL T (n+20)).b lX (cB (sT 24)) (gn w hd (.v (bV K xs a)) ss mo (.str "") tl)=.ok false (gn w hd (.v (bV K xs a)) ss mo (.str "") tl):=by obtain rfl|⟨a,rfl⟩:=ht<;>kernel_rfl
theorem Oe(ht:d6 tl)(gV:mo<3)(hw:w.ma=.int 0):xL T n (sT 24) (gn w hd (.v (bV (dN mo).1 [] .none)) ss mo (.str "") tl)=.ok .next (gn w hd (.v (bV (dN mo).1 [] .none)) ss mo (.str "") tl):=by
 have:∀mo∈[0,1,2],xL T n (sT 24) (gn w hd (.v (bV (dN mo).1 [] .none)) ss mo (.str "") tl)=.ok .next (gn w hd (.v (bV (dN mo).1 [] .none)) ss mo (.str "") tl):=by
  cases w;subst hw
  obtain rfl|⟨a,rfl⟩:=ht<;>exact cg _
 exact this mo (si gV)
theorem Of{T:cK}{w:W}{ss:LA}{mo m:Nat}(ht:d6 tl)(hw:w.ma=.int (m+1:Nat))(hm:m<=4){r:AV}(hr:∃K xs a,r=bV K xs a){b:OV}(h:T 1405 [.v r,.v w.vs,.v w.sh] (some ss)=.ok (.bool true) b (some ss)):xL T n (sT 24) (gn w hd (.v r) ss mo (.str "") tl)=.ok .next (gn w hd (.v r) ss mo (.str "") tl):=by
 refine D5 hr ?_;rintro K xs a rfl;have c:(eL T (n+18)).b lX (cB Yq) (gn w hd (.v (bV K xs a)) ss mo (.str "") tl)=.ok false (gn w hd (.v (bV K xs a)) ss mo (.str "") tl):=by
  obtain rfl|⟨a,rfl⟩:=ht<;>exact zY (by kernel_rfl) (cX h (by kernel_rfl))
 have d:∀m∈n5,(eL T (n+19)).b lX (cB WI) (gn {w with ma:=.int (m+1:Nat)} hd (.v (bV K xs a)) ss mo (.str "") tl)=.ok false (gn {w with ma:=.int (m+1:Nat)} hd (.v (bV K xs a)) ss mo (.str "") tl):=by
  obtain rfl|⟨a,rfl⟩:=ht<;>exact cg _
 have d:=d m (hB hm)
 rw[<-hw]at d;have j:=mJ d (bG (jG c) rfl);exact mJ (Sv T n w hd ss mo ht K xs a) (bG j rfl)
end
def GF:cK:=λa os ss=>match Nat.beq a 1346 with|true=>TV a os ss|false=>TA a os ss
def VQ(T:cK):Prop:=∀(fs:List Int) (k fo:Int) (nb rb:Bool) (mo:Nat) (ss:LA),(∀x∈fs,eO x)->fs.length<=5->(k=0\/k=1)->eO fo->mo<3->ss.length<=30->
 zO (T 980 [.v cu,.v (.lst [.tup [.none,tY fs k nb rb],.tup [.none,cb "f" (gY fo)],.tup [.none,pv (dN mo)]]),.v bP] (some ss)) mo (fs.map (pr fo)) (yZ fs k nb rb)
theorem JN(h:mo<3):(dN mo).1="integer"\/(dN mo).1="character":=by
 have:=Iu h
 obtain rfl|rfl|rfl:=this
 ·exact .inl rfl
 ·exact .inl rfl
 ·exact .inr rfl
theorem VF(gV:mo<3)(p)(ss)(h:p.1=(dN mo).1):TA 895 [.v (pv p),.v (.str (dN mo).1),.v (.lst [])] ss=.ok (pv p) (.v .none) ss:=by
 have:=MJ (JN gV) p.2 ss
 rw[<-h]at this⊢;exact this
theorem K8{a:Addr}(h:Nat.beq a 1346=false)(os)(ss):GF a os ss=TA a os ss:=by unfold GF;rw[h]
theorem Xm(os)(ss):GF 1346 os ss=TV 1346 os ss:=rfl
theorem Xl{k:Int}(hk:k=0\/k=1)(hfo:eO fo)(gV:mo<3):RO GF (cb "f" (gY fo)) fo k mo where
 call:=λx ss hx l=>(Xm ..).trans (W7 fo k x ss hfo hk hx l)
 chk:=λp i ss hp hi=>(K8 rfl ..).trans (PR hp gV hi ss)
 asK:=λp ss h=>(K8 rfl ..).trans (VF gV p ss h)
theorem Sf:VQ (cA (bC jz GF) 40):=λfs k fo nb rb mo ss hf cI hk hfo gV l=>
 Nt 9 (Xl hk hfo gV) gV hfo hf cI l ((K8 rfl ..).trans (pL fs cI k hk nb rb _)) (λss=>(K8 rfl ..).trans (GP fs cI hk nb rb ss)) (λts ss l h=>(K8 rfl ..).trans (J4 ts l h _ ss))
noncomputable def eH(r:Nat):LA:=[AV.str "p",.str "q",.str "r",.str "s"].take r
noncomputable def Iy(r:Nat):LA:=[AV.str "k",.str "l",.str "m",.str "n"].take r
noncomputable def Qx(b:Bool)(r:Nat):OA:=match b with|true=>some (Iy r)|false=>none
def KQ(b:Bool)(r:Nat):OV:=match b with|true=>.od [("names",bV "character" (Iy r) .none)]|false=>.v .none
def oH(b:Bool)(r:Nat):AV:=bV "character" (eH r) (gM (Qx b r))
def gr:AV:=.clo (sT 28) []
abbrev mA(w:W)(hd bB:OV)(ss:LA)(mo:Nat)(d:AV)(tl tm:LO)(dl:Nat):S:=⟨[],(gn w hd bB ss mo d (tl++tm)).loc,some ss,some dl⟩
section
variable(T:cK)(n:Nat)(w:W)(hd bB:OV)(ss:LA)(mo:Nat)(d:AV)
theorem VA(ht:d6 tl)(cs)(i h2 h3):xL T n (sT 25) (mA w (cT cs i h2 h3) bB ss mo d tl [] 1357)=(((vl ((T 1374 [cT cs i h2 h3,.v (.int 5)] (some ss)).toL "hand" (mA w (cT cs i h2 h3) bB ss mo d tl [] 1357))).bind λa s=>(match a with| .int i=>R.ok (some i) s|_=>.no)).bind λu s=>(match lj (eH 4) none u none with|some ys=>.ok (.ol ys) s|none=>.no)).bind λo s=>aL T n (cV (sT 25)) o s:=by
 obtain rfl|⟨a,rfl⟩:=ht<;>kernel_rfl
theorem To{T:cK}(hT:fH T)(ht:d6 tl)(h:dx):∃r h',r<=4/\xL T n (sT 25) (mA w h.o bB ss mo d tl [] 1357)=.ok .next (mA w (dx.o h') bB ss mo d tl [("row",.ol (eH r))] 1357):=by
 refine dR (hT h 5 (some ss) (.inr (.inr (.inl rfl)))) λd' h' e d0 d1=>(cz d'.toNat h' (by lia) ?_)
 unfold dx.o at e⊢;rw[VA T n w bB ss mo d ht,e];have:=Mg d0 d1;obtain rfl|rfl|rfl|rfl|rfl:=this<;>obtain rfl|⟨a,rfl⟩:=ht<;>kernel_rfl
theorem Tn(ht:d6 tl)(r):xL T n (sT 26) (mA w hd bB ss mo d tl [("row",.ol (eH r))] 1357)=.ok .next (mA w hd bB ss mo d tl [("row",.v (.lst (eH r))),("other",eR "character" (eH r) (.v .none))] 1357):=by
 obtain rfl|⟨a,rfl⟩:=ht<;>kernel_rfl
theorem Vz(ht:d6 tl)(r)(cs)(i h2 h3):xL T n (sT 27) (mA w (cT cs i h2 h3) bB ss mo d tl [("row",.v (.lst (eH r))),("other",eR "character" (eH r) (.v .none))] 1357)=((vl ((T 1374 [cT cs i h2 h3,.v (.int 3)] (some ss)).toL "hand" (mA w (cT cs i h2 h3) bB ss mo d tl [("row",.v (.lst (eH r))),("other",eR "character" (eH r) (.v .none))] 1357))).bind λa s=>ij a (.int 2) .Eq s).bind λc s=>(match c with|true=>bO (eL T (n+19)) lX (cU (sT 27)) s|false=>.ok .next s):=by
 obtain rfl|⟨a,rfl⟩:=ht<;>kernel_rfl
theorem Vt(ht:d6 tl){r:Nat}(hr:r<=4):bO (eL T (n+19)) lX (cU (sT 27)) (mA w hd bB ss mo d tl [("row",.v (.lst (eH r))),("other",eR "character" (eH r) (.v .none))] 1357)=.ok .next (mA w hd bB ss mo d tl [("row",.v (.lst (eH r))),("other",eR "character" (eH r) (KQ true r))] 1357):=by
 have:∀r∈n5,bO (eL T (n+19)) lX (cU (sT 27)) (mA w hd bB ss mo d tl [("row",.v (.lst (eH r))),("other",eR "character" (eH r) (.v .none))] 1357)=.ok .next (mA w hd bB ss mo d tl [("row",.v (.lst (eH r))),("other",eR "character" (eH r) (KQ true r))] 1357):=by
  obtain rfl|⟨a,rfl⟩:=ht<;>exact cg _
 exact this r (hB hr)
theorem Tl{T:cK}(hT:fH T)(ht:d6 tl){r:Nat}(hr:r<=4)(h:dx):∃b h',xL T n (sT 27) (mA w h.o bB ss mo d tl [("row",.v (.lst (eH r))),("other",eR "character" (eH r) (.v .none))] 1357)=.ok .next (mA w (dx.o h') bB ss mo d tl [("row",.v (.lst (eH r))),("other",eR "character" (eH r) (KQ b r))] 1357):=by
 refine dR (hT h 3 (some ss) (.inr (.inl rfl))) λd' h' e d0 d1=>?_;refine(iY (decide (d'=2)) h' ?_);unfold dx.o at e⊢;rw[Vz T n w bB ss mo d ht,e];have:=Iv d0 d1;obtain rfl|rfl|rfl:=this
 ·rfl
 ·rfl
 ·exact Vt T n w _ bB ss mo d ht hr
theorem Tj(ht:d6 tl)(x y):yL T n [sT 28,sT 29] (mA w hd bB ss mo d tl [("row",x),("other",y)] 1357)=.ok .next (mA w hd bB ss mo d tl [("row",x),("other",y),("glued",.v gr),("j",mH "j" gr)] 1389):=by
 obtain rfl|⟨a,rfl⟩:=ht<;>kernel_rfl
end
noncomputable def C4(a b:Str):Str:=("(":Str)++a++b++")"
inductive xu:AV->Str->Prop where
 |s (a:Str):xu (.str a) a
 |i (x:Int):eO x->xu (.int x) (fj x)
abbrev gX:Cx:=⟨jJ (sT 28),none,none⟩
abbrev gB:Stmt:=cM (ic (sT 28)) 0
abbrev gS(ia ib:AV)(ka kb:Str)(ss:OA):S:=⟨[],[("interp",.v cu),("args",.v (.lst [.tup [.none,bV ka [ia] .none],.tup [.none,bV kb [ib] .none]])),("env",.v bP)],ss,none⟩
noncomputable def xC(e:Expr):Expr:=dE (nH e) 0
abbrev gL:Expr:=dE (bX (bN gB)) 1
abbrev gE:Expr:=xC gL
theorem pN{a b:Str}(h:a.cps.size+b.cps.size<=100000):kl .Add (.str a) (.str b) s=.ok (.v (.str (a++b))) s:=by
 show(match fg _ with|true=>cZ _ s|false=>.no)=_
 rw[show fg _=true from aQ h];rfl
section
variable(O:vX)(n:Nat)(ss:OA)(ka kb:Str)
theorem YR{ia ib:AV}{a:Str}(h:xu ia a):(ev O (n+8)).e gX (k6 (gO (gO gE))) (gS ia ib ka kb ss)=.ok (.v (.str a)) (gS ia ib ka kb ss):=by
 induction h using xu.casesOn with
 |s a=>kernel_rfl
 |i x hx=>obtain rfl|rfl|rfl|rfl|rfl:=hx.cases<;>kernel_rfl
theorem YQ{ia ib:AV}{b:Str}(h:xu ib b):(ev O (n+8)).e gX (k6 (gO gE)) (gS ia ib ka kb ss)=.ok (.v (.str b)) (gS ia ib ka kb ss):=by
 induction h using xu.casesOn with
 |s a=>kernel_rfl
 |i x hx=>obtain rfl|rfl|rfl|rfl|rfl:=hx.cases<;>kernel_rfl
theorem jr(a b:Str):(a++b).cps.size=a.cps.size+b.cps.size:=Array.size_append ..
theorem nU{O:vX}{s2:S}{b:AV}{op:Operator}{r:R OV}(h0:(ev O (k+1)).e cx e s=(vl ((ev O k).e cx (gO e) s)).bind λa s=>(vl ((ev O k).e cx (k6 e) s)).bind λb s=>kl op a b s)(he:(ev O k).e cx (gO e) s=.ok (.v a) s1)(hr:(ev O k).e cx (k6 e) s1=.ok (.v b) s2)(h:kl op a b s2=r):(ev O (k+1)).e cx e s=r:=by
 rw[h0,he,ip,c0,hr,ip];exact h
theorem YS{ia ib:AV}{a b:Str}(ha:xu ia a)(hb:xu ib b)(la:a.cps.size<=1000)(lb:b.cps.size<=1000):(ev O (n+11)).e gX gE (gS ia ib ka kb ss)=.ok (.v (.str (C4 a b))) (gS ia ib ka kb ss):=by
 have z:("(":Str).cps.size=1:=rfl
 have z2:(")":Str).cps.size=1:=rfl
 have e0:(ev O (n+8)).e gX (gO (gO (gO gE))) (gS ia ib ka kb ss)=.ok (.v (.str "(")) (gS ia ib ka kb ss):=by kernel_rfl
 have e2:=nU (by kernel_rfl) (nU (by kernel_rfl) e0 (YR O n ss ka kb ha) (pN (by lia))) (YQ O _ ss ka kb hb) (pN (by rw[jr];lia))
 exact nU (by kernel_rfl) e2 (show(ev O _).e gX _ _=.ok (.v (.str ")")) _ by kernel_rfl) (pN (by rw[jr,jr];lia))
theorem Pc(ia ib):kj (ev O n) (sT 28) [.v cu,.v (.lst [.tup [.none,bV ka [ia] .none],.tup [.none,bV kb [ib] .none]]),.v bP] [] ss=(match(ev O n).x gX [gB] (gS ia ib ka kb ss)with
  | .ok fl s=>fq false (ke (sT 28)) fl s
  | .exc m s=>.exc m s.ss
  | .no=>.no):=by kernel_rfl
theorem YP(s):(ev O (n+13)).e gX (bN gB) s=(bY (ev O (n+12)) gX true (bX (bN gB)) s).bind λos s=>((ev O (n+12)).f 57 (fu 3 0) (.oi gG []::os) s.ss).toR s λv b s=>(match v with| .none=>.ok b s|_=>.no):=by kernel_rfl
theorem gj{s2:S}{o:OV}(h:rc.e cx e s=.ok o s1)(h2:bY rc cx true l s1=.ok os s2)(hp:cG e=true:=by kernel_rfl):bY rc cx true (e::l) s=.ok (o::os) s2:=by
 show(match cG e with
  |false=>R.no
  |true=>(rc.e cx e s).bind λo s=>(bY rc cx true l s).bind λos s=>.ok _ s)=_
 rw[hp,h];show(bY rc cx true l s1).bind _=_;rw[h2];rfl
theorem US(s):(ev O (n+12)).e gX gL s=(oM (ev O (n+11)) gX [gE] s).bind λxs s=>(match dF xs.length with|true=>.ok (.ol xs) s|false=>.no):=by kernel_rfl
theorem UR(T){ia ib:AV}{a b:Str}(ha:xu ia a)(hb:xu ib b)(la:a.cps.size<=1000)(lb:b.cps.size<=1000):kj (ev (bC oU T) (n+14)) (sT 28) [.v cu,.v (.lst [.tup [.none,bV ka [ia] .none],.tup [.none,bV kb [ib] .none]]),.v bP] [] ss=.ok (bV "character" [.str (C4 a b)] .none) (.v .none) ss:=by
 have e1:(ev (bC oU T) (n+12)).e gX gL (gS ia ib ka kb ss)=.ok (.ol [.str (C4 a b)]) (gS ia ib ka kb ss):=by
  rw[US,gH (YS _ n ss ka kb ha hb la lb) rfl];rfl
 have ar:bY (ev (bC oU T) (n+12)) gX true (bX (bN gB)) (gS ia ib ka kb ss)=.ok [.v (.str "character"),.ol [.str (C4 a b)]] (gS ia ib ka kb ss):=by
  rw[show bX _=[eB (bN gB),gL] by kernel_rfl]
  exact gj (show(ev _ _).e gX _ _=.ok _ _ by kernel_rfl) (gj e1 rfl)
 have q:bL (ev (bC oU T) (n+13)) gX gB (gS ia ib ka kb ss)=.ok (.ret (bV "character" [.str (C4 a b)] .none)) (gS ia ib ka kb ss):=by
  generalize C4 a b=g at*;have e0:bL (ev (bC oU T) (n+13)) gX gB (gS ia ib ka kb ss)=(vl ((ev (bC oU T) (n+13)).e gX (bN gB) (gS ia ib ka kb ss))).bind λa s=>.ok (.ret a) s:=by kernel_rfl
  rw[e0,YP,ar]
  kernel_rfl
 rw[Pc,oY,dj q];rfl
end
def V2(T:cK):Prop:=∀(ia ib:AV) (ka kb a b:Str) (ss:OA),xu ia a->xu ib b->a.cps.size<=1000->b.cps.size<=1000->T 1346 [.v cu,.v (cb "j" gr),.v (.lst [.tup [.none,bV ka [ia] .none],.tup [.none,bV kb [ib] .none]]),.v bP] ss=.ok (bV "character" [.str (C4 a b)] .none) (.v .none) ss
theorem UQ:V2 TV:=λia ib ka kb a b ss ha hb la lb=>Ao TB 0 "j" gr _ _ (Ar _ 15 "j" _ _ _ (UR 7 ss ka kb TA ha hb la lb))
theorem yK{n:Nat}{xs:List Z}{u g:Z->AV}{P:LE->Prop}(hP:P [])(hl:xs.length<=100)(h:∀a∈xs,∀cl,P cl->∃H8 i9,km (gN e) (u a) cl=some H8/\P i9/\(ev O n).e Gz (eJ e) ⟨H8,loc,ss,dl⟩=.ok (.v (g a)) ⟨i9,loc,ss,dl⟩):gb O n Gz e (xs.map u) ⟨[],loc,ss,dl⟩=.ok (.v (.lst (xs.map g))) ⟨[],loc,ss,dl⟩:=by
 obtain⟨i9,c⟩:=lJ (f:=λs=>(vl ((ev O n).e Gz _ s)).bind λa s=>.ok [a] s) (s:=⟨[],loc,ss,dl⟩) xs [] hP λa ha cl hc=>by
  obtain⟨H8,i9,h1,h2,h3⟩:=h a ha cl hc;refine(eF H8 i9 h1 h2 ?_);rw[h3];rfl
 refine(aN (λr=>(R.bind r fD).noExc) c).trans ?_
 show(fD _ _).noExc=_
 unfold fD;rw[show dF (xs.map g).length=true from aQ (by rw[ah];lia)]
 rfl
noncomputable def kR:List Addr:=[561,1346]
abbrev jy(i:Nat):Stmt:=cM (fB 992) i
def xv(i:Nat):Cx:=⟨jJ (kT 992),some (jc (bN (match i with|0=>jy 0|_=>cM (cU (jy 5)) 0))),none⟩
abbrev KM(f:AV)(u:AV)(ss:OA)(tl:LO):S:=⟨[],("interp",.v cu)::("f",.v f)::("rows",.v u)::("more",.v (.lst []))::("env",.v bP)::tl,ss,none⟩
abbrev Qo(f u:AV)(rv iv:LA)(ss:OA)(tl:LO):S:=KM f u ss (("columns",.v (.lst [.tup [.none,.lst rv],.tup [.none,.lst iv]]))::tl)
abbrev pz(f u:AV)(rv iv:LA)(ss:OA)(c:Nat)(fo:OV)(tl:LO):S:=Qo f u rv iv ss (("count",.v (.int c))::("tag",.v .none)::("values",.v (.lst iv))::("found",fo)::tl)
noncomputable def lW:Str:="zero-length inputs cannot be mixed with those of non-zero length"
noncomputable def Ij(e:Expr):List Expr:=(kE e).1
section
variable(T:cK)(n:Nat)(f u:AV)(ss:OA)
theorem IZ:cA (bC kR T) (n+1) 992 [.v cu,.v f,.v u,.v (.lst []),.v bP] ss=ey 992 (bO (ev (bC kR T) n) (fX 992) (fB 992) (KM f u ss [])):=by kernel_rfl
theorem R9{T:cK}{x y:AV}(h1:T 561 [.v x] ss=.ok (.lst rv) (.v .none) ss)(h2:T 561 [.v y] ss=.ok (.lst iv) (.v .none) ss):bL (ev (bC kR T) (n+20)) (fX 992) (jy 0) (KM f (.lst [.tup [.none,x],.tup [.none,y]]) ss [])=.ok .next (Qo f (.lst [.tup [.none,x],.tup [.none,y]]) rv iv ss []):=by
 have e:bL (ev (bC kR T) (n+20)) (fX 992) (jy 0) (KM f (.lst [.tup [.none,x],.tup [.none,y]]) ss [])=(gb (bC kR T) (n+20) (xv 0) (bN (jy 0)) ([(x,rv),(y,iv)].map λp=>.tup [.none,p.1]) (KM f (.lst [.tup [.none,x],.tup [.none,y]]) ss [])).bind λo s=>bR (ev (bC kR T) (n+20)) (fX 992) (cV (jy 0)) o s:=by kernel_rfl
 rw[e,yK (g:=λp=>.tup [.none,.lst p.2]) (P:=λcl=>cl=[]\/∃a b,cl=[(("tag":Str),a),("value",b)]) (.inl rfl) (aB rfl) λp hp cl hc=>?_]
 ·kernel_rfl
 ·have hT:T 561 [.v p.1] ss=.ok (.lst p.2) (.v .none) ss:=by
   obtain rfl|hp:=List.mem_cons.mp hp
   ·exact h1
   ·obtain rfl|hp:=List.mem_cons.mp hp
    ·exact h2
    ·obtain _|_:=hp
  refine(eF ([("tag",.none),("value",p.1)]) ([("tag",.none),("value",p.1)]) (by obtain rfl|⟨a,b,rfl⟩:=hc<;>kernel_rfl) (.inr (iY _ _ rfl)) ?_)
  have e2:∀s,(ev (bC kR T) (n+20)).e (xv 0) (eJ (bN (jy 0))) s=(oM (ev (bC kR T) (n+19)) (xv 0) [dE (Ij (eJ (bN (jy 0)))) 0,dE (Ij (eJ (bN (jy 0)))) 1] s).bind λxs s=>(match dF xs.length with|true=>cZ (.tup xs) s|false=>.no):=λs=>by kernel_rfl
  rw[e2,gH (by kernel_rfl) (gH (cX (l:=kR) (n:=n+18) (cx:=xv 0) (e:=dE (Ij (eJ (bN (jy 0)))) 1) (cl:=[("tag",.none),("value",p.1)]) (loc:=(KM f (.lst [.tup [.none,x],.tup [.none,y]]) ss []).loc) (dl:=none) hT (by kernel_rfl)) rfl)]
  rfl
noncomputable def n6:List Nat:=[0,1,2,3,4,5]
noncomputable def rm(p:Nat->Nat->Bool):List (Nat×Nat):=(n5.flatMap λr=>n6.map λm=>(r,m)).filter λq=>p q.1 q.2
noncomputable def qx(r m:Nat):Bool:=Nat.beq r 0 !=Nat.beq m 0
theorem l7{p:Nat->Nat->Bool}{r m:Nat}(hr:r<=4)(hm:m<=5)(h:p r m=true):(r,m)∈rm p:=List.mem_filter.mpr ⟨List.mem_flatMap.mpr ⟨r,hB hr,List.mem_map.mpr ⟨m,by
 have:=Ir (Nat.lt_succ_of_le hm)
 obtain rfl|rfl|rfl|rfl|rfl|rfl:=this<;>decide,rfl⟩⟩,h⟩
variable(a b c d x0 x1 x2 x3 x4:AV)
theorem I2:∀q∈rm qx,ey 992 (bO (ev (bC kR T) (n+20)) (fX 992) ((fB 992).drop 1) (Qo f u ([a,b,c,d].take q.1) ([x0,x1,x2,x3,x4].take q.2) ss []))=.exc (.str lW) ss:=cg _
theorem Nl:∀q∈rm λr m=> !qx r m,bO (ev (bC kR T) (n+20)) (fX 992) [jy 1,jy 2,jy 3,jy 4] (Qo f u ([a,b,c,d].take q.1) ([x0,x1,x2,x3,x4].take q.2) ss [])=.ok .next (pz f u ([a,b,c,d].take q.1) ([x0,x1,x2,x3,x4].take q.2) ss (Nat.max q.1 q.2) (.ol []) []):=cg _
end
theorem L8(l:List AV)(h:l.length<=5):∃a b c d e,l=[a,b,c,d,e].take l.length:=match l,h with
 |[],_=>⟨.none,.none,.none,.none,.none,rfl⟩
 |[a],_=>⟨a,.none,.none,.none,.none,rfl⟩
 |[a,b],_=>⟨a,b,.none,.none,.none,rfl⟩
 |[a,b,c],_=>⟨a,b,c,.none,.none,rfl⟩
 |[a,b,c,d],_=>⟨a,b,c,d,.none,rfl⟩
 |[a,b,c,d,e],_=>⟨a,b,c,d,e,rfl⟩
 |a::b::c::d::e::f::l,h=>absurd h (by simp only[aM];lia)
theorem w8{n:Nat}{l:List Addr}{T:cK}{a:Addr}{x v:AV}{b:OV}(h0:(ev (bC l T) (n+1)).e cx e s=(bY (ev (bC l T) n) cx false (bX e) s).bind λos s=>(T a ([x].map OV.v++os) s.ss).toR s λv Y s=>cZ v s)(ha:bY (ev (bC l T) n) cx false (bX e) s=.ok os s1)(hT:T a (.v x::os) s1.ss=.ok v b eG):(ev (bC l T) (n+1)).e cx e s=.ok (.v v) {s1 with ss:=eG}:=by
 rw[h0,ha];show(T a (.v x::os) s1.ss).toR _ _=_;rw[hT];rfl
theorem Er{n:Nat}{l:List Addr}{T:cK}{k:Str}(hl:eQ l 282=false)(h0:(ev (bC l T) (n+12)).e cx e s=(bY (ev (bC l T) (n+11)) cx false [eB e] s).bind λos s=>((ev (bC l T) (n+11)).f 282 (kT 282) (([]:LA).map OV.v++os) s.ss).toR s λv Y s=>cZ v s)(hp:cG (eB e)=true)(he:(ev (bC l T) (n+11)).e cx (eB e) s=.ok (.v (bV k xs a)) s1):(ev (bC l T) (n+12)).e cx e s=.ok (.v (bV k xs a)) s1:=by
 rw[h0,cE (hp:=hp) he rfl];have:(ev (bC l T) (n+11)).f 282 (kT 282) [.v (bV k xs a)] s1.ss=.ok (bV k xs a) (.v .none) s1.ss:=by
  show(match bC l T 282 [.v _] s1.ss with|some r=>r|none=>mc _ _ _ [.v _] [] s1.ss)=_
  unfold bC;rw[hl]
  kernel_rfl
 show((ev _ _).f 282 _ [.v _] s1.ss).toR s1 _=_
 rw[this];rfl
abbrev Dg(i:Nat):Stmt:=cM (cU (jy 5)) i
section
variable(T:cK)(n:Nat)(f u:AV)(ss:OA)(a b c d x0 x1 x2 x3 x4:AV)
def Qn(a:AV)(s:S):R Fl:=(bR (ev (bC kR T) (n+20)) (fX 992) (iT (jy 5)) (.v a) s).bind λY s=>(ev (bC kR T) (n+20)).x (fX 992) (cU (jy 5)) s
theorem R8(rv iv)(hk:k<=5):bL (ev (bC kR T) (n+20)) (fX 992) (jy 5) (pz f u rv iv ss k (.ol []) [])=ek (Qn T n) ((List.range k).map λ(k:Nat)=>AV.int (k:Int)) (pz f u rv iv ss k (.ol []) []):=by
 have:∀k∈n6,bL (ev (bC kR T) (n+20)) (fX 992) (jy 5) (pz f u rv iv ss k (.ol []) [])=ek (Qn T n) ((List.range k).map λ(k:Nat)=>AV.int k) (pz f u rv iv ss k (.ol []) []):=cg _
 exact this k (by
  have:k=0\/k=1\/k=2\/k=3\/k=4\/k=5:=by lia
  obtain rfl|rfl|rfl|rfl|rfl|rfl:=this<;>decide)
def MM(tl:LO):Prop:=tl=[]\/∃a b,tl=[(("place":Str),OV.v a),("handed",.v b)]
theorem R7(rv iv:LA)(k:Nat)(fo:OV)(ht:MM tl)(i:AV):∃eY,(eY=[]\/∃b,eY=[(("handed":Str),OV.v b)])/\bR (ev (bC kR T) (n+20)) (fX 992) (iT (jy 5)) (.v i) (pz f u rv iv ss k fo tl)=.ok .next (pz f u rv iv ss k fo (("place",.v i)::eY)):=by
 obtain rfl|⟨a,b,rfl⟩:=ht
 ·exact(cf ([]) (.inl rfl) (by kernel_rfl))
 ·exact(cf ([("handed",.v b)]) (.inr ⟨_,rfl⟩) (by kernel_rfl))
noncomputable def g2:List (Nat×Nat×Nat):=(rm λr m=>Nat.blt 0 r&&Nat.blt 0 m).flatMap λq=>(List.range (Nat.max q.1 q.2)).map λi=>(i,q.1,q.2)
noncomputable def K0(rv iv:LA)(i r m:Nat):AV:=.lst [.tup [.none,(rv[i%r]?).getD .none],.tup [.none,(iv[i%m]?).getD .none]]
theorem I1(fo)(tl:LO):∀q∈g2,gb (bC kR T) (n+19) (xv 1) (bN (Dg 0)) [.tup [.none,.lst ([a,b,c,d].take q.2.1)],.tup [.none,.lst ([x0,x1,x2,x3,x4].take q.2.2)]] (pz f u ([a,b,c,d].take q.2.1) ([x0,x1,x2,x3,x4].take q.2.2) ss (Nat.max q.2.1 q.2.2) fo (("place",.v (.int q.1))::tl))=.ok (.v (K0 ([a,b,c,d].take q.2.1) ([x0,x1,x2,x3,x4].take q.2.2) q.1 q.2.1 q.2.2)) (pz f u ([a,b,c,d].take q.2.1) ([x0,x1,x2,x3,x4].take q.2.2) ss (Nat.max q.2.1 q.2.2) fo (("place",.v (.int q.1))::tl)):=cg _
theorem Ni{fo:OV}(ht:tl=[]\/∃b,tl=[(("handed":Str),OV.v b)]){q:Nat×Nat×Nat}(hq:q∈g2):bL (ev (bC kR T) (n+19)) (fX 992) (Dg 0) (pz f u ([a,b,c,d].take q.2.1) ([x0,x1,x2,x3,x4].take q.2.2) ss (Nat.max q.2.1 q.2.2) fo (("place",.v (.int q.1))::tl))=.ok .next (pz f u ([a,b,c,d].take q.2.1) ([x0,x1,x2,x3,x4].take q.2.2) ss (Nat.max q.2.1 q.2.2) fo [("place",.v (.int q.1)),("handed",.v (K0 ([a,b,c,d].take q.2.1) ([x0,x1,x2,x3,x4].take q.2.2) q.1 q.2.1 q.2.2))]):=by
 have e:∀(rv iv:LA) (k:Nat) (i:AV),bL (ev (bC kR T) (n+19)) (fX 992) (Dg 0) (pz f u rv iv ss k fo (("place",.v i)::tl))=(gb (bC kR T) (n+19) (xv 1) (bN (Dg 0)) [.tup [.none,.lst rv],.tup [.none,.lst iv]] (pz f u rv iv ss k fo (("place",.v i)::tl))).bind λo s=>bR (ev (bC kR T) (n+19)) (fX 992) (cV (Dg 0)) o s:=λrv iv k i=>by kernel_rfl
 rw[e,I1 T n f u ss a b c d x0 x1 x2 x3 x4 fo tl q hq,c0];generalize K0 _ _ q.1 q.2.1 q.2.2=h;obtain rfl|⟨b,rfl⟩:=ht<;>kernel_rfl
theorem Nh{T:cK}{f:AV}{rv iv fo:LA}{i:AV}{y:AV}{b:OV}(h:T 1346 [.v cu,.v f,.v (.lst hd),.v bP] ss=.ok (bV K xs y) b ss)(hl:fo.length<=100)(h2:hd.length=2):bL (ev (bC kR T) (n+19)) (fX 992) (Dg 1) (pz f u rv iv ss k (.ol fo) [("place",.v i),("handed",.v (.lst hd))])=.ok .next (pz f u rv iv ss k (.ol (fo++[bV K xs y])) [("place",.v i),("handed",.v (.lst hd))]):=by
 obtain⟨p,q,rfl⟩:∃p q,hd=[p,q]:=by
  match hd,h2 with
  |[p,q],_=>exact(iY p q rfl)
 have ar:bY (ev (bC kR T) (n+16)) (fX 992) false (bX (eB (eB (bN (Dg 1))))) (pz f u rv iv ss k (.ol fo) [("place",.v i),("handed",.v (.lst [p,q]))])=.ok [.v f,.v (.lst [p,q]),.v bP] (pz f u rv iv ss k (.ol fo) [("place",.v i),("handed",.v (.lst [p,q]))]):=by kernel_rfl
 have d:=Er (by decide) (by kernel_rfl) (by kernel_rfl) (w8 (by kernel_rfl) ar h)
 exact(As (o:=.Name "found" ⟨0,0,0,0⟩) (x:="found") (by kernel_rfl) d (by kernel_rfl) hl).trans (by kernel_rfl)
theorem Nk(rv iv fo:LA)(k)(tl):ey 992 (bO (ev (bC kR T) (n+20)) (fX 992) [jy 6,jy 7] (pz f u rv iv ss k (.ol fo) tl))=.ok (.lst fo) (.v .none) ss:=by kernel_rfl
end
theorem Hj{i r m:Nat}(hr:r<=4)(hm:m<=5)(r0:0<r)(m0:0<m)(hi:i<Nat.max r m):(i,r,m)∈g2:=List.mem_flatMap.mpr ⟨(r,m),l7 hr hm (by
 rw[aO];exact⟨aQ r0,aQ m0⟩),List.mem_map.mpr (cf i (List.mem_range.mpr hi) rfl)⟩
theorem FX{r m:Nat}:qx r m=false↔(r=0↔m=0):=by
 unfold qx;obtain _|_:=r<;>obtain _|_:=m<;>simp[Nat.beq]
theorem mW{r m i:Nat}(hb:qx r m=false)(h:i<Nat.max r m):0<r/\0<m:=by
 have b:=FX.mp hb
 obtain _|r:=r
 ·rw[b.mp rfl]at h;exact absurd h (Nat.not_lt_zero _)
 ·obtain _|m:=m
  ·exact absurd (b.mpr rfl) (Nat.succ_ne_zero _)
  ·exact⟨Nat.succ_pos _,Nat.succ_pos _⟩
theorem WD{r m:Nat}(hr:r<=4)(hm:m<=5):Nat.max r m<=5:=Nat.max_le.mpr ⟨Nat.le_succ_of_le hr,hm⟩
def K7(gl:Nat->Str)(i:Nat):AV:=bV "character" [.str (gl i)] .none
def Xj(f u:AV)(rv iv:LA)(ss:OA)(gl:Nat->Str)(done:LA)(s:S):Prop:=∃tl,MM tl/\s=pz f u rv iv ss (Nat.max rv.length iv.length) (.ol ((List.range done.length).map (K7 gl))) tl
theorem Nj{T:cK}(n:Nat){f x y:AV}{rv iv:LA}(hr:rv.length<=4)(hm:iv.length<=5)(h1:T 561 [.v x] ss=.ok (.lst rv) (.v .none) ss)(h2:T 561 [.v y] ss=.ok (.lst iv) (.v .none) ss){gl:Nat->Str}(hT:∀i,0<rv.length->0<iv.length->T 1346 [.v cu,.v f,.v (K0 rv iv i rv.length iv.length),.v bP] ss=.ok (bV "character" [.str (gl i)] .none) (.v .none) ss):
  cA (bC kR T) (n+21) 992 [.v cu,.v f,.v (.lst [.tup [.none,x],.tup [.none,y]]),.v (.lst []),.v bP] ss=(match qx rv.length iv.length with|true=>.exc (.str lW) ss|false=>.ok (.lst ((List.range (Nat.max rv.length iv.length)).map λi=>bV "character" [.str (gl i)] .none)) (.v .none) ss):=by
 rw[IZ T (n+20)];refine zS (DD rv hr) λa b c d q1=>?_;refine M9 (L8 iv hm) λx0 x1 x2 x3 x4 q2=>?_;generalize hu:AV.lst [.tup [.none,x],.tup [.none,y]]=u;have w0:=R9 n f ss h1 h2;rw[hu]at w0;generalize hb:qx rv.length iv.length=zz;induction zz using i8 with
 |true=>
  have:=I2 T n f u ss a b c d x0 x1 x2 x3 x4 _ (l7 hr hm hb)
  rw[<-q1,<-q2]at this;rw[show fB 992=jy 0::(fB 992).drop 1 by kernel_rfl,bG w0 rfl]
  exact this
 |false=>
  have w1:=Nl T n f u ss a b c d x0 x1 x2 x3 x4 _ (l7 (p:=λr m=> !qx r m) hr hm (by rw[hb];rfl))
  rw[<-q1,<-q2]at w1;have I0:Xj f u rv iv ss gl [] (pz f u rv iv ss (Nat.max rv.length iv.length) (.ol []) []):=(cf ([]) (.inl rfl) rfl);obtain⟨s',e5,tl,ht,rfl⟩:=wU (f:=Qn T n) (xs:=(List.range (Nat.max rv.length iv.length)).map λ(k:Nat)=>AV.int (k:Int)) I0 λdone z rest s e h=>by
   refine cH (sP e) ?_;rintro rfl lt;refine bW h ?_;rintro tl ht rfl;refine bW (R7 T n f u ss rv iv (Nat.max rv.length iv.length) (.ol ((List.range done.length).map (K7 gl))) ht (.int done.length)) λeY Rz e1=>?_;have r0:=(mW hb lt).1;have m0:=(mW hb lt).2;refine⟨_,?_,[("place",.v (.int (done.length:Int))),("handed",.v (K0 rv iv done.length rv.length iv.length))],.inr (iY _ _ rfl),rfl⟩;have p0:=Ni T n f u ss a b c d x0 x1 x2 x3 x4 (fo:=.ol ((List.range done.length).map (K7 gl))) Rz (Hj hr hm r0 m0 lt);rw[<-q1,<-q2]at p0;unfold Qn;rw[e1,c0,oY,show cU (jy 5)=[Dg 0,Dg 1] by kernel_rfl,bG p0 (bG (Nh n u ss (hT _ r0 m0) (by rw[ah,aY];lia) rfl) rfl),aw,aT,List.range_succ,List.map_append]
   rfl
  rw[ah,aY]at e5;rw[show fB 992=jy 0::([jy 1,jy 2,jy 3,jy 4]++jy 5::[jy 6,jy 7]) by kernel_rfl,bG w0 (ew w1 (bG ((R8 T n f u ss rv iv (WD hr hm)).trans e5) rfl))]
  exact Nk ..
noncomputable def nj(b:Bool)(r:Nat):LA:=match b with|true=>Iy r|false=>eH r
noncomputable def rQ(b:Bool)(r c:Nat):OA:=match Nat.beq r c with|true=>some (nj b r)|false=>none
noncomputable def uu:List Addr:=[992,999,240]
abbrev pG(i:Nat):Stmt:=cM (fB 1006) i
abbrev C9(j o v:AV)(ss:OA)(tl:LO):S:=⟨[],("interp",.v cu)::("args",.v (.lst [.tup [.none,j],.tup [.none,o],.tup [.none,v]]))::("env",.v bP)::tl,ss,none⟩
noncomputable abbrev xt(o v:AV):AV:=.lst [.tup [.none,o],.tup [.none,v]]
section
variable(T:cK)(n:Nat)(nm:Str)(cl o v:AV)(ss:OA)
theorem A8(j):cA (bC uu T) (n+1) 1006 [.v cu,.v (.lst [.tup [.none,j],.tup [.none,o],.tup [.none,v]]),.v bP] ss=ey 1006 (bO (ev (bC uu T) n) (fX 1006) (fB 1006) (C9 j o v ss [])):=by kernel_rfl
theorem Hy:bO (ev (bC uu T) (n+30)) (fX 1006) [pG 0,pG 1] (C9 (cb nm cl) o v ss [])=.ok .next (C9 (cb nm cl) o v ss [("f",.v (cb nm cl)),("rows",.v (xt o v))]):=by kernel_rfl
theorem Vu(j)(b)(g):∀q∈rm λY Y=>true,bL (ev (bC uu T) (n+30)) (fX 1006) (pG 4) (C9 j o v ss [("f",.v j),("rows",.v (xt o v)),("found",.v (.lst ((List.range q.2).map g))),("names",.v (.lst (nj b q.1)))])=.ok .next (C9 j o v ss [("f",.v j),("rows",.v (xt o v)),("found",.v (.lst ((List.range q.2).map g))),("names",.v (dB (rQ b q.1 q.2)))]):=by
 obtain _|_:=b<;>exact cg _
theorem P8{T:cK}{nm:Str}{cl o v:AV}{ss:OA}{r c:Nat}(hr:r<=4)(hc:c<=5){gl:Nat->Str}(h1:T 992 [.v cu,.v (cb nm cl),.v (xt o v),.v (.lst []),.v bP] ss=.ok (.lst ((List.range c).map λi=>bV "character" [.str (gl i)] .none)) (.v .none) ss)(h2:T 999 [.v (xt o v),.v (.bool true)] ss=.ok (.lst (nj b r)) (.v .none) ss){x:AV}(h3:T 240 [.v (.lst ((List.range c).map λi=>bV "character" [.str (gl i)] .none)),.v (dB (rQ b r c))] ss=.ok x (.v .none) ss):cA (bC uu T) (n+31) 1006 [.v cu,.v (.lst [.tup [.none,cb nm cl],.tup [.none,o],.tup [.none,v]]),.v bP] ss=.ok x (.v .none) ss:=by
 rw[A8 T (n+30),show fB 1006=[pG 0,pG 1]++[pG 2,pG 3,pG 4,pG 5] by kernel_rfl]
 have q3:bL (ev (bC uu T) (n+30)) (fX 1006) (pG 3) (C9 (cb nm cl) o v ss [("f",.v (cb nm cl)),("rows",.v (xt o v)),("found",.v (.lst ((List.range c).map λi=>bV "character" [.str (gl i)] .none)))])=.ok .next (C9 (cb nm cl) o v ss [("f",.v (cb nm cl)),("rows",.v (xt o v)),("found",.v (.lst ((List.range c).map λi=>bV "character" [.str (gl i)] .none))),("names",.v (.lst (nj b r)))]):=dW (cX h2 (by kernel_rfl)) (by kernel_rfl)
 rw[ew (Hy T n nm cl o v ss) (bG (dW (cX h1 (by kernel_rfl)) (by kernel_rfl)) (bG q3 (bG (Vu T n o v ss (cb nm cl) b _ (r,c) (l7 hr hc rfl)) (dj (g8 (cX h3 (by kernel_rfl)))))))]
 rfl
theorem Kv{T:cK}{nm:Str}{cl o v m:AV}{ss:OA}(h1:T 992 [.v cu,.v (cb nm cl),.v (xt o v),.v (.lst []),.v bP] ss=.exc m ss):cA (bC uu T) (n+31) 1006 [.v cu,.v (.lst [.tup [.none,cb nm cl],.tup [.none,o],.tup [.none,v]]),.v bP] ss=.exc m ss:=by
 rw[A8 T (n+30),show fB 1006=[pG 0,pG 1]++[pG 2,pG 3,pG 4,pG 5] by kernel_rfl]
 have e:bL (ev (bC uu T) (n+30)) (fX 1006) (pG 2) (C9 (cb nm cl) o v ss [("f",.v (cb nm cl)),("rows",.v (xt o v))])=((ev (bC uu T) (n+30)).e (fX 1006) (bN (pG 2)) (C9 (cb nm cl) o v ss [("f",.v (cb nm cl)),("rows",.v (xt o v))])).bind λo s=>bR (ev (bC uu T) (n+30)) (fX 1006) (cV (pG 2)) o s:=by kernel_rfl
 rw[ew (Hy T n nm cl o v ss) (Au (e.trans (aN (λr=>R.bind r _) (A7 (l:=uu) (T:=T) (n:=n+29) (cx:=fX 1006) (e:=bN (pG 2)) (cl:=[]) (loc:=(C9 (cb nm cl) o v ss [("f",.v (cb nm cl)),("rows",.v (xt o v))]).loc) (dl:=none) (by kernel_rfl) h1 (by kernel_rfl)))))]
 rfl
end
noncomputable def sg(j:Nat):Str:=match j with|0=>"p"|1=>"q"|2=>"r"|_=>"s"
def Lh(k x:Int):Str:=if k=0 then fj x else nt "x" x.toNat
def oX(k:Int)(fs:List Int)(r i:Nat):Str:=C4 (sg (i%r)) (Lh k ((fs[i%fs.length]?).getD 0))
theorem JW{k x:Int}(hk:k=0\/k=1)(hx:eO x):xu (cP k x) (Lh k x):=by
 obtain rfl|rfl:=hk
 ·exact .i x hx
 ·exact .s _
theorem AN{k x:Int}(hk:k=0\/k=1)(hx:eO x):(Lh k x).cps.size<=1000:=by
 obtain rfl|rfl:=hk<;>obtain rfl|rfl|rfl|rfl|rfl:=hx.cases<;>decide
theorem sO(j):(sg j).cps.size=1:=by
 unfold sg
 split<;>rfl
def Gq(r:Nat):LA:=[bV "character" [.str "p"] .none,bV "character" [.str "q"] .none,bV "character" [.str "r"] .none,bV "character" [.str "s"] .none].take r
theorem qW{r:Nat}(hr:r<=4):(Gq r).length=r:=by
 unfold Gq;rw[List.length_take];exact Nat.min_eq_left hr
theorem Jp{r:Nat}(hr:r<=4)(r0:0<r)(i:Nat):((Gq r)[i%r]?).getD .none=bV "character" [.str (sg (i%r))] .none:=by
 have h:i%r<r:=Nat.mod_lt _ r0
 generalize i%r=j at*;unfold Gq;rw[List.getElem?_take_of_lt h];have:=Um (aK h hr);obtain rfl|rfl|rfl|rfl:=this<;>rfl
theorem Hk{f:Int->β}{d:β}(m0:0<fs.length)(i):((fs.map f)[i%fs.length]?).getD d=f ((fs[i%fs.length]?).getD 0)/\(fs[i%fs.length]?).getD 0∈fs:=by
 have h:i%fs.length<fs.length:=Nat.mod_lt _ m0
 rw[bc,az h];exact⟨rfl,List.getElem_mem h⟩
theorem Mm(b){r:Nat}(hr:r<=4)(ss):TA 561 [.v (oH b r)] ss=.ok (.lst (Gq r)) (.v .none) ss:=by
 have:∀r∈n5,TA 561 [.v (oH b r)] ss=.ok (.lst (Gq r)) (.v .none) ss:=by
  obtain _|_:=b<;>exact cg _
 exact this r (hB hr)
theorem NF(b){r:Nat}(hr:r<=4)(v)(ss):TA 999 [.v (xt (oH b r) v),.v (.bool true)] ss=.ok (.lst (nj b r)) (.v .none) ss:=by
 have:∀r∈n5,TA 999 [.v (xt (oH b r) v),.v (.bool true)] ss=.ok (.lst (nj b r)) (.v .none) ss:=by
  obtain _|_:=b<;>exact cg _
 exact this r (hB hr)
noncomputable def l8(g:Nat->Str)(c:Nat):LP:=(List.range c).map λi=>("character",[.str (g i)])
theorem rf(g)(c):(l8 g c).map pv=(List.range c).map (K7 g):=by
 unfold l8;rw[bh];rfl
def K4:cK:=λa os ss=>match Nat.beq a 1346 with|true=>TV a os ss|false=>TA a os ss
def Ie:cK:=λa os ss=>match Nat.beq a 992 with|true=>cA (bC kR K4) 21 a os ss|false=>TA a os ss
theorem MP{a:Addr}(h:Nat.beq a 1346=false)(os)(ss):K4 a os ss=TA a os ss:=by unfold K4;rw[h]
theorem VS(os)(ss):K4 1346 os ss=TV 1346 os ss:=rfl
theorem MR{a:Addr}(h:Nat.beq a 992=false)(os)(ss):Ie a os ss=TA a os ss:=by unfold Ie;rw[h]
theorem MQ(os)(ss):Ie 992 os ss=cA (bC kR K4) 21 992 os ss:=rfl
def DG(k:Int)(fs:List Int)(b:Bool)(r:Nat)(ss:OA):C:=match qx r fs.length with
 |true=>.exc (.str lW) ss
 |false=>.ok (zj (l8 (oX k fs r) (Nat.max r fs.length)) (rQ b r (Nat.max r fs.length))) (.v .none) ss
def VU(T:cK):Prop:=∀(fs:List Int) (k:Int) (nb rb b:Bool) (r:Nat) (ss:OA),(∀x∈fs,eO x)->fs.length<=5->(k=0\/k=1)->r<=4->T 1006 [.v cu,.v (.lst [.tup [.none,cb "j" gr],.tup [.none,oH b r],.tup [.none,tY fs k nb rb]]),.v bP] ss=DG k fs b r ss
theorem Ud:VU (cA (bC uu Ie) 40):=λfs k nb rb b r ss hf cI hk hr=>by
 have w:=Nj 0 (by rw[qW hr];exact hr) (by rw[ah];exact cI) ((MP rfl ..).trans (Mm b hr ss)) ((MP rfl ..).trans (pL fs cI k hk nb rb ss)) (gl:=oX k fs r) λi r0 m0=>by
  rw[qW hr]at r0⊢;rw[ah]at m0⊢;unfold K0;refine cH (Hk (f:=gT k) (d:=AV.none) m0 i) λh1 h2=>?_;rw[Jp hr r0,h1];exact(VS ..).trans (UQ _ _ _ _ _ _ ss (.s _) (JW hk (hf _ h2)) (by rw[sO];decide) (AN hk (hf _ h2)))
 rw[qW hr,ah]at w;unfold DG;generalize hb:qx r fs.length=zz;induction zz using i8 with
 |true=>
  rw[hb]at w;exact Kv 9 ((MQ ..).trans w)
 |false=>
  rw[hb]at w;have mx:Nat.max r fs.length<=5:=by show max _ _<=5;lia
  refine P8 9 hr mx ((MQ ..).trans w) ((MR rfl ..).trans (NF b hr _ ss)) ((MR rfl ..).trans ?_);have:=Hc (l8 (oX k fs r) _) (by unfold l8;rw[ah,aY];exact mx) (rQ b r (Nat.max r fs.length)) ss
  rw[rf]at this;unfold zj;rw[rf];exact this
theorem nT{n:Nat}{s2:S}{b:AV}{r:R Bool}(ha:(ev O n).e cx (k8 e) s=.ok (.v a) s1)(hb:(ev O n).e cx (ik e) s1=.ok (.v b) s2)(h:ij a b op s2=r)(h0:(ev O (n+1)).b cx e s=(vl ((ev O n).e cx (k8 e) s)).bind λa s=>(vl ((ev O n).e cx (ik e) s)).bind λb s=>ij a b op s:=by kernel_rfl):(ev O (n+1)).b cx e s=r:=by
 rw[h0,ha,ip,c0,hb,ip];exact h
abbrev pH(w:W)(hd bB:OV)(ss:LA)(mo:Nat)(d:AV)(tl:LO)(r:Nat)(b:Bool)(tm:LO):S:=mA w hd bB ss mo d tl (("row",.v (.lst (eH r)))::("other",.v (oH b r))::("glued",.v gr)::("j",.v (cb "j" gr))::tm) 1389
abbrev oQ(i:Nat):Stmt:=cM (kh (sT 31)) i
def qF(i:Nat):Cx:=⟨iU,some (jc (match i with|0=>bN (oQ 1)|_=>dE (bX (dE (bX (uC (cB (oQ 3)))) 1)) 1)),none⟩
section
variable(T:cK)(n:Nat)(w:W)(hd bB:OV)(ss:LA)(mo:Nat)(d:AV)
theorem Ti{T:cK}{w:W}{bB:OV}{mo:Nat}{d v:AV}{ba:OV}{ss eG:LA}(ht:d6 tl){r:Nat}(h:T 1412 [.v (.ad 1006),.v cu,.v (.lst [.tup [.none,cb "j" gr],.tup [.none,oH b r],.tup [.none,w.v]])] (some ss)=.ok v ba (some ss)):xL T n (sT 30) (mA w hd bB ss mo d tl [("row",.v (.lst (eH r))),("other",eR "character" (eH r) (KQ b r)),("glued",.v gr),("j",mH "j" gr)] 1389)=.ok .next (pH w hd (.v v) ss mo d tl r b []):=by
 have ar:bY (eL T (n+19)) lX false (bX (bN (sT 30))) (mA w hd bB ss mo d tl [("row",.v (.lst (eH r))),("other",eR "character" (eH r) (KQ b r)),("glued",.v gr),("j",mH "j" gr)] 1389)=.ok [.v (.ad 1006),.v cu,.v (.lst [.tup [.none,cb "j" gr],.tup [.none,oH b r],.tup [.none,w.v]])] (pH w hd bB ss mo d tl r b []):=by
  obtain _|_:=b<;>obtain rfl|⟨a,rfl⟩:=ht<;>kernel_rfl
 obtain rfl|⟨a,rfl⟩:=ht<;>exact dW (dX ar h) (by kernel_rfl)
theorem LI{w:W}{m:Nat}(h:w.ma=.int m):w={w with ma:=.int m}:=by cases w;cases h;rfl
theorem Sa{w:W}{m:Nat}(h:w.ma=.int m)(h2:w.it=.lst xs):w={w with ma:=.int m,it:=.lst xs}:=by cases w;cases h;cases h2;rfl
theorem Od(ht:d6 tl)(b){r m:Nat}(hr:r<=4)(hm:m<=5)(hb:qx r m=true)(hw:w.ma=.int m):xL T n (sT 31) (pH w hd (.v (.str lW)) ss mo d tl r b [])=.ok .next (pH w hd (.v (.str lW)) ss mo d tl r b []):=by
 have:∀q∈rm qx,xL T n (sT 31) (pH {w with ma:=.int q.2} hd (.v (.str lW)) ss mo d tl q.1 b [])=.ok .next (pH {w with ma:=.int q.2} hd (.v (.str lW)) ss mo d tl q.1 b []):=by
  obtain rfl|⟨a,rfl⟩:=ht<;>exact cg _
 have:=this _ (l7 hr hm hb)
 rwa [<-LI hw]at this
theorem Su(ht:d6 tl)(b){r m:Nat}(hr:r<=4)(hm:m<=5)(hb:qx r m=false)(hw:w.ma=.int m):(eL T (n+20)).b lX (cB (sT 31)) (pH w hd bB ss mo d tl r b [])=.ok false (pH w hd bB ss mo d tl r b [])/\bL (eL T (n+19)) lX (oQ 0) (pH w hd bB ss mo d tl r b [])=.ok .next (pH w hd bB ss mo d tl r b [("count",.v (.int (Nat.max r m)))]):=by
 have h1:∀q∈rm λr m=> !qx r m,(eL T (n+20)).b lX (cB (sT 31)) (pH {w with ma:=.int q.2} hd bB ss mo d tl q.1 b [])=.ok false (pH {w with ma:=.int q.2} hd bB ss mo d tl q.1 b []):=by
  obtain rfl|⟨a,rfl⟩:=ht<;>exact cg _
 have h2:∀q∈rm λr m=> !qx r m,bL (eL T (n+19)) lX (oQ 0) (pH {w with ma:=.int q.2} hd bB ss mo d tl q.1 b [])=.ok .next (pH {w with ma:=.int q.2} hd bB ss mo d tl q.1 b [("count",.v (.int (Nat.max q.1 q.2)))]):=by
  obtain rfl|⟨a,rfl⟩:=ht<;>exact cg _
 have h1:=h1 _ (l7 hr hm (by rw[hb];rfl))
 have h2:=h2 _ (l7 hr hm (by rw[hb];rfl))
 rw[<-LI hw]at h1 h2;exact⟨h1,h2⟩
abbrev qy(w:W)(hd bB:OV)(ss:LA)(mo:Nat)(d:AV)(tl:LO)(r:Nat)(b:Bool)(c:Nat)(tm:LO):S:=pH w hd bB ss mo d tl r b (("count",.v (.int c))::tm)
abbrev Ds:Expr:=eJ (bN (oQ 1))
theorem Vy(ht:d6 tl)(b)(r){c:Nat}(hc:c<=5):bL (eL T (n+19)) lX (oQ 1) (qy w hd bB ss mo d tl r b c [])=(gb (bC eT T) (n+19) (qF 0) (bN (oQ 1)) ((List.range c).map λ(k:Nat)=>AV.int (k:Int)) (qy w hd bB ss mo d tl r b c [])).bind λo s=>bR (eL T (n+19)) lX (cV (oQ 1)) o s:=by
 have:∀c∈n6,bL (eL T (n+19)) lX (oQ 1) (qy w hd bB ss mo d tl r b c [])=(gb (bC eT T) (n+19) (qF 0) (bN (oQ 1)) ((List.range c).map λ(k:Nat)=>AV.int k) (qy w hd bB ss mo d tl r b c [])).bind λo s=>bR (eL T (n+19)) lX (cV (oQ 1)) o s:=by
  obtain rfl|⟨a,rfl⟩:=ht<;>exact cg _
 exact this c (by
  have:c=0\/c=1\/c=2\/c=3\/c=4\/c=5:=by lia
  obtain rfl|rfl|rfl|rfl|rfl|rfl:=this<;>decide)
abbrev De(w:W)(hd bB:OV)(ss:LA)(mo:Nat)(d:AV)(tl:LO)(r:Nat)(b:Bool)(c:Nat)(i:Nat):S:={qy w hd bB ss mo d tl r b c []with cl:=[("at",.int i)]}
theorem T9(ht:d6 tl)(b)(x0 x1 x2 x3 x4):∀q∈g2,(eL T (n+16)).e (qF 0) (k6 (gO (gO Ds))) (De {w with ma:=.int q.2.2,it:=.lst ([x0,x1,x2,x3,x4].take q.2.2)} hd bB ss mo d tl q.2.1 b (Nat.max q.2.1 q.2.2) q.1)=.ok (.v (.str (sg (q.1%q.2.1)))) (De {w with ma:=.int q.2.2,it:=.lst ([x0,x1,x2,x3,x4].take q.2.2)} hd bB ss mo d tl q.2.1 b (Nat.max q.2.1 q.2.2) q.1):=by
 obtain rfl|⟨a,rfl⟩:=ht<;>exact cg _
theorem TZ(ht:d6 tl)(b)(x0 x1 x2 x3 x4):∀q∈g2,(eL T (n+16)).e (qF 0) (eB (k6 (gO Ds))) (De {w with ma:=.int q.2.2,it:=.lst ([x0,x1,x2,x3,x4].take q.2.2)} hd bB ss mo d tl q.2.1 b (Nat.max q.2.1 q.2.2) q.1)=.ok (.v ((([x0,x1,x2,x3,x4].take q.2.2)[q.1%q.2.2]?).getD .none)) (De {w with ma:=.int q.2.2,it:=.lst ([x0,x1,x2,x3,x4].take q.2.2)} hd bB ss mo d tl q.2.1 b (Nat.max q.2.1 q.2.2) q.1):=by
 obtain rfl|⟨a,rfl⟩:=ht<;>exact cg _
theorem Jg{k x:Int}(hk:k=0\/k=1)(hx:eO x)(s):lh "str" [cP k x] s=.ok (.v (.str (Lh k x))) s:=by
 obtain rfl|rfl:=hk
 ·obtain rfl|rfl|rfl|rfl|rfl:=hx.cases<;>kernel_rfl
 ·kernel_rfl
theorem Sk(ht:d6 tl)(b){k:Int}(hk:k=0\/k=1)(hf:∀x∈fs,eO x)(cI:fs.length<=5){r i:Nat}(hr:r<=4)(hb:qx r fs.length=false)(hi:i<Nat.max r fs.length)(hw:w.ma=.int fs.length)(H0:w.it=.lst (fs.map (cP k))):(eL T (n+19)).e (qF 0) Ds (De w hd bB ss mo d tl r b (Nat.max r fs.length) i)=.ok (.v (.str (oX k fs r i))) (De w hd bB ss mo d tl r b (Nat.max r fs.length) i):=by
 have m0:=(mW hb hi).2
 refine M9 (L8 (fs.map (cP k)) (by rw[ah];exact cI)) λx0 x1 x2 x3 x4 q=>?_
 rw[ah]at q;have hg:=Hj hr cI ((mW hb hi).1) m0 hi;have a:=T9 T n w hd bB ss mo d ht b x0 x1 x2 x3 x4 _ hg;have c:=TZ T n w hd bB ss mo d ht b x0 x1 x2 x3 x4 _ hg;dsimp only at a c;rw[<-q,<-Sa hw H0]at a c;refine cH (Hk (f:=cP k) (d:=AV.none) m0 i) λh1 h2=>?_;rw[h1]at c;have z:("(":Str).cps.size=1:=rfl;have z1:=sO (i%r);have z2:=AN hk (hf _ h2);have c:(eL T (n+17)).e (qF 0) (k6 (gO Ds)) (De w hd bB ss mo d tl r b (Nat.max r fs.length) i)=.ok (.v (.str (Lh k ((fs[i%fs.length]?).getD 0)))) (De w hd bB ss mo d tl r b (Nat.max r fs.length) i):=by
  have e:∀s,(eL T (n+17)).e (qF 0) (k6 (gO Ds)) s=(oM (eL T (n+16)) (qF 0) [eB (k6 (gO Ds))] s).bind λas s=>lh "str" as s:=λs=>by kernel_rfl
  rw[e,gH c rfl];exact Jg hk (hf _ h2) _
 have e0:(eL T (n+16)).e (qF 0) (gO (gO (gO Ds))) (De w hd bB ss mo d tl r b (Nat.max r fs.length) i)=.ok (.v (.str "(")) (De w hd bB ss mo d tl r b (Nat.max r fs.length) i):=by kernel_rfl
 have e2:=nU (by kernel_rfl) (nU (by kernel_rfl) e0 a (pN (by lia))) c (pN (by rw[jr];lia))
 exact nU (by kernel_rfl) e2 (show(eL T _).e _ _ _=.ok (.v (.str ")")) _ by kernel_rfl) (pN (by rw[jr,jr,show(")":Str).cps.size=1 from rfl];lia))
end
theorem sj{n:Nat}{r:R OV}(h0:(ev O (n+1)).e cx e s=((ev O n).b cx (uy e) s).bind λc s=>(match c with|true=>(ev O n).e cx (rZ e) s|false=>(ev O n).e cx (iF e) s))(h:(ev O n).b cx (uy e) s=.ok b s1)(h2:mB b ((ev O n).e cx (rZ e) s1) ((ev O n).e cx (iF e) s1)=r):(ev O (n+1)).e cx e s=r:=by
 rw[h0,h];obtain _|_:=b<;>exact h2
noncomputable def zJ(g:Nat->Str)(c:Nat):LA:=(List.range c).map λi=>AV.str (g i)
section
variable(T:cK)(n:Nat)(w:W)(hd bB:OV)(ss:LA)(mo:Nat)(d:AV)
theorem Sj(ht:d6 tl)(b){k:Int}(hk:k=0\/k=1)(hf:∀x∈fs,eO x)(cI:fs.length<=5){r:Nat}(hr:r<=4)(hb:qx r fs.length=false)(hw:w.ma=.int fs.length)(H0:w.it=.lst (fs.map (cP k))):bL (eL T (n+19)) lX (oQ 1) (qy w hd bB ss mo d tl r b (Nat.max r fs.length) [])=.ok .next (qy w hd bB ss mo (.lst (zJ (oX k fs r) (Nat.max r fs.length))) tl r b (Nat.max r fs.length) []):=by
 rw[Vy T n w hd bB ss mo d ht b r (WD hr cI),gh ⟨(gN (bN (oQ 1))).pos,by kernel_rfl⟩ (by rw[aY];lia) λi hi=>Sk T n w hd bB ss mo d ht b hk hf cI hr hb (List.mem_range.mp hi) hw H0]
 change bR (eL T (n+19)) lX (cV (oQ 1)) (.v (.lst (zJ _ _))) (qy w hd bB ss mo d tl r b _ [])=_
 generalize zJ _ _=l;obtain rfl|⟨a,rfl⟩:=ht<;>kernel_rfl
theorem Sd{T:cK}(ht:d6 tl)(b)(r c)(h:T 1395 [.v (oH b r)] (some ss)=.ok (dB (Qx b r)) (.v .none) (some ss)):bL (eL T (n+19)) lX (oQ 2) (qy w hd bB ss mo d tl r b c [])=.ok .next (qy w hd bB ss mo d tl r b c [("tops",.v (.lst (nj b r)))]):=by
 have cc:∀k e,(∀S,(ev _ _).e lX e S=(bY _ lX false _ S).bind λos s=>(T 1395 (([]).map OV.v++os) s.ss).toR s λv Y s=>cZ v s)->bY _ lX false _ _=.ok [.v _] (qy w hd bB ss mo d tl r b c [])->(ev (bC eT T) (k+1)).e lX e (qy w hd bB ss mo d tl r b c [])=.ok _ (qy w hd bB ss mo d tl r b c []):=λk e h0 ha=>dX (h0:=h0 _) ha h
 have t:(eL T (n+18)).b lX (uy (bN (oQ 2))) (qy w hd bB ss mo d tl r b c [])=.ok b (qy w hd bB ss mo d tl r b c []):=by
  refine nT (op:=.IsNot) (cc _ _ (λS=>by kernel_rfl) (by obtain rfl|⟨a,rfl⟩:=ht<;>kernel_rfl)) (b:=.none) (s2:=qy w hd bB ss mo d tl r b c []) (by obtain rfl|⟨a,rfl⟩:=ht<;>kernel_rfl) ?_
  obtain _|_:=b<;>rfl
 have v:(eL T (n+19)).e lX (bN (oQ 2)) (qy w hd bB ss mo d tl r b c [])=.ok (.v (.lst (nj b r))) (qy w hd bB ss mo d tl r b c []):=by
  refine sj (by kernel_rfl) t ?_
  induction b using i8 with
  |true=>exact cc _ _ (λS=>by kernel_rfl) (by obtain rfl|⟨a,rfl⟩:=ht<;>kernel_rfl)
  |false=>obtain rfl|⟨a,rfl⟩:=ht<;>kernel_rfl
 exact dW v (by obtain rfl|⟨a,rfl⟩:=ht<;>kernel_rfl)
abbrev RV(w:W)(hd bB:OV)(ss:LA)(mo:Nat)(g:Nat->Str)(tl:LO)(r:Nat)(b:Bool)(c:Nat):S:=qy w hd bB ss mo (.lst (zJ g c)) tl r b c [("tops",.v (.lst (nj b r)))]
theorem R0(bB)(ht:d6 tl)(b)(g):∀q∈rm λr c=>Nat.ble r c,bY (eL T (n+16)) lX false (bX (uC (cB (oQ 3)))) (RV w hd (.v bB) ss mo g tl q.1 b q.2)=.ok [.v bB,.v (bV "list" ((List.range q.2).map (K7 g)) .none),.v (dB (rQ b q.1 q.2))] (RV w hd (.v bB) ss mo g tl q.1 b q.2):=by
 obtain _|_:=b<;>obtain rfl|⟨a,rfl⟩:=ht<;>exact cg _
theorem Th{T:cK}{w:W}{bB:AV}(ht:d6 tl){k:Int}(hk:k=0\/k=1)(hf:∀x∈fs,eO x)(cI:fs.length<=5){r:Nat}(hr:r<=4)(hb:qx r fs.length=false)(hw:w.ma=.int fs.length)(H0:w.it=.lst (fs.map (cP k)))(h1:T 1395 [.v (oH b r)] (some ss)=.ok (dB (Qx b r)) (.v .none) (some ss))(h2:T 1400 [.v bB,.v (bV "list" ((l8 (oX k fs r) (Nat.max r fs.length)).map pv) .none),.v (dB (rQ b r (Nat.max r fs.length)))] (some ss)=.ok (.bool true) (.v .none) (some ss)):
  xL T n (sT 31) (pH w hd (.v bB) ss mo d tl r b [])=.ok .next (RV w hd (.v bB) ss mo (oX k fs r) tl r b (Nat.max r fs.length)):=by
 have mx:Nat.max r fs.length<=5:=by show max _ _<=5;lia
 have le:r<=Nat.max r fs.length:=by show r<=max _ _;lia
 refine cH (Su T n w hd (.v bB) ss mo d ht b hr cI hb hw) λt l0=>?_;have ar:=R0 T n w hd ss mo bB ht b (oX k fs r) _ (l7 hr mx (aQ le));rw[<-rf]at ar;refine mJ t ?_;rw[show kh (sT 31)=[oQ 0,oQ 1,oQ 2,oQ 3] by kernel_rfl]
 exact bG l0 (bG (Sj T n w hd (.v bB) ss mo d ht b hk hf cI hr hb hw H0) (bG (Sd n w hd (.v bB) ss mo (.lst (zJ (oX k fs r) (Nat.max r fs.length))) ht b r (Nat.max r fs.length) h1) (bG (jG (zY (b:=true) (by kernel_rfl) (dX ar h2))) rfl)))
end
def zd(tm:LO):Prop:=tm=[]\/∃a b,tm=[(("count":Str),OV.v a),("tops",.v b)]
noncomputable def zg(r:Nat)(bH right:Bool):LA:=match bH,right with
 |false,_=>eH r
 |true,true=>eH r++[.str "z"]
 |true,false=>.str "z"::eH r
noncomputable def ux(r:Nat)(bH right:Bool):LA:=match right with
 |true=>(zg r bH right).reverse
 |false=>zg r bH right
noncomputable def NO(right:Bool)(l v:AV):AV:=match l,v with
 | .str l,.str v=>.str (match right with|true=>C4 v l|false=>C4 l v)
 |_,_=>.none
noncomputable def ML(right:Bool):AV->LA->LA
 |l,[]=>[l]
 |l,v::vs=>l::ML right (NO right l v) vs
noncomputable def mD(r:Nat)(bH right:Bool):LA:=match ux r bH right with
 |[]=>[]
 |a::l=>ML right a l
def y4(b:Bool):AV:=bV "logical" [.int (match b with|true=>1|false=>0)] .none
def iP(o:AV)(bH right bS:Bool):LA:=[.tup [.none,cb "j" gr],.tup [.none,o],.tup [.str "right",y4 right],.tup [.str "accumulate",y4 bS]]++(match bH with|true=>[.tup [.str "init",bV "character" [.str "z"] .none]]|false=>[])
section
variable(T:cK)(n:Nat)(w:W)(hd bB:OV)(ss:LA)(mo:Nat)(d:AV)
theorem uT{T:cK}(hT:fH T){x:Stmt}{S1:OV->S}{S2:OV->Bool->S}(h:dx)(eb:∀cs i h2 h3,bL rc lX x (S1 (cT cs i h2 h3))=(((vl ((T 1374 [cT cs i h2 h3,.v (.int 2)] (some ss)).toL "hand" (S1 (cT cs i h2 h3)))).bind λa s=>ij a (.int 1) .Eq s).bind λb s=>cZ (.bool b) s).bind λo s=>bR rc lX (cV x) o s)(ea:∀cs i h2 h3 LD i' C3 lR b,bR rc lX (cV x) (.v (.bool b)) {(S1 (cT cs i h2 h3)).set "hand" (cT LD i' C3 lR)with ss:=some ss}=.ok .next (S2 (cT LD i' C3 lR) b)):
  ∃b h',bL rc lX x (S1 h.o)=.ok .next (S2 (dx.o h') b):=by
 refine dR (hT h 2 (some ss) (.inl rfl)) λd h' e d0 d1=>(iY (decide (d=1)) h' ?_)
 unfold dx.o at e⊢;rw[eb,e];have:d=0\/d=1:=by lia
 obtain rfl|rfl:=this<;>exact ea ..
abbrev rL(w:W)(hd bB:OV)(ss:LA)(mo:Nat)(d:AV)(tl:LO)(r:Nat)(b:Bool)(tm tn:LO):S:=pH w hd bB ss mo d tl r b (tm++tn)
theorem Tg{T:cK}(hT:fH T)(ht:d6 tl)(hm:zd tm)(r)(b)(h:dx):∃x h',xL T n (sT 32) (rL w h.o bB ss mo d tl r b tm [])=.ok .next (rL w (dx.o h') bB ss mo d tl r b tm [("right",.v (.bool x))]):=
 uT ss hT (S1:=λhd=>rL w hd bB ss mo d tl r b tm []) (S2:=λhd x=>rL w hd bB ss mo d tl r b tm [("right",.v (.bool x))]) h (λY Y Y Y=>by obtain rfl|⟨a,rfl⟩:=ht<;>obtain rfl|⟨a,b,rfl⟩:=hm<;>kernel_rfl) λY Y Y Y Y Y Y Y Y=>by obtain rfl|⟨a,rfl⟩:=ht<;>obtain rfl|⟨a,b,rfl⟩:=hm<;>kernel_rfl
theorem Tf{T:cK}(hT:fH T)(ht:d6 tl)(hm:zd tm)(r)(b)(p)(h:dx):∃x h',xL T n (sT 33) (rL w h.o bB ss mo d tl r b tm [("right",p)])=.ok .next (rL w (dx.o h') bB ss mo d tl r b tm [("right",p),("begun",.v (.bool x))]):=
 uT ss hT (S1:=λhd=>rL w hd bB ss mo d tl r b tm [("right",p)]) (S2:=λhd x=>rL w hd bB ss mo d tl r b tm [("right",p),("begun",.v (.bool x))]) h (λY Y Y Y=>by obtain rfl|⟨a,rfl⟩:=ht<;>obtain rfl|⟨a,b,rfl⟩:=hm<;>kernel_rfl) λY Y Y Y Y Y Y Y Y=>by obtain rfl|⟨a,rfl⟩:=ht<;>obtain rfl|⟨a,b,rfl⟩:=hm<;>kernel_rfl
theorem Te{T:cK}(hT:fH T)(ht:d6 tl)(hm:zd tm)(r)(b)(p q)(h:dx):∃x h',xL T n (sT 34) (rL w h.o bB ss mo d tl r b tm [("right",p),("begun",q)])=.ok .next (rL w (dx.o h') bB ss mo d tl r b tm [("right",p),("begun",q),("every",.v (.bool x))]):=
 uT ss hT (S1:=λhd=>rL w hd bB ss mo d tl r b tm [("right",p),("begun",q)]) (S2:=λhd x=>rL w hd bB ss mo d tl r b tm [("right",p),("begun",q),("every",.v (.bool x))]) h (λY Y Y Y=>by obtain rfl|⟨a,rfl⟩:=ht<;>obtain rfl|⟨a,b,rfl⟩:=hm<;>kernel_rfl) λY Y Y Y Y Y Y Y Y=>by obtain rfl|⟨a,rfl⟩:=ht<;>obtain rfl|⟨a,b,rfl⟩:=hm<;>kernel_rfl
noncomputable abbrev QW(a b:LO):LO:=a++b
abbrev K5(w:W)(hd bB:OV)(ss:LA)(mo:Nat)(d:OV)(tl:LO)(r:Nat)(b:Bool)(tm:LO)(right bH bS:Bool)(tn:LO)(dl:Nat):S:=⟨[],(Ma w hd bB ss 1357 (("model",.v (pv (dN mo)))::("due",d)::(QW tl (("row",.v (.lst (eH r)))::("other",.v (oH b r))::("glued",.v gr)::("j",.v (cb "j" gr))::(QW tm (("right",.v (.bool right))::("begun",.v (.bool bH))::("every",.v (.bool bS))::tn)))))).loc,some ss,some dl⟩
theorem Td(ht:d6 tl)(hm:zd tm)(r)(b right bH bS):yL T n [sT 35,sT 36] (K5 w hd bB ss mo (.v d) tl r b tm right bH bS [] 1389)=.ok .next (K5 w hd bB ss mo (.v d) tl r b tm right bH bS [("args",.ol (iP (oH b r) bH right bS))] 1389):=by
 obtain rfl|⟨a,rfl⟩:=ht<;>obtain rfl|⟨a,b,rfl⟩:=hm<;>obtain _|_:=right<;>obtain _|_:=bH<;>obtain _|_:=bS<;>kernel_rfl
def DW(to:LO):Prop:=to=[]\/∃a,to=[(("one":Str),OV.v a)]
noncomputable def Ip(l:LA):LO:=match l with|[]=>[]|[a]=>[]|a::b::l=>[("one",.v ((b::l).getLastD .none))]
theorem EG(l):DW (Ip l):=by
 unfold Ip
 split
 ·exact .inl rfl
 ·exact .inl rfl
 ·exact .inr ⟨_,rfl⟩
theorem Tc(ht:d6 tl)(hm:zd tm)(b right bH bS)(x):∀r∈n5,yL T n [sT 37,sT 38,sT 39,sT 40] (K5 w hd bB ss mo (.v d) tl r b tm right bH bS [("args",x)] 1389)=.ok .next (K5 w hd bB ss mo (.ol (mD r bH right)) tl r b tm right bH bS (("args",x)::("walked",.v (.lst (ux r bH right)))::Ip (ux r bH right)) 1389):=by
 obtain rfl|⟨a,rfl⟩:=ht<;>obtain rfl|⟨a,b,rfl⟩:=hm<;>obtain _|_:=right<;>obtain _|_:=bH<;>exact cg _
end
def vC(a:AV):AV:=bV "character" [a] .none
theorem Oh(right bH)(ss):∀r∈(match bH with|true=>n5|false=>[1,2,3,4]),cA dH 45 1013 [.v cu,.v (cb "j" gr),.v (.lst ((zg r bH right).map vC)),.v (.bool right),.v bP] ss=.ok (.lst ((mD r bH right).map vC)) (.v .none) ss:=by
 obtain _|_:=right<;>obtain _|_:=bH<;>exact cg _
noncomputable def Rf:AV:=.lst [.str "f",.str "x",.str "init",.str "right",.str "accumulate",.str "simplify"]
def zC(bH:Bool):AV:=match bH with|true=>vC (.str "z")|false=>.none
theorem NI(o)(bH right bS)(ss):cA dH 30 532 [.v (.lst (iP o bH right bS)),.v Rf] ss=.ok (.lst [cb "j" gr,o,zC bH,y4 right,y4 bS,.none]) (.v .none) ss:=by
 obtain _|_:=bH<;>kernel_rfl
theorem Am(b)(ss):TA 916 [.v (y4 b),.v (.bool false)] ss=.ok (.bool b) (.v .none) ss:=by obtain _|_:=b<;>kernel_rfl
theorem Pf(ss):TA 916 [.v .none,.v (.bool true)] ss=.ok (.bool true) (.v .none) ss:=by kernel_rfl
theorem Qc(xs:LA)(cI:xs.length<=5)(ss):TA 947 [.v (.lst (xs.map vC))] ss=.ok (.bool true) (.v .none) ss:=by
 revert xs;exact fP
theorem HF{r:R Bool}(h:rc.b cx e s=.ok true s1)(h2:fy rc cx .And l s1=r):fy rc cx .And (e::l) s=r:=by
 show(rc.b cx e s).bind _=_
 rw[h];exact h2
noncomputable def jA:List Addr:=[532,916,561,1013,947,928]
abbrev fQ(i:Nat):Stmt:=cM (fB 1020) i
abbrev Ws(aa:AV)(ss:OA)(tl:LO):S:=⟨[],("interp",.v cu)::("args",.v aa)::("env",.v bP)::tl,ss,none⟩
abbrev DB(aa o:AV)(bH right bS:Bool)(ss:OA)(tl:LO):S:=Ws aa ss (("f",.v (cb "j" gr))::("v",.v o)::("init",.v (zC bH))::("right",.v (y4 right))::("accumulate",.v (y4 bS))::("simplify",.v .none)::tl)
abbrev qC(aa o:AV)(bH right bS:Bool)(ss:OA)(vs:OV)(tl:LO):S:=DB aa o bH right bS ss (("backwards",.v (.bool right))::("values",vs)::tl)
noncomputable def Qq(b:Bool)(l:LA):OV:=match b with|true=>.ol l|false=>.v (.lst l)
noncomputable def Rq(right:Bool)(l:LA):OV:=match right with|true=>.ol l.reverse|false=>.v (.lst l)
structure RT(T:cK)(o:AV)(r:Nat)(bH right bS:Bool)(ss:Option (List AV)):Prop where
 tk:T 532 [.v (.lst (iP o bH right bS)),.v Rf] ss=.ok (.lst [cb "j" gr,o,zC bH,y4 right,y4 bS,.none]) (.v .none) ss
 fl:∀b,T 916 [.v (y4 b),.v (.bool false)] ss=.ok (.bool b) (.v .none) ss
 fn:T 916 [.v .none,.v (.bool true)] ss=.ok (.bool true) (.v .none) ss
 iv:T 561 [.v o] ss=.ok (.lst (Gq r)) (.v .none) ss
 rs:zg r bH right≠[]->T 1013 [.v cu,.v (cb "j" gr),.v (.lst ((zg r bH right).map vC)),.v (.bool right),.v bP] ss=.ok (.lst ((mD r bH right).map vC)) (.v .none) ss
 ao:∀xs:List AV,xs.length<=5->T 947 [.v (.lst (xs.map vC))] ss=.ok (.bool true) (.v .none) ss
 co:∀xs:List AV,xs≠[]->xs.length<=5->(∀a∈xs,∃s,a=AV.str s)->T 928 [.v (.lst (xs.map vC)),.v .none] ss=.ok (bV "character" xs .none) (.v .none) ss
section
variable(T:cK)(n:Nat)(aa o:AV)(ss:OA)
theorem Js(aa):cA (bC jA T) (n+1) 1020 [.v cu,.v aa,.v bP] ss=ey 1020 (bO (ev (bC jA T) n) (fX 1020) (fB 1020) (Ws aa ss [])):=by kernel_rfl
theorem TT(bH right bS):∀r∈n5,bL (ev (bC jA T) (n+30)) (fX 1020) (fQ 4) (qC aa o bH right bS ss (.v (.lst (Gq r))) [])=.ok .next (qC aa o bH right bS ss (Qq bH ((zg r bH right).map vC)) []):=by
 obtain _|_:=bH<;>obtain _|_:=right<;>exact cg _
theorem Om(right bS):ey 1020 (bO (ev (bC jA T) (n+30)) (fX 1020) ((fB 1020).drop 6) (qC aa o false right bS ss (.v (.lst [])) [("every",.v (.bool bS))]))=.ok kg (.v .none) ss:=by kernel_rfl
theorem TR(bH right bS)(a)(l:LA)(x)(hx:x=.ol (a::l)\/x=.v (.lst (a::l))):bL (ev (bC jA T) (n+30)) (fX 1020) (fQ 6) (qC aa o bH right bS ss x [("every",.v (.bool bS))])=.ok .next (qC aa o bH right bS ss x [("every",.v (.bool bS))]):=by
 obtain rfl|rfl:=hx<;>kernel_rfl
abbrev kY(aa o:AV)(bH right bS:Bool)(ss:OA)(vs:AV)(k:OV):S:=qC aa o bH right bS ss (.v vs) [("every",.v (.bool bS)),("kept",k)]
theorem Oj(bH right)(vs a)(ks:LA)(h:ks.reverse[0]? =some a):ey 1020 (bO (ev (bC jA T) (n+30)) (fX 1020) [fQ 8,fQ 9,fQ 10,fQ 11] (kY aa o bH right false ss vs (.v (.lst ks))))=.ok a (.v .none) ss:=by
 have q:fw (.lst ks) (.int (-1)) (kY aa o bH right false ss vs (.v (.lst ks)))=.ok (.v a) (kY aa o bH right false ss vs (.v (.lst ks))):=by
  show(match ks.reverse[0]? with|some a=>cZ a _|none=>.no)=_
  rw[h];rfl
 have e:bL (ev (bC jA T) (n+30)) (fX 1020) (fQ 8) (kY aa o bH right false ss vs (.v (.lst ks)))=bO (ev (bC jA T) (n+29)) (fX 1020) [cM (cU (fQ 8)) 0] (kY aa o bH right false ss vs (.v (.lst ks))):=by kernel_rfl
 rw[dj (e.trans (dj (g8 (lY q (by kernel_rfl) (by kernel_rfl)))))];rfl
theorem Ol(bH right)(vs)(ks:LA):bO (ev (bC jA T) (n+30)) (fX 1020) [fQ 8,fQ 9] (kY aa o bH right true ss vs (.v (.lst ks)))=.ok .next (kY aa o bH right true ss vs (Rq right ks)):=by
 obtain _|_:=right<;>kernel_rfl
theorem Oo{aa o:AV}{T:cK}{vs:AV}{k:OV}{ks:LA}{x:AV}(hk:k=.ol ks\/k=.v (.lst ks))(h1:T 916 [.v .none,.v (.bool true)] ss=.ok (.bool true) (.v .none) ss)(h2:T 947 [.v (.lst ks)] ss=.ok (.bool true) (.v .none) ss)(h3:T 928 [.v (.lst ks),.v .none] ss=.ok x (.v .none) ss):ey 1020 (bO (ev (bC jA T) (n+30)) (fX 1020) [fQ 10,fQ 11] (kY aa o bH right true ss vs k))=.ok x (.v .none) ss:=by
 have e0:(ev (bC jA T) (n+29)).b (fX 1020) (dE (j4 (cB (fQ 10))) 0) (kY aa o bH right true ss vs k)=.ok true (kY aa o bH right true ss vs k):=by
  have c:(ev (bC jA T) (n+28)).e (fX 1020) (dE (j4 (cB (fQ 10))) 0) (kY aa o bH right true ss vs k)=.ok _ (kY aa o bH right true ss vs k):=cX h1 (by kernel_rfl)
  have e:(ev (bC jA T) (n+29)).b (fX 1020) (dE (j4 (cB (fQ 10))) 0) (kY aa o bH right true ss vs k)=(vl ((ev (bC jA T) (n+28)).e (fX 1020) (dE (j4 (cB (fQ 10))) 0) (kY aa o bH right true ss vs k))).bind λa s=>(match gZ a with|some b=>.ok b s|none=>.no):=by kernel_rfl
  rw[e,c];rfl
 have e1:(ev (bC jA T) (n+29)).b (fX 1020) (dE (j4 (cB (fQ 10))) 1) (kY aa o bH right true ss vs k)=.ok true (kY aa o bH right true ss vs (.v (.lst ks))):=by
  have ar:bY (ev (bC jA T) (n+27)) (fX 1020) false (bX (dE (j4 (cB (fQ 10))) 1)) (kY aa o bH right true ss vs k)=.ok [.v (.lst ks)] (kY aa o bH right true ss vs (.v (.lst ks))):=by obtain rfl|rfl:=hk<;>kernel_rfl
  have c:=dX ar h2
  have e:(ev (bC jA T) (n+29)).b (fX 1020) (dE (j4 (cB (fQ 10))) 1) (kY aa o bH right true ss vs k)=(vl ((ev (bC jA T) (n+28)).e (fX 1020) (dE (j4 (cB (fQ 10))) 1) (kY aa o bH right true ss vs k))).bind λa s=>(match gZ a with|some b=>.ok b s|none=>.no):=by kernel_rfl
  rw[e,c];rfl
 have t:(ev (bC jA T) (n+30)).b (fX 1020) (cB (fQ 10)) (kY aa o bH right true ss vs k)=.ok true (kY aa o bH right true ss vs (.v (.lst ks))):=by
  refine Eq.trans (b:=fy (ev (bC jA T) (n+29)) (fX 1020) .And [dE (j4 (cB (fQ 10))) 0,dE (j4 (cB (fQ 10))) 1] (kY aa o bH right true ss vs k)) (by kernel_rfl)<|HF e0 (HF e1 rfl)
 have c:bL (ev (bC jA T) (n+29)) (fX 1020) (cM (cU (fQ 10)) 0) _=.ok _ (kY aa o bH right true ss vs (.v (.lst ks))):=g8 (cX h3 (by kernel_rfl))
 have b:=mJ t ((show(ev _ _).x _ _ _=bO _ _ [cM _ 0] _ by kernel_rfl).trans (dj c))
 rw[dj b];rfl
end
noncomputable def qB(right bS:Bool)(D:LA):LA:=match bS,right with
 |true,true=>D.reverse
 |true,false=>D
 |false,_=>(match D.reverse with|[]=>[]|a::_=>[a])
def xy(right bS:Bool)(D:LA):AV:=match D with
 |[]=>kg
 |D=>bV "character" (qB right bS D) .none
def Rc(r:Nat)(bH right bS:Bool):AV:=xy right bS (mD r bH right)
theorem Ew(bH right):∀r∈n5,Nat.ble (mD r bH right).length 5=true:=by
 obtain _|_:=bH<;>obtain _|_:=right<;>decide
noncomputable def Rw:AV->Bool
 | .str _=>true
 |_=>false
theorem wG(bH right):∀r∈n5,(mD r bH right).all Rw=true:=by
 obtain _|_:=bH<;>obtain _|_:=right<;>exact cg _
theorem Eu(bH right):∀r∈n5,(mD r bH right).isEmpty=(zg r bH right).isEmpty:=by
 obtain _|_:=bH<;>obtain _|_:=right<;>exact cg _
theorem TM{T:cK}(n:Nat){Dv:AV}{r:Nat}(KY:r∈[0,1,2,3,4])(H:RT T (bV K xs Dv) r bH right bS ss)(aa:LA)(Yt:T 532 [.v (.lst aa),.v Rf] ss=.ok (.lst [cb "j" gr,bV K xs Dv,zC bH,y4 right,y4 bS,.none]) (.v .none) ss):
  cA (bC jA T) (n+31) 1020 [.v cu,.v (.lst aa),.v bP] ss=ey 1020 (bO (ev (bC jA T) (n+30)) (fX 1020) ((fB 1020).drop 6) (qC (.lst aa) (bV K xs Dv) bH right bS ss (Qq bH ((zg r bH right).map vC)) [("every",.v (.bool bS))])):=by
 rw[Js T (n+30),show fB 1020=fQ 0::fQ 1::fQ 2::fQ 3::fQ 4::fQ 5::(fB 1020).drop 6 by kernel_rfl]
 exact aN (ey 1020) (bG (s':=DB (.lst aa) (bV K xs Dv) bH right bS ss []) (dW (cX Yt (by kernel_rfl)) (by kernel_rfl))
  (bG (s':=DB (.lst aa) (bV K xs Dv) bH right bS ss []) (by kernel_rfl)
  (bG (s':=DB (.lst aa) (bV K xs Dv) bH right bS ss [("backwards",.v (.bool right))]) (dW (cX (H.fl right) (by kernel_rfl)) (by kernel_rfl))
  (bG (dW (cX H.iv (by kernel_rfl)) (by kernel_rfl))
  (bG (TT T n (.lst aa) (bV K xs Dv) ss bH right bS r KY)
  (bG (dW (cX (H.fl bS) (by kernel_rfl)) (by kernel_rfl)) rfl))))))
section
variable{T:cK}(n:Nat){o:AV}{aa:LA}{l D:LA}{x:OV}
theorem TN(WL:x=.ol ((a::l).map vC)\/x=.v (.lst ((a::l).map vC)))(rs:T 1013 [.v cu,.v (cb "j" gr),.v (.lst ((a::l).map vC)),.v (.bool right),.v bP] ss=.ok (.lst (D.map vC)) (.v .none) ss):
  bO (ev (bC jA T) (n+30)) (fX 1020) ((fB 1020).drop 6) (qC (.lst aa) o bH right bS ss x [("every",.v (.bool bS))])=bO (ev (bC jA T) (n+30)) (fX 1020) [fQ 8,fQ 9,fQ 10,fQ 11] (kY (.lst aa) o bH right bS ss (.lst ((a::l).map vC)) (.v (.lst (D.map vC)))):=by
 rw[show(fB 1020).drop 6=fQ 6::fQ 7::[fQ 8,fQ 9,fQ 10,fQ 11] by kernel_rfl]
 exact bG (TR T n (.lst aa) _ ss bH right bS (vC a) (l.map vC) x WL) (bG (dW (dX (s1:=qC (.lst aa) o bH right bS ss (.v (.lst ((a::l).map vC))) [("every",.v (.bool bS))]) (by obtain rfl|rfl:=WL<;>kernel_rfl) rs) (by kernel_rfl)) rfl)
theorem TK{vs:AV}(nz:D≠[]):ey 1020 (bO (ev (bC jA T) (n+30)) (fX 1020) [fQ 8,fQ 9,fQ 10,fQ 11] (kY (.lst aa) o bH right false ss vs (.v (.lst (D.map vC)))))=.ok (xy right false D) (.v .none) ss:=by
 generalize hD:D.reverse=zz;induction zz using eZ with
 |nil=>exact absurd (List.reverse_eq_nil_iff.mp hD) nz
 |cons b t=>
  rw[Oj T n _ _ ss bH right _ _ _ (by rw[<-List.map_reverse,hD];rfl)]
  induction D using eZ with
  |nil=>exact absurd rfl nz
  |cons c D'=>
   show _=C.ok (bV "character" (match(c::D').reverse with|[]=>[]|a::_=>[a]) .none) _ _
   rw[hD];rfl
theorem Es(right)(D):Rq right (D.map vC)=.ol ((qB right true D).map vC)\/Rq right (D.map vC)=.v (.lst ((qB right true D).map vC)):=by
 obtain _|_:=right
 ·exact .inr rfl
 ·exact .inl (aN OV.ol (List.map_reverse ..).symm)
theorem sM(right)(D):(qB right true D).length=D.length:=by obtain _|_:=right<;>first|rfl|exact List.length_reverse ..
theorem Bp(str:D.all Rw=true)(ha:a∈qB right true D):∃s,a=AV.str s:=by
 have q:=by
  induction right using i8 with
  |true=>exact List.mem_reverse.mp ha
  |false=>exact ha
 have q:=List.all_eq_true.mp str a q
 induction a using AV.casesOn with
 |str x=>exact⟨x,rfl⟩
 |_=>exact dT q
theorem TJ{vs:AV}(nz:D≠[])(cI:D.length<=5)(str:D.all Rw=true)(h1:T 916 [.v .none,.v (.bool true)] ss=.ok (.bool true) (.v .none) ss)(h2:∀xs:LA,xs.length<=5->T 947 [.v (.lst (xs.map vC))] ss=.ok (.bool true) (.v .none) ss)(h3:∀xs:LA,xs≠[]->xs.length<=5->(∀a∈xs,∃s,a=AV.str s)->T 928 [.v (.lst (xs.map vC)),.v .none] ss=.ok (bV "character" xs .none) (.v .none) ss):
  ey 1020 (bO (ev (bC jA T) (n+30)) (fX 1020) [fQ 8,fQ 9,fQ 10,fQ 11] (kY (.lst aa) o bH right true ss vs (.v (.lst (D.map vC)))))=.ok (xy right true D) (.v .none) ss:=by
 rw[show[fQ 8,fQ 9,fQ 10,fQ 11]=[fQ 8,fQ 9]++[fQ 10,fQ 11]from rfl,ew (Ol T n _ _ ss bH right _ _) rfl]
 have sl:=aq (aR (sM right D)) cI
 refine(Oo n ss (Es right D) h1 (h2 _ sl) (h3 _ (λe=>nz (List.length_eq_zero_iff.mp (by rw[<-sM right,e];rfl))) sl λY q=>Bp str q)).trans ?_
 induction D using eZ with
 |nil=>exact absurd rfl nz
 |cons c D'=>rfl
theorem IY{r:Nat}(hw:zg r bH right=[]):bH=false:=by
 induction bH using i8 with
 |false=>rfl
 |true=>induction right using i8 with
  |true=>exact absurd hw (by unfold zg;simp)
  |false=>injection hw
theorem Nm(bH)(l):Qq bH l=.ol l\/Qq bH l=.v (.lst l):=by
 obtain _|_:=bH
 ·exact .inr rfl
 ·exact .inl rfl
end
theorem Oi{T:cK}(n){r:Nat}(hr:r<=4)(H:RT T (bV K xs Dv) r bH right bS ss):cA (bC jA T) (n+31) 1020 [.v cu,.v (.lst (iP (bV K xs Dv) bH right bS)),.v bP] ss=.ok (Rc r bH right bS) (.v .none) ss:=by
 have KY:=hB hr
 rw[TM n KY H _ H.tk];have Lu:=Eu bH right r KY;have rs:=H.rs;unfold Rc;generalize hw:zg r bH right=zz;induction zz using eZ with
 |nil=>
  rw[hw]at Lu;rw[List.isEmpty_iff.mp Lu];cases IY hw;exact Om ..
 |cons a l=>
  rw[hw]at Lu rs;have nz:mD r bH right≠[]:=λe=>by rw[e]at Lu;exact tZ Lu
  rw[TN n (Nm bH _) (rs (List.cons_ne_nil _ _))];induction bS using i8 with
  |false=>exact TK n nz
  |true=>exact TJ n nz (aB (Ew bH right r KY)) (wG bH right r KY) H.fn H.ao H.co
def MV(T:cK):Prop:=∀(b:Bool) (r:Nat) (bH right bS:Bool) (ss:OA),r<=4->T 1020 [.v cu,.v (.lst (iP (oH b r) bH right bS)),.v bP] ss=.ok (Rc r bH right bS) (.v .none) ss
def Ib:cK:=λa os ss=>match Nat.beq a 1013 with|true=>cA dH 45 a os ss|false=>(match Nat.beq a 532 with|true=>cA dH 30 a os ss|false=>QY a os ss)
theorem DX{a:Addr}(h:Nat.beq a 1013=false)(h2:Nat.beq a 532=false)(h3:Nat.beq a 928=false)(os)(ss):Ib a os ss=TA a os ss:=by
 unfold Ib QY;rw[h,h2,h3]
theorem U'(xs:LA)(h0:xs≠[])(cI:xs.length<=5)(h:∀a∈xs,∃s,a=AV.str s)(ss:OA):cA (bC k5 TA) 21 928 [.v (.lst (xs.map vC)),.v .none] ss=.ok (bV "character" xs .none) (.v .none) ss:=by
 have ok:∀p∈xs.map (λa=>(("character":Str),[a])),vY p:=λp hp=>by
  refine bW (List.mem_map.mp hp) ?_;rintro a ha rfl;refine cF (h a ha) ?_;rintro s rfl;exact .c s
 have one:ig (xs.map λa=>(("character":Str),[a]))="character":=by
  induction xs using eZ with
  |nil=>exact absurd rfl h0
  |cons a l=>rfl
 have:=Hp (T:=TA) 0 (ps:=xs.map λa=>("character",[a])) (K:="character") (g:=mY) (N:=none) (by rw[ah];exact cI) (λY e=>nomatch e) ss (by
   have:=Hr _ (λp hp=>(ok p hp).k) (λe=>h0 (List.map_eq_nil_iff.mp e)) ss
   rwa [one]at this) (λp hp=>by
   have:=MK (ok p hp) ss
   cases ok p hp with
   |i i _ _=>refine bW (List.mem_map.mp hp) λa Y e=>?_;exact absurd (aN Prod.fst e) (show¬("character":Str)="integer" by decide)
   |c s=>exact this) (λp hp=>GZ (ok p hp).k ss) (λf=>He f ss)
 rw[bh,bh]at this;rw[show xs.map (mY∘λa=>(("character":Str),[a]))=xs from(List.map_congr_left λa Y=>rfl).trans (List.map_id _)]at this
 exact this
theorem XM{r:Nat}(hr:r<=4)(bH right bS)(ss:OA):RT Ib (oH b r) r bH right bS ss where
 tk:=NI _ bH right bS ss
 fl:=λb=>(DX rfl rfl rfl ..).trans (Am b ss)
 fn:=(DX rfl rfl rfl ..).trans (Pf ss)
 iv:=(DX rfl rfl rfl ..).trans (Mm b hr ss)
 rs:=λh=>(rfl).trans (Oh right bH ss r (by
  induction bH using i8 with
  |true=>exact hB hr
  |false=>
   have:=Mf (Nat.lt_succ_of_le hr)
   obtain rfl|rfl|rfl|rfl|rfl:=this
   ·exact absurd (by obtain _|_:=right<;>rfl) h
   all_goals decide))
 ao:=λxs l=>(DX rfl rfl rfl ..).trans (Qc xs l ss)
 co:=λxs h l hs=>U' xs h l hs ss
theorem TI:MV (cA (bC jA Ib) 40):=λb r bH right bS ss hr=>Oi 9 hr (XM hr bH right bS ss)
section
variable(T:cK)(n:Nat)(w:W)(hd bB:OV)(ss:LA)(mo:Nat)(d:AV)
abbrev Dd(w:W)(hd bB:OV)(ss:LA)(mo:Nat)(d:OV)(tl:LO)(r:Nat)(b:Bool)(tm:LO)(right bH bS:Bool)(aa wl:OV)(to tn:LO)(dl:Nat):S:=K5 w hd bB ss mo d tl r b tm right bH bS (("args",aa)::("walked",wl)::QW to tn) dl
theorem Ta{T:cK}(ht:d6 tl)(hm:zd tm)(ho:DW to){r:Nat}{x:AV}(dd wl)(h:T 1020 [.v cu,.v (.lst (iP (oH b r) bH right bS)),.v bP] (some ss)=.ok x (.v .none) (some ss)):xL T n (sT 41) (Dd w hd bB ss mo dd tl r b tm right bH bS (.ol (iP (oH b r) bH right bS)) wl to [] 1389)=.ok .next (Dd w hd (.v x) ss mo dd tl r b tm right bH bS (.v (.lst (iP (oH b r) bH right bS))) wl to [] 1389):=by
 generalize iP _ bH right bS=aa at*;have ar:bY (eL T (n+19)) lX false (bX (bN (sT 41))) (Dd w hd bB ss mo dd tl r b tm right bH bS (.ol aa) wl to [] 1389)=.ok [.v cu,.v (.lst aa),.v bP] (Dd w hd bB ss mo dd tl r b tm right bH bS (.v (.lst aa)) wl to [] 1389):=by
  obtain rfl|⟨a,rfl⟩:=ht<;>obtain rfl|⟨a,b,rfl⟩:=hm<;>kernel_rfl
 refine dW (dX ar h) ?_
 kernel_rfl
abbrev Wk:Expr:=cB (cM (kh (sT 42)) 0)
theorem Jn{D:LA}(hD:D.all kW=true):(qB right bS D).all kW=true:=by
 rw[List.all_eq_true]at hD⊢;refine λx hx=>hD x ?_
 obtain _|_:=bS<;>obtain _|_:=right
 case true.false=>exact hx
 case true.true=>exact List.mem_reverse.mp hx
 all_goals
  have hx:x∈(match D.reverse with|[]=>[]|b::_=>[b]):=hx
  generalize e:D.reverse=zz;induction zz using eZ with
  |nil=>rw[e]at hx;cases hx
  |cons y t=>
   rw[e]at hx;obtain rfl|z:=List.mem_cons.mp hx
   ·exact List.mem_reverse.mp (by rw[e];exact .head _)
   ·obtain _|_:=z
abbrev GJ(w:W)(hd:OV)(ss:LA)(mo:Nat)(tl:LO)(r:Nat)(b:Bool)(tm:LO)(right bH bS:Bool)(aa wl:OV)(to:LO)(D:LA)(d:OV):S:=Dd w hd (.v (bV "character" (qB right bS D) .none)) ss mo d tl r b tm right bH bS aa wl to [] 1389
section
variable{w hd ss mo}{to:LO}{r:Nat}{aa wl:OV}{l:LA}
theorem Oc:(eL T (n+20)).b lX (cB (sT 42)) (GJ w hd ss mo tl r b tm right bH bS aa wl to (a::l) (.ol (a::l)))=.ok false (GJ w hd ss mo tl r b tm right bH bS aa wl to (a::l) (.v (.lst (a::l)))):=by kernel_rfl
theorem Ob:(eL T (n+18)).b lX (dE (j4 Wk) 0) (GJ w hd ss mo tl r b tm right bH bS aa wl to (a::l) (.v (.lst (a::l))))=.ok false (GJ w hd ss mo tl r b tm right bH bS aa wl to (a::l) (.v (.lst (a::l)))):=by kernel_rfl
theorem Oa(ht:d6 tl)(hm:zd tm)(h:(qB right bS (a::l)).all kW=true):(eL T (n+18)).b lX (dE (j4 Wk) 1) (GJ w hd ss mo tl r b tm right bH bS aa wl to (a::l) (.v (.lst (a::l))))=.ok false (GJ w hd ss mo tl r b tm right bH bS aa wl to (a::l) (.v (.lst (a::l)))):=
 .trans (by obtain rfl|⟨a,rfl⟩:=ht<;>obtain rfl|⟨a,b,rfl⟩:=hm<;>obtain _|_:=bS<;>obtain _|_:=right<;>kernel_rfl) (gI (je h) AV.noConfusion)
theorem N'(ht:d6 tl)(hm:zd tm)(h:(qB right bS (a::l)).all kW=true):xL T n (sT 42) (GJ w hd ss mo tl r b tm right bH bS aa wl to (a::l) (.ol (a::l)))=.ok .next (GJ w hd ss mo tl r b tm right bH bS aa wl to (a::l) (.v (.lst (a::l)))):=
 mJ (Oc T n) ((show(eL T _).x lX _ _=bO _ lX [cM (kh (sT 42)) 0] _ by kernel_rfl).trans
  (bG (jG (ll [dE _ 0,dE _ 1] (by kernel_rfl) (iy (Ob T n) (iy (Oa T n ht hm h) rfl)))) rfl))
end
theorem S9(ht:d6 tl)(hm:zd tm)(ho:DW to)(r)(b right bH bS)(aa wl)(D)(hD:D.all kW=true):xL T n (sT 42) (Dd w hd (.v (xy right bS D)) ss mo (.ol D) tl r b tm right bH bS aa wl to [] 1389)=.ok .next (Dd w hd (.v (xy right bS D)) ss mo (.v (.lst D)) tl r b tm right bH bS aa wl to [] 1389):=by
 induction D using eZ with
 |nil=>obtain rfl|⟨a,rfl⟩:=ht<;>obtain rfl|⟨a,b,rfl⟩:=hm<;>kernel_rfl
 |cons a l=>exact N' T n ht hm (Jn hD)
end
def gF(l:Int):AV:=.clo (sT 44) [("least",.int l)]
def HZ(l x:Int):AV:=bV "logical" [.int (if l<=x then 1 else 0)] .none
noncomputable def QA:List Int:=[0,1,2,3,4,5]
theorem AI{l:Int}(h:0<=l)(h2:l<6):l∈QA:=by
 have:=Ul h h2
 obtain rfl|rfl|rfl|rfl|rfl|rfl:=this<;>decide
noncomputable def f5:List Int:=[0,1,2,3,4]
theorem Pl{x:Int}(h:eO x):x∈f5:=by
 obtain rfl|rfl|rfl|rfl|rfl:=h.cases<;>decide
theorem D8{k:Int}(hk:k=0\/k=1)(ss:OA):∀q∈QA.flatMap (λl=>f5.map λx=>(l,x)),kj (ev (bC oU TA) 21) (sT 44) [.v cu,.v (.lst [.tup [.none,gT k q.2]]),.v bP] [("least",.int q.1)] ss=.ok (HZ q.1 q.2) (.v .none) ss:=by
 obtain rfl|rfl:=hk<;>exact cg _
def IM(T:cK):Prop:=∀(l k x:Int) (ss:OA),0<=l->l<6->(k=0\/k=1)->eO x->T 1346 [.v cu,.v (cb "p" (gF l)),.v (.lst [.tup [.none,gT k x]]),.v bP] ss=.ok (HZ l x) (.v .none) ss
theorem LH:IM TV:=λl k x ss h0 h1 hk hx=>Ao TB 0 "p" (gF l) _ _ (Ar _ 15 "p" _ _ _ (D8 hk ss (l,x) (List.mem_flatMap.mpr (cf l (AI h0 h1) (List.mem_map.mpr (cf x (Pl hx) rfl))))))
noncomputable def Wj(x:Bool)(a:AV):LO:=match x with|true=>[("at",.v a)]|false=>[]
noncomputable def Wi(x:Bool)(a b:AV):LO:=match x with|true=>[("count",.v a),("tops",.v b)]|false=>[]
noncomputable def Wg(x:Bool)(a:AV):LO:=match x with|true=>[("one",.v a)]|false=>[]
structure V where
 w:W
 ss:List AV
 mo:Nat
 d:AV
 r:Nat
 b:Bool
 r7:Bool
 b7:Bool
 e7:Bool
 aa:AV
 wl:AV
 q:Bool×Bool×Bool
 pa:AV
 pb:AV
 pc:AV
 pe:AV
noncomputable def b2:List Bool:=[true,false]
noncomputable def Wq:List (Bool×Bool×Bool):=b2.flatMap λx=>b2.flatMap λy=>b2.map λz=>(x,y,z)
theorem Jl:∀q,q∈Wq:=λ(x,y,z)=>by obtain _|_:=x<;>obtain _|_:=y<;>obtain _|_:=z<;>decide
theorem dO{P:Bool×Bool×Bool->Prop}(h:∀q∈Wq,P q)(q):P q:=h q (Jl q)
abbrev ug(v:V)(hd bB:OV)(tn:LO)(aa:OV)(dl:Nat):S:=Dd v.w hd bB v.ss v.mo (.v v.d) (Wj v.q.1 v.pa) v.r v.b (Wi v.q.2.1 v.pb v.pc) v.r7 v.b7 v.e7 aa (.v v.wl) (Wg v.q.2.2 v.pe) tn dl
section
variable(T:cK)(n:Nat)(v:V)(hd bB aa:OV)
theorem Vx(cs)(i h2 h3):xL T n (sT 43) (ug v (cT cs i h2 h3) bB [] aa 1389)=((T 1374 [cT cs i h2 h3,.v (.int 6)] (some v.ss)).toL "hand" (ug v (cT cs i h2 h3) bB [] aa 1389)).bind λo s=>aL T n (cV (sT 43)) o s:=by kernel_rfl
theorem VL(a):aL T n (cV (sT 43)) (.v a) (ug v hd bB [] aa 1389)=.ok .next (ug v hd bB [("least",.v a)] aa 1389):=dO (P:=λq=>aL T n _ _ (ug {v with q:=q} hd bB [] aa 1389)=.ok .next (ug {v with q:=q} hd bB [("least",.v a)] aa 1389)) (cg _) v.q
theorem S8{T:cK}(hT:fH T)(h:dx):∃l h',0<=l/\l<6/\xL T n (sT 43) (ug v h.o bB [] aa 1389)=.ok .next (ug v (dx.o h') bB [("least",.v (.int l))] aa 1389):=
 js hT (S1:=λhd=>ug v hd bB [] aa 1389) (S2:=λhd d=>ug v hd bB [("least",.v (.int d))] aa 1389) (.inr (.inr (.inr rfl))) h (Vx T n v bB aa) λY Y Y Y Y Y Y Y Y=>VL ..
theorem S7(l):yL T n [sT 44,sT 45] (ug v hd bB [("least",.v (.int l))] aa 1389)=.ok .next (ug v hd bB [("least",.k (.int l)),("wanted",.v (gF l)),("p",mH "p" (gF l))] aa 1421):=dO (P:=λq=>yL T n [sT 44,sT 45] (ug {v with q:=q} hd bB [("least",.v _)] aa 1389)=.ok .next (ug {v with q:=q} hd bB [("least",.k _),("wanted",.v _),("p",mH "p" (gF l))] aa 1421)) (cg _) v.q
noncomputable def lS(l:Int)(fs:List Int):List Nat:=(List.range fs.length).filter λi=>decide (l<=(fs[i]?).getD 0)
theorem rz{f:S->R LA}{t:S->R Bool}{u g:Z->AV}{k:Z->Bool}(xs:List Z)(cl:LE)(h:cl=[]\/∃b,cl=[(x,b)])(H:∀a∈xs,t {s with cl:=[(x,u a)]}=.ok (k a) {s with cl:=[(x,u a)]}/\f {s with cl:=[(x,u a)]}=.ok [g a] {s with cl:=[(x,u a)]}):∃i9,dU f (.Name x p) t (xs.map u) {s with cl:=cl}=.ok ((xs.filter k).map g) {s with cl:=i9}:=
 s7 xs cl h λa ha cl hc=>xH [(x,u a)] [(x,u a)] [(x,u a)] (u5 hc) (H a ha).1 (λY=>.inr ⟨_,rfl⟩) λY=>⟨(H a ha).2,.inr ⟨_,rfl⟩⟩
def oZ:Cx:=⟨iU,some (jc (bN (sT 46))),none⟩
noncomputable def QG(e:Expr):Expr:=dE (gC e).ifs 0
abbrev Du:Expr:=bN (sT 46)
abbrev mz(v:V)(hd bB:OV)(l:Int)(p:OV)(tn:LO)(aa:OV):S:=ug v hd bB (("least",.k (.int l))::("wanted",.v (gF l))::("p",p)::tn) aa 1421
def uZ(T:cK)(n:Nat)(xs:LA)(s:S):R LA:=dU (λs=>(vl ((eL T (n+20)).e oZ (eJ Du) s)).bind λa s=>.ok [a] s) (gN Du) (λs=>((eL T (n+20)).b oZ (QG Du) s).bind λb s=>(match b with|true=>.ok true s|false=>.ok false s)) xs s
theorem Xk{v:V}{m:Nat}(h:v.w.ma=.int m):v={v with w:={v.w with ma:=.int m}}:=by
 rw[<-h]
theorem Vw(l)(p){m:Nat}(hm:m<=5)(hw:v.w.ma=.int m):xL T n (sT 46) (mz v hd bB l p [] aa)=(((uZ T n ((List.range m).map λ(k:Nat)=>AV.int (k:Int)) (mz v hd bB l p [] aa)).bind fD).noExc).bind λo s=>aL T n (cV (sT 46)) o s:=by
 have:∀m∈n6,xL T n (sT 46) (mz {v with w:={v.w with ma:=.int m}} hd bB l p [] aa)=(((uZ T n ((List.range m).map λ(k:Nat)=>AV.int k) (mz {v with w:={v.w with ma:=.int m}} hd bB l p [] aa)).bind fD).noExc).bind λo s=>aL T n (cV (sT 46)) o s:=cg _
 rw[Xk hw];exact this m (by
  have:m=0\/m=1\/m=2\/m=3\/m=4\/m=5:=by lia
  obtain rfl|rfl|rfl|rfl|rfl|rfl:=this<;>decide)
theorem VK(l)(p)(a):aL T n (cV (sT 46)) (.v a) (mz v hd bB l p [] aa)=.ok .next (mz v hd bB l p [("good",.v a)] aa):=dO (P:=λq=>aL T n _ _ (mz {v with q:=q} hd bB l p [] aa)=.ok .next (mz {v with q:=q} hd bB l p [("good",.v a)] aa)) (cg _) v.q
theorem U5(l)(p)(i):(eL T (n+20)).e oZ (eJ Du) {mz v hd bB l p [] aa with cl:=[("at",i)]}=.ok (.v i) {mz v hd bB l p [] aa with cl:=[("at",i)]}:=by kernel_rfl
theorem Uz{l:Int}(hl:l∈QA)(p){i:Nat}{x:Int}(hx:eO x)(hi:fs[i]? =some x)(hw:v.w.fi=.lst (fs.map .int)):(eL T (n+20)).b oZ (QG Du) {mz v hd bB l p [] aa with cl:=[("at",.int i)]}=.ok (decide (l<=x)) {mz v hd bB l p [] aa with cl:=[("at",.int i)]}:=by
 have a:(eL T (n+19)).e oZ (k8 (QG Du)) {mz v hd bB l p [] aa with cl:=[("at",.int i)]}=.ok (.v (.int x)) {mz v hd bB l p [] aa with cl:=[("at",.int i)]}:=by
  refine lY (iB (by rw[bc,hi];rfl)) ?_ (by kernel_rfl)
  rw[<-hw];kernel_rfl
 have b:(eL T _).e oZ _ {mz v hd bB l p [] aa with cl:=[("at",.int i)]}=.ok _ {mz v hd bB l p [] aa with cl:=[("at",.int i)]}:=dO (P:=λq=>(eL T (n+19)).e oZ (ik (QG Du)) {mz {v with q:=q} hd bB l p [] aa with cl:=[("at",.int i)]}=.ok (.v (.int l)) {mz {v with q:=q} hd bB l p [] aa with cl:=[("at",.int i)]}) (cg _) v.q
 exact nT (op:=.GtE) a b rfl
theorem S6{l:Int}(hl:l∈QA)(p)(hf:∀x∈fs,eO x)(cI:fs.length<=5)(hw:v.w.ma=.int fs.length)(H0:v.w.fi=.lst (fs.map .int)):xL T n (sT 46) (mz v hd bB l p [] aa)=.ok .next (mz v hd bB l p [("good",.v (.lst ((lS l fs).map λ(i:Nat)=>.int i)))] aa):=by
 obtain⟨q,e⟩:∃q,gN Du=.Name "at" q:=⟨(gN Du).pos,by kernel_rfl⟩
 obtain⟨i9,c⟩:=rz (f:=λs=>(vl ((eL T _).e oZ _ s)).bind λa s=>.ok [a] s) (t:=λs=>((eL T _).b oZ _ s).bind λb s=>(match b with|true=>.ok true s|false=>.ok false s)) (k:=λi=>decide (l<=(fs[i]?).getD 0)) (List.range fs.length) [] (.inl rfl) λi hi=>by
  have lt:=List.mem_range.mp hi
  have hx:=az lt
  refine⟨?_,?_⟩
  ·show((eL T _).b oZ _ _).bind _=_
   rw[Uz T n v hd bB aa hl p (hf _ (List.getElem_mem lt)) hx H0,hx];show _=R.ok (decide (l<=fs[i])) _;cases decide (l<=fs[i])<;>rfl
  ·show(vl _).bind _=_
   rw[U5];rfl
 rw[Vw T n v hd bB aa l p cI hw];unfold uZ;rw[e];refine(aN (λr=>((R.bind r fD).noExc).bind λo s=>aL T n _ o s) c).trans ?_
 show((fD ((lS l fs).map λ(i:Nat)=>.int i) _).noExc).bind _=_
 unfold fD;rw[show dF ((lS l fs).map λ(i:Nat)=>AV.int i).length=true from aQ (by
  rw[ah];have:=List.length_filter_le (λi=>decide (l<=(fs[i]?).getD 0)) (List.range fs.length)
  rw[aY]at this;unfold lS;lia)]
 exact VK T n v hd bB aa l p _
end
noncomputable def Mt:AV->Int
 | .ins _ [_,(_,.lst [.int x]),_]=>x
 | .ins _ [_,(_,.lst [.str s]),_]=>s.cps.size
 |_=>0
theorem wV{k x:Int}(hk:k=0\/k=1)(hx:eO x):Mt (gT k x)=x:=by
 obtain rfl|rfl:=hk
 ·rfl
 ·obtain rfl|rfl|rfl|rfl|rfl:=hx.cases<;>rfl
theorem IM.fnT{T:cK}(h:IM T){l k:Int}(h0:0<=l)(h1:l<6)(hk:k=0\/k=1)(fs:List Int)(hf:∀x∈fs,eO x):Ig T (cb "p" (gF l)) (fs.map (gT k)) (λa=>HZ l (Mt a)) (λY=>[]) where
 run:=λa ha ss Y=>by
  refine bW (List.mem_map.mp ha) ?_;rintro x hx rfl;rw[wV hk (hf x hx),aU];exact h l k x _ h0 h1 hk (hf x hx)
 vc9:=λa Y=>(rX _ _ _ rfl)
 one:=λY Y=>bb 1
theorem sV:∀l:List Z,l.flatMap (λY=>([]:List β))=[]
 |[]=>rfl
 |_::l=>sV l
theorem Vj{l k:Int}(h0:0<=l)(h1:l<6)(hk:k=0\/k=1)(fs:List Int)(hf:∀x∈fs,eO x)(cI:fs.length<=5)(ss:LA)(l2:ss.length<=50):GI 575 [.v cu,.v (cb "p" (gF l)),.v (.lst (fs.map (gT k))),.v (.lst []),.v bP] (some ss)=.ok (.lst (fs.map (HZ l))) (.v .none) (some ss):=by
 refine(Hs 0 (fs.map (gT k)) ss (LH.fnT h0 h1 hk fs hf) (by rw[ah];exact cI) l2).trans ?_
 rw[AK (h:=HZ l) fs λx hx=>by rw[wV hk (hf x hx)],sV,aU]
noncomputable def bI(b:Bool):AV:=.int (match b with|true=>1|false=>0)
noncomputable def HT(l:Int)(fs:List Int):List Bool:=fs.map λx=>decide (l<=x)
theorem Hd(l x:Int):HZ l x=bV "logical" [bI (decide (l<=x))] .none:=by
 unfold HZ bI;by_cases h:l<=x
 ·rw[aA h,decide_eq_true h]
 ·rw[au h,bl h]
noncomputable def ua:List Addr:=[561,575]
abbrev ub(i:Nat):Stmt:=cM (fB 1027) i
abbrev zh(f v:AV)(ss:OA)(tl:LO):S:=⟨[],("interp",.v cu)::("f",.v f)::("v",.v v)::("env",.v bP)::tl,ss,none⟩
def xB(s:Stmt):Expr:=dE (kS s).1 1
section
variable(T:cK)(n:Nat)(f v:AV)(ss:OA)
theorem Jb:cA (bC ua T) (n+1) 1027 [.v cu,.v f,.v v,.v bP] ss=ey 1027 (bO (ev (bC ua T) n) (fX 1027) (fB 1027) (zh f v ss [])):=by kernel_rfl
def Q7(T:cK)(n:Nat)(a:AV)(s:S):R Fl:=(bR (ev (bC ua T) (n+30)) (fX 1027) (iT (ub 1)) (.v a) s).bind λY s=>(ev (bC ua T) (n+30)).x (fX 1027) (cU (ub 1)) s
theorem Sr(s):bL (ev (bC ua T) (n+30)) (fX 1027) (ub 1) s=(vl ((ev (bC ua T) (n+30)).e (fX 1027) (xB (ub 1)) s)).bind λa s=>(match dh a with
  |none=>.no
  |some xs=>ek (Q7 T n) xs s):=by kernel_rfl
theorem Sq(bs:LA)(cI:bs.length<=5):ey 1027 ((ek (Q7 T n) (bs.map λb=>bV "logical" [b] .none) (zh f v ss [("found",.ol [])])).bind λfl s=>(match fl with| .next=>bO (ev (bC ua T) (n+30)) (fX 1027) [ub 2] s|fl=>.ok fl s))=.ok (.lst bs) (.v .none) ss:=by
 revert bs;exact fP
theorem NJ{T:cK}(cI:bs.length<=5)(h1:T 561 [.v v] ss=.ok (.lst cq) (.v .none) ss)(h2:T 575 [.v cu,.v f,.v (.lst cq),.v (.lst []),.v bP] ss=.ok (.lst (bs.map λb=>bV "logical" [b] .none)) (.v .none) ss):cA (bC ua T) (n+31) 1027 [.v cu,.v f,.v v,.v bP] ss=.ok (.lst bs) (.v .none) ss:=by
 have e2:(ev (bC ua T) (n+29)).e (fX 1027) (dE (bX (xB (ub 1))) 2) _=.ok _ (zh f v ss [("found",.ol [])]):=cX h1 (by kernel_rfl)
 have e0:(ev (bC ua T) (n+29)).e (fX 1027) (dE (bX (xB (ub 1))) 0) (zh f v ss [("found",.ol [])])=.ok (.v cu) (zh f v ss [("found",.ol [])]):=by kernel_rfl
 have e1:(ev (bC ua T) (n+29)).e (fX 1027) (dE (bX (xB (ub 1))) 1) (zh f v ss [("found",.ol [])])=.ok (.v f) (zh f v ss [("found",.ol [])]):=by kernel_rfl
 have ar:bY (ev (bC ua T) (n+29)) (fX 1027) false (bX (xB (ub 1))) (zh f v ss [("found",.ol [])])=.ok [.v cu,.v f,.v (.lst cq),.v (.lst []),.v bP] (zh f v ss [("found",.ol [])]):=by
  rw[show bX _=dE _ 0::dE _ 1::dE _ 2::(bX (xB (ub 1))).drop 3 by kernel_rfl]
  exact cE e0 (cE e1 (cE e2 (by kernel_rfl)))
 have e:bO (ev (bC ua T) (n+30)) (fX 1027) [ub 1,ub 2] (zh f v ss [("found",.ol [])])=(ek (Q7 T n) (bs.map λb=>bV "logical" [b] .none) (zh f v ss [("found",.ol [])])).bind λfl s=>(match fl with| .next=>bO (ev (bC ua T) (n+30)) (fX 1027) [ub 2] s|fl=>.ok fl s):=by
  show(bL _ _ _ _).bind _=_
  rw[Sr,(dX ar h2)];rfl
 rw[Jb T _,show fB 1027=[ub 0,ub 1,ub 2] by kernel_rfl,bG (by kernel_rfl) rfl,e]
 exact Sq T n f v ss bs cI
end
noncomputable def Q5(bs:List Bool):List Nat:=(List.range bs.length).filter λi=>(bs[i]?).getD false
noncomputable def IK:Nat->List (List Bool)
 |0=>[[]]
 |n+1=>[]::(IK n).flatMap λl=>[true::l,false::l]
theorem xf:∀(n:Nat) (l:List Bool),l.length<=n->l∈IK n
 |0,[],_=>.head _
 |n+1,[],_=>.head _
 |n+1,b::l,h=>.tail _ (List.mem_flatMap.mpr (cf l (xf n l (by rw[aM]at h;lia)) (by obtain _|_:=b;exact .tail _ (.head _);exact .head _)))
theorem Ng(ss):∀bs∈IK 5,TA 549 [.v (bV "logical" (bs.map bI) .none)] ss=.ok (bV "integer" ((Q5 bs).map λ(i:Nat)=>AV.int ((i:Int)+1)) .none) (.v .none) ss:=cg _
noncomputable def j6(xs:LA)(gs:List Nat):LA:=gs.map λi=>(xs[i]?).getD .none
def dg(i:Nat):AV:=.int i
section
variable{n:Nat}{l:List Addr}{T:cK}
theorem JO(hl:eQ l 57=false)(h0:(ev (bC l T) (n+13)).e cx e s=(bY (ev (bC l T) (n+12)) cx true (bX e) s).bind λos s=>((ev (bC l T) (n+12)).f 57 (fu 3 0) (.oi gG []::os) s.ss).toR s λv b s=>(match v with| .none=>.ok b s|_=>.no))(ha:bY (ev (bC l T) (n+12)) cx true (bX e) s=.ok [.v (.str K),.v (.lst xs)] s1):(ev (bC l T) (n+13)).e cx e s=.ok (eR K xs (.v .none)) s1:=by
 have:(ev (bC l T) (n+12)).f 57 (fu 3 0) [.oi gG [],.v (.str K),.v (.lst xs)] s1.ss=.ok .none (eR K xs (.v .none)) s1.ss:=by
  show(match bC l T 57 [.oi gG [],.v _,.v _] s1.ss with|some r=>r|none=>mc _ _ _ [.oi gG [],.v _,.v _] [] s1.ss)=_
  unfold bC;rw[hl]
  kernel_rfl
 rw[h0,ha,c0,this];rfl
theorem Pp{a:Addr}{sT:Stmt}{v:AV}{b:OV}(h0:(ev (bC l T) (n+1)).e cx e s=(bY (ev (bC l T) n) cx false (bX e) s).bind λos s=>((ev (bC l T) n).f a sT (([]:LA).map OV.v++os) s.ss).toR s λv Y s=>cZ v s)(ha:bY (ev (bC l T) n) cx false (bX e) s=.ok os s1)(hf:(ev (bC l T) n).f a sT os s1.ss=.ok v b eG):(ev (bC l T) (n+1)).e cx e s=.ok (.v v) {s1 with ss:=eG}:=by
 rw[h0,ha];show((ev _ n).f a sT os s1.ss).toR s1 _=_;rw[hf];rfl
end
abbrev rE(i:Nat):Stmt:=cM (fB 544) i
noncomputable abbrev oR(v pl:AV)(ss:OA)(tl:LO):S:=⟨[],("v",.v v)::("places",.v pl)::tl,ss,none⟩
def Rh(i:Nat):Cx:=⟨jJ (kT 544),some (jc (match i with|0=>dE (bX (bN (rE 0))) 1|_=>dE (bX (bN (cM (cU (rE 2)) 0))) 1)),none⟩
abbrev Ld:Expr:=dE (bX (bN (rE 0))) 1
abbrev Ri:Stmt:=cM (cU (rE 2)) 0
abbrev DE:Expr:=dE (bX (bN Ri)) 1
section
variable(n:Nat)(v:AV)(ss:OA)
theorem Jv(pl):cA dH (n+1) 544 [.v v,.v pl] ss=ey 544 (bO (ev dH n) (fX 544) (fB 544) (oR v pl ss [])):=by kernel_rfl
theorem JJ:dH=bC [] TA:=by
 funext a os ss;rfl
theorem Ow(K)(cq)(a)(gs)(hg:∀i∈gs,i<cq.length)(cI:gs.length<=5):gb dH (n+18) (Rh 0) Ld (gs.map dg) (oR (bV K cq a) (.lst (gs.map dg)) ss [])=.ok (.v (.lst (j6 cq gs))) (oR (bV K cq a) (.lst (gs.map dg)) ss []):=
 gh (x:="place") ⟨(gN Ld).pos,by kernel_rfl⟩ (by lia) λi hi=>lY (iB (by rw[az (hg i hi)];rfl)) (by kernel_rfl) (by kernel_rfl)
theorem Mb(K)(cq)(a)(gs)(hg:∀i∈gs,i<cq.length)(cI:gs.length<=5):bL (ev dH (n+20)) (fX 544) (rE 0) (oR (bV K cq a) (.lst (gs.map dg)) ss [])=.ok .next (oR (bV K cq a) (.lst (gs.map dg)) ss [("result",eR K (j6 cq gs) (.v .none))]):=by
 have e1:(ev dH (n+19)).e (fX 544) Ld (oR (bV K cq a) (.lst (gs.map dg)) ss [])=gb dH (n+18) (Rh 0) Ld (gs.map dg) (oR (bV K cq a) (.lst (gs.map dg)) ss []):=by kernel_rfl
 have e1:=e1.trans (Ow n ss K cq a gs hg cI)
 have e0:(ev dH (n+19)).e (fX 544) (dE (bX (bN (rE 0))) 0) (oR (bV K cq a) (.lst (gs.map dg)) ss [])=.ok (.v (.str K)) (oR (bV K cq a) (.lst (gs.map dg)) ss []):=by kernel_rfl
 have ar:bY (ev dH (n+19)) (fX 544) true (bX (bN (rE 0))) (oR (bV K cq a) (.lst (gs.map dg)) ss [])=.ok [.v (.str K),.v (.lst (j6 cq gs))] (oR (bV K cq a) (.lst (gs.map dg)) ss []):=by
  rw[show bX _=[dE _ 0,Ld] by kernel_rfl]
  exact gj e0 (gj e1 rfl)
 rw[JJ]at ar⊢;exact dW (JO rfl (by kernel_rfl) ar) (by kernel_rfl)
def Yd(N:OA):OV:=match N with|none=>.v .none|some l=>.od [("names",bV "character" l .none)]
noncomputable def rW:List Str:=["list","integer","character"]
theorem L9(cq)(N)(pl)(r):∀K∈rW,bL (ev dH (n+20)) (fX 544) (rE 1) (oR (bV K cq (gM N)) pl ss [("result",r)])=.ok .next (oR (bV K cq (gM N)) pl ss [("result",r),("names",.v (dB N))]):=by
 obtain _|_:=N<;>exact cg _
theorem GW(cq xs)(N)(pl)(M'):∀K∈rW,ey 544 (bO (ev dH (n+20)) (fX 544) [rE 3,rE 4] (oR (bV K cq (gM N)) pl ss [("result",eR K xs (Yd M')),("names",.v (dB N))]))=.ok (bV K xs (gM M')) (.v .none) ss:=by
 obtain _|_:=N<;>obtain _|_:=M'<;>exact cg _
theorem Oy(K)(cq xs)(pl):bL (ev dH (n+20)) (fX 544) (rE 2) (oR (bV K cq .none) pl ss [("result",eR K xs (.v .none)),("names",.v .none)])=.ok .next (oR (bV K cq .none) pl ss [("result",eR K xs (.v .none)),("names",.v .none)]):=by kernel_rfl
theorem Ox(cq xs L:LA)(gs)(hg:∀i∈gs,i<L.length)(cI:gs.length<=5)(hK:K∈rW):bL (ev dH (n+20)) (fX 544) (rE 2) (oR (bV K cq (gM (some L))) (.lst (gs.map dg)) ss [("result",eR K xs (.v .none)),("names",.v (.lst L))])=.ok .next (oR (bV K cq (gM (some L))) (.lst (gs.map dg)) ss [("result",eR K xs (.od [("names",bV "character" (j6 L gs) .none)])),("names",.v (.lst L))]):=by
 generalize hS:oR _ _ ss [("result",eR K xs _),("names",.v _)]=S0;have e1:(ev dH (n+18)).e (fX 544) DE S0=.ok (.v (.lst (j6 L gs))) S0:=by
  subst hS;refine Eq.trans (b:=gb dH (n+17) (Rh 1) DE (gs.map dg) _) (by kernel_rfl)<|gh (x:="place") ⟨(gN DE).pos,by kernel_rfl⟩ (by lia) λi hi=>lY (iB (by rw[az (hg i hi)];rfl)) (by kernel_rfl) (by kernel_rfl)
 have h0:bL (ev dH (n+20)) (fX 544) (rE 2) S0=(((bY (ev dH (n+18)) (fX 544) true [DE] S0).bind λos s=>(match bQ (fX 544) (eB (bN Ri)) s with|some (_,o)=>((ev dH (n+18)).f 308 (kT 308) (o::os) s.ss).toL "result" s|none=>.no)).bind λY s=>R.ok Fl.next s).bind λf s=>(match f with| .next=>.ok .next s|f=>.ok f s):=by subst hS;kernel_rfl
 rw[h0,gj e1 rfl];subst hS;generalize j6 L gs=Wc;have:∀K∈rW,(((R.ok ([OV.v (.lst Wc)]) (oR (bV K cq (gM (some L))) (.lst (gs.map dg)) ss [("result",eR K xs (.v .none)),("names",.v (.lst L))])).bind λos s=>(match bQ (fX 544) (eB (bN Ri)) s with|some (_,o)=>((ev dH (n+18)).f 308 (kT 308) (o::os) s.ss).toL "result" s|none=>.no)).bind λY s=>R.ok Fl.next s).bind (λf s=>(match f with| .next=>.ok .next s|f=>.ok f s))=.ok .next (oR (bV K cq (gM (some L))) (.lst (gs.map dg)) ss [("result",eR K xs (.od [("names",bV "character" Wc .none)])),("names",.v (.lst L))]):=cg _
 exact this K hK
theorem Ov(hK:K∈rW)(cq)(hN:∀l,N=some l->l.length=cq.length)(gs)(hg:∀i∈gs,i<cq.length)(cI:gs.length<=5)(ss):cA dH 21 544 [.v (bV K cq (gM N)),.v (.lst (gs.map dg))] ss=.ok (bV K (j6 cq gs) (gM (N.map λl=>j6 l gs))) (.v .none) ss:=by
 rw[Jv 20,show fB 544=[rE 0,rE 1,rE 2,rE 3,rE 4] by kernel_rfl]
 induction N using i7 with
 |none=>
  rw[bG (Mb 0 ss K cq _ gs hg cI) (bG (L9 0 ss cq none _ _ K hK) (bG (Oy 0 ss K cq _ _) rfl))];exact GW 0 ss cq _ none _ none K hK
 |some L=>
  rw[bG (Mb 0 ss K cq _ gs hg cI) (bG (L9 0 ss cq _ _ _ K hK) (bG (Ox 0 ss cq _ L gs (λi hi=>by rw[hN L rfl];exact hg i hi) cI hK) rfl))]
  exact GW 0 ss cq _ _ _ (some _) K hK
end
noncomputable def rF:List Addr:=[1027,549,544]
abbrev j7(i:Nat):Stmt:=cM (fB 1032) i
abbrev y5(p v:AV)(ss:OA)(tl:LO):S:=⟨[],("interp",.v cu)::("args",.v (.lst [.tup [.none,p],.tup [.none,v]]))::("env",.v bP)::tl,ss,none⟩
def YX:Cx:=⟨jJ (kT 1032),some (jc (dE (bX (bN (j7 5))) 1)),none⟩
section
variable(T:cK)(n:Nat)(nm:Str)(cl:AV)(cq:LA)(a:AV)(ss:OA)
theorem J8(p v):cA (bC rF T) (n+1) 1032 [.v cu,.v (.lst [.tup [.none,p],.tup [.none,v]]),.v bP] ss=ey 1032 (bO (ev (bC rF T) n) (fX 1032) (fB 1032) (y5 p v ss [])):=by kernel_rfl
theorem Pj:∀K∈rW,bO (ev (bC rF T) (n+30)) (fX 1032) [j7 0,j7 1,j7 2,j7 3] (y5 (cb nm cl) (bV K cq a) ss [])=.ok .next (y5 (cb nm cl) (bV K cq a) ss [("f",.v (cb nm cl)),("v",.v (bV K cq a))]):=cg _
theorem Ph{T:cK}{nm:Str}{cl a:AV}{cq:LA}{ss:OA}(hK:K∈rW){bs:LA}(cI:gs.length<=5){r:AV}(h1:T 1027 [.v cu,.v (cb nm cl),.v (bV K cq a),.v bP] ss=.ok (.lst bs) (.v .none) ss)(h2:T 549 [.v (bV "logical" bs .none)] ss=.ok (bV "integer" (gs.map λ(i:Nat)=>AV.int ((i:Int)+1)) .none) (.v .none) ss)(h3:T 544 [.v (bV K cq a),.v (.lst (gs.map dg))] ss=.ok r (.v .none) ss):cA (bC rF T) (n+31) 1032 [.v cu,.v (.lst [.tup [.none,cb nm cl],.tup [.none,bV K cq a]]),.v bP] ss=.ok r (.v .none) ss:=by
 have q4:bL (ev (bC rF T) (n+30)) (fX 1032) (j7 4) (y5 (cb nm cl) (bV K cq a) ss [("f",.v (cb nm cl)),("v",.v (bV K cq a))])=.ok .next (y5 (cb nm cl) (bV K cq a) ss [("f",.v (cb nm cl)),("v",.v (bV K cq a)),("kept",.v (bV "integer" (gs.map λ(i:Nat)=>AV.int ((i:Int)+1)) .none))]):=by
  have c1:=cX (l:=rF) (T:=T) (n:=n+27) (cx:=fX 1032) (e:=eB (eB (bN (j7 4)))) (cl:=[]) (loc:=(y5 (cb nm cl) (bV K cq a) ss [("f",.v (cb nm cl)),("v",.v (bV K cq a))]).loc) (dl:=none) h1 (by kernel_rfl)
  have ar:bY (ev (bC rF T) (n+28)) (fX 1032) false (bX (eB (bN (j7 4)))) (y5 (cb nm cl) (bV K cq a) ss [("f",.v (cb nm cl)),("v",.v (bV K cq a))])=.ok [.v (.lst bs)] (y5 (cb nm cl) (bV K cq a) ss [("f",.v (cb nm cl)),("v",.v (bV K cq a))]):=by
   rw[show bX (eB (bN (j7 4)))=[eB (eB (bN (j7 4)))] by kernel_rfl]
   exact cE c1 rfl
  have RM:bY (ev (bC rF T) (n+29)) (fX 1032) false (bX (bN (j7 4))) (y5 (cb nm cl) (bV K cq a) ss [("f",.v (cb nm cl)),("v",.v (bV K cq a))])=.ok [.v (bV "logical" bs .none)] (y5 (cb nm cl) (bV K cq a) ss [("f",.v (cb nm cl)),("v",.v (bV K cq a))]):=by
   rw[show bX (bN (j7 4))=[eB (bN (j7 4))] by kernel_rfl]
   exact cE (Pp (l:=rF) (T:=T) (n:=n+28) (cx:=fX 1032) (e:=eB (bN (j7 4))) (a:=213) (sT:=kT 213) (v:=bV "logical" bs .none) (b:=.v .none) (eG:=ss) (by kernel_rfl) ar (by kernel_rfl)) rfl
  exact dW (dX RM h2) (by kernel_rfl)
 generalize hS:y5 (cb nm cl) (bV K cq a) ss [("f",.v (cb nm cl)),("v",.v (bV K cq a)),("kept",.v (bV "integer" (gs.map λ(i:Nat)=>AV.int ((i:Int)+1)) .none))]=S0 at q4
 have q5:bL (ev (bC rF T) (n+30)) (fX 1032) (j7 5) S0=.ok (.ret r) S0:=by
  have e1:(ev (bC rF T) (n+29)).e (fX 1032) (dE (bX (bN (j7 5))) 1) S0=.ok (.v (.lst (gs.map dg))) S0:=by
   subst hS;refine Eq.trans (b:=gb (bC rF T) (n+28) YX (dE (bX (bN (j7 5))) 1) (gs.map λ(i:Nat)=>AV.int ((i:Int)+1)) (y5 (cb nm cl) (bV K cq a) ss [("f",.v (cb nm cl)),("v",.v (bV K cq a)),("kept",.v (bV "integer" (gs.map λ(i:Nat)=>AV.int ((i:Int)+1)) .none))])) (by kernel_rfl) ?_
   refine gh (x:="number") ⟨(gN (dE (bX (bN (j7 5))) 1)).pos,by kernel_rfl⟩ (by lia) λi hi=>?_
   rw[show dg i=AV.int ((i:Int)+1-1) by rw[Int.add_sub_cancel];rfl]
   kernel_rfl
  have e0:(ev (bC rF T) (n+29)).e (fX 1032) (dE (bX (bN (j7 5))) 0) S0=.ok (.v (bV K cq a)) S0:=by subst hS;kernel_rfl
  have ar:bY (ev (bC rF T) (n+29)) (fX 1032) false (bX (bN (j7 5))) S0=.ok [.v (bV K cq a),.v (.lst (gs.map dg))] S0:=by
   rw[show bX (bN (j7 5))=[dE (bX (bN (j7 5))) 0,dE (bX (bN (j7 5))) 1] by kernel_rfl]
   exact cE e0 (cE e1 rfl)
  subst hS;exact g8 (dX ar h3)
 rw[J8 T (n+30),show fB 1032=[j7 0,j7 1,j7 2,j7 3]++[j7 4,j7 5] by kernel_rfl,ew (Pj T n nm cl cq a ss K hK) (bG q4 (dj q5))]
 subst hS;rfl
end
theorem NC(l)(fs):Q5 (HT l fs)=lS l fs:=by
 unfold Q5 lS HT;rw[ah];refine List.filter_congr λi hi=>?_;rw[bc,az (List.mem_range.mp hi)];rfl
theorem so(l)(fs):∀i∈lS l fs,i<fs.length:=λi hi=>List.mem_range.mp (List.mem_filter.mp hi).1
theorem uR(l)(fs):(lS l fs).length<=fs.length:=by
 have:=List.length_filter_le (λi=>decide (l<=(fs[i]?).getD 0)) (List.range fs.length)
 rwa [aY]at this
def xi(fs:List Int)(k:Int)(rb:Bool):LA:=gQ rb (cW k) (fs.map (cP k))
theorem wx(fs)(k)(rb):(xi fs k rb).length=fs.length:=by
 obtain _|_:=rb
 ·exact ah ..
 ·show(List.map _ _).length=_
  rw[ah,ah]
theorem GO{k:Int}(hk:k=0\/k=1)(rb):iq rb (cW k)∈rW:=by
 obtain rfl|rfl:=hk<;>obtain _|_:=rb<;>decide
def qE(fs:List Int)(k:Int)(nb rb:Bool)(l:Int):AV:=bV (iq rb (cW k)) (j6 (xi fs k rb) (lS l fs)) (gM ((HW nb fs.length).map λL=>j6 L (lS l fs)))
def RQ:cK:=λa os ss=>match Nat.beq a 575 with|true=>GI a os ss|false=>TA a os ss
def QZ:cK:=λa os ss=>match Nat.beq a 1027 with|true=>cA (bC ua RQ) 31 a os ss|false=>(match Nat.beq a 544 with|true=>cA dH 21 a os ss|false=>TA a os ss)
def M4(T:cK):Prop:=∀(fs:List Int) (k:Int) (nb rb:Bool) (l:Int) (ss:LA),(∀x∈fs,eO x)->fs.length<=5->(k=0\/k=1)->0<=l->l<6->ss.length<=50->T 1032 [.v cu,.v (.lst [.tup [.none,cb "p" (gF l)],.tup [.none,tY fs k nb rb]]),.v bP] (some ss)=.ok (qE fs k nb rb l) (.v .none) (some ss)
theorem U1:M4 (cA (bC rF QZ) 31):=λfs k nb rb l ss hf cI hk h0 h1 hl=>by
 have t:=NJ (T:=RQ) 0 _ _ _ (bs:=(HT l fs).map bI) (by unfold HT;rw[ah,ah];exact cI) (pL fs cI k hk nb rb _) ((Vj h0 h1 hk fs hf cI ss hl).trans (by
  unfold HT;rw[bh,bh];exact aN (λl=>C.ok _ _ _) (List.map_congr_left λx Y=>Hd l x)))
 have w:=Ng (some ss) (HT l fs) (xf 5 _ (by unfold HT;rw[ah];exact cI))
 rw[NC]at w;have p:=Ov (GO hk rb) (xi fs k rb) (λL e=>by rw[wx];exact(z0 nb cI L e).1) _ (λi hi=>by rw[wx];exact so l fs i hi) (aq (uR l fs) cI) (some ss)
 rw[G5]at p;exact Ph 0 (GO hk rb) (aq (uR l fs) cI) t w p
section
variable(T:cK)(n:Nat)(v:V)(hd bB aa:OV)
theorem SZ{T:cK}{l:Int}{x:AV}(h:T 1032 [.v cu,.v (.lst [.tup [.none,cb "p" (gF l)],.tup [.none,v.w.v]]),.v bP] (some v.ss)=.ok x (.v .none) (some v.ss)):xL T n (sT 47) (mz v hd bB l (mH "p" (gF l)) [("good",gd)] aa)=.ok .next (mz v hd (.v x) l (.v (cb "p" (gF l))) [("good",gd)] aa):=by
 exact dW (dX (dO (P:=λq=>bY (eL T (n+19)) lX false (bX (bN (sT 47))) (mz {v with q:=q} hd bB l (mH "p" (gF l)) [("good",gd)] aa)=.ok [.v cu,.v (.lst [.tup [.none,cb "p" (gF l)],.tup [.none,v.w.v]]),.v bP] (mz {v with q:=q} hd bB l (.v (cb "p" (gF l))) [("good",gd)] aa)) (cg _) v.q) h) (by kernel_rfl)
abbrev j8(v:V)(hd bB:OV)(l:Int)(gs:List Nat)(tn:LO)(aa:OV):S:=mz v hd bB l (.v (cb "p" (gF l))) (("good",.v (.lst (gs.map dg)))::tn) aa
abbrev xp(i:Nat):Expr:=dE (j4 (cB (sT 48))) i
def IF(i:Nat):Cx:=⟨iU,some (jc (match i with|0=>iF (ik (xp 2))|1=>k8 (cB (sT 49))|_=>ik (cB (sT 49)))),none⟩
theorem Mx(l)(gs)(e)(i)(hi:i=0/\e=iF (ik (xp 2))\/i=2/\e=ik (cB (sT 49))):(eL T (n+17)).e lX e (j8 v hd bB l gs [] aa)=gb (bC eT T) (n+16) (IF i) e (gs.map dg) (j8 v hd bB l gs [] aa):=by
 obtain⟨rfl,rfl⟩|⟨rfl,rfl⟩:=hi
 ·exact dO (P:=λq=>(eL T _).e lX _ (j8 {v with q:=q} hd bB l gs [] aa)=gb _ _ _ _ _ (j8 {v with q:=q} hd bB l gs [] aa)) (cg _) v.q
 ·exact dO (P:=λq=>(eL T _).e lX _ (j8 {v with q:=q} hd bB l gs [] aa)=gb _ _ _ _ _ (j8 {v with q:=q} hd bB l gs [] aa)) (cg _) v.q
theorem UT(l)(gs):(eL T (n+18)).e lX (ik (xp 1)) (j8 v hd bB l gs [] aa)=.ok (.v (.int (gs.map dg).length)) (j8 v hd bB l gs [] aa):=dO (P:=λq=>(eL T _).e lX _ (j8 {v with q:=q} hd bB l gs [] aa)=.ok _ (j8 {v with q:=q} hd bB l gs [] aa)) (cg _) v.q
theorem wQ(h:xs.all kW=true)(gs):(j6 xs gs).all kW=true:=by
 rw[List.all_eq_true]at h⊢;refine λa ha=>bW (List.mem_map.mp ha) ?_;rintro i _ rfl
 refine eE xs[i]? (λe=>rfl) λb e=>h b (List.mem_of_getElem? e)
theorem SY{T:cK}(hv:v.w.v=bV K cq a)(hn:v.w.nm=dB N)(hA:∀L,N=some L->L.all kW=true)(l)(gs)(hg:∀L,N=some L->∀i∈gs,i<L.length)(cI:gs.length<=5)(hx:xs.length=gs.length)(h:T 1395 [.v (bV K xs (gM (N.map λL=>j6 L gs)))] (some v.ss)=.ok (dB (N.map λL=>j6 L gs)) (.v .none) (some v.ss)):xL T n (sT 48) (j8 v hd (.v (bV K xs (gM (N.map λL=>j6 L gs)))) l gs [] aa)=.ok .next (j8 v hd (.v (bV K xs (gM (N.map λL=>j6 L gs)))) l gs [] aa):=by
 generalize hM:(N.map λL=>j6 L gs)=M' at*
 generalize hS:j8 v hd _ l gs [] aa=S0;have vv:∀k,(ev (bC eT T) (k+1)).e lX (qA (ik (xp 0))) S0=.ok (.v v.w.v) S0:=λk=>by subst hS;kernel_rfl
 have e0:(eL T (n+19)).b lX _ S0=.ok false S0:=nT (by subst hS;kernel_rfl) (A9 (m:="kind") ((vv _).trans (by rw[hv])) rfl) (gI rfl AV.noConfusion)
 have g:=UT T n v hd (.v (bV K xs (gM M'))) aa l gs
 rw[hS,ah]at g;have e1:(eL T _).b lX _ S0=.ok false S0:=nT (a:=.int xs.length) (by subst hS;kernel_rfl) g (by rw[hx];exact gI rfl AV.noConfusion)
 have c:(eL T (n+18)).e lX (k8 (xp 2)) S0=.ok (.v (dB M')) S0:=by subst hS;exact cX h (by kernel_rfl)
 have nn:∀k,(ev (bC eT T) (k+1)).e lX (k8 (uy (ik (xp 2)))) S0=.ok (.v v.w.nm) S0:=λk=>by subst hS;kernel_rfl
 have d:(eL T (n+18)).e lX (ik (xp 2)) S0=.ok (.v (dB M')) S0:=by
  have t:∀b,ij _ .none .Is S0=.ok b S0->(eL T (n+17)).b lX _ S0=.ok b S0:=λb hb=>nT ((nn _).trans (by rw[hn])) (by subst hS;kernel_rfl) hb
  induction N using i7 with
  |none=>
   subst hM;exact sj (by subst hS;kernel_rfl) (t true rfl) (by subst hS;kernel_rfl)
  |some L=>
   subst hM;refine sj (by subst hS;kernel_rfl) (t false rfl) ?_
   refine(hS▸(Mx T n v hd (.v (bV K xs (gM ((some L).map λL=>j6 L gs)))) aa l gs _ 0 (.inl ⟨rfl,rfl⟩))).trans ?_
   subst hS;exact gh (x:="at") ⟨(gN (iF (ik (xp 2)))).pos,by kernel_rfl⟩ (by lia) λi hi=>lY (iB (by rw[az (hg L rfl i hi)];rfl)) ((show _=R.ok (.v v.w.nm) _ by kernel_rfl).trans (by rw[hn];rfl)) (by kernel_rfl)
 exact jG (ll [xp 0,xp 1,xp 2] (by subst hS;kernel_rfl) (iy e0 (iy e1 (iy (nT c d (gI (by
  subst hM;induction N using i7 with
  |none=>rfl
  |some L=>exact je (wQ (hA L rfl) gs)) (by subst hM;obtain _|_:=N<;>exact AV.noConfusion))) rfl))))
end
abbrev QR:Expr:=k8 (cB (sT 49))
theorem EX{k:Int}(hk:k=0\/k=1)(fs:List Int):(fs.map (cP k)).all kW=true:=by
 rw[List.all_eq_true];refine λa ha=>bW (List.mem_map.mp ha) ?_;rintro x _ rfl
 obtain rfl|rfl:=hk<;>rfl
theorem I4{k:Int}(rb){i:Nat}(hi:i<fs.length):((xi fs k rb)[i]?).getD .none=(match rb with|true=>bV (cW k) [(((fs.map (cP k))[i]?).getD .none)] .none|false=>((fs.map (cP k))[i]?).getD .none):=by
 have h:i<(fs.map (cP k)).length:=by rw[ah];exact hi
 unfold xi gQ;induction rb using i8 with
 |false=>rfl
 |true=>
  rw[bc,az h];rfl
section
variable(T:cK)(n:Nat)(v:V)(hd bB aa:OV)
theorem SX{k:Int}(hk:k=0\/k=1)(cI:fs.length<=5)(Yx:v.w.ro=.bool rb)(Gv:v.w.it=.lst (fs.map (cP k)))(l)(hg:∀i∈gs,i<fs.length)(gl:gs.length<=5):xL T n (sT 49) (j8 v hd (.v (bV K (j6 (xi fs k rb) gs) a)) l gs [] aa)=.ok .next (j8 v hd (.v (bV K (j6 (xi fs k rb) gs) a)) l gs [] aa):=by
 have hL:(eL T (n+19)).e lX QR (j8 v hd (.v (bV K (j6 (xi fs k rb) gs) a)) l gs [] aa)=.ok (.v (.lst (j6 (fs.map (cP k)) gs))) (j8 v hd (.v (bV K (j6 (xi fs k rb) gs) a)) l gs [] aa):=by
  refine Eq.trans (b:=gb (bC eT T) (n+18) (IF 1) QR (j6 (xi fs k rb) gs) _) (by kernel_rfl)<|gh (x:="one") ⟨(gN QR).pos,by kernel_rfl⟩ (by lia) λi hi=>?_
  rw[I4 rb (hg i hi)];generalize(((fs.map (cP k))[i]?).getD .none)=z;generalize j6 _ gs=xs;have t:∀o,(eL T (n+17)).b (IF 1) (uy (eJ QR)) ⟨[("one",o)],(j8 v hd (.v (bV K xs a)) l gs [] aa).loc,some v.ss,some 1421⟩=.ok rb ⟨[("one",o)],(j8 v hd _ l gs [] aa).loc,some v.ss,some 1421⟩:=λo=>(show _=(match gZ v.w.ro with|some b=>R.ok b ⟨[("one",o)],(j8 v hd (.v (bV K xs a)) l gs [] aa).loc,some v.ss,some 1421⟩|none=>.no) by kernel_rfl).trans (by rw[Yx];rfl)
  induction rb using i8 with
  |true=>exact sj (by kernel_rfl) (t _) (by kernel_rfl)
  |false=>exact sj (by kernel_rfl) (t _) (by kernel_rfl)
 have hR:(eL T (n+19)).e lX (ik (cB (sT 49))) (j8 v hd (.v (bV K (j6 (xi fs k rb) gs) a)) l gs [] aa)=.ok (.v (.lst (j6 (fs.map (cP k)) gs))) (j8 v hd (.v (bV K (j6 (xi fs k rb) gs) a)) l gs [] aa):=by
  refine(Mx T _ v hd _ aa l gs _ 2 (.inr ⟨rfl,rfl⟩)).trans<|gh (x:="at") ⟨(gN (ik (cB (sT 49)))).pos,by kernel_rfl⟩ (by lia) λi hi=>?_
  have h:i<(fs.map (cP k)).length:=by rw[ah];exact hg i hi
  exact lY (iB (by rw[az h];rfl)) ((show _=R.ok (.v v.w.it) _ by kernel_rfl).trans (by rw[Gv])) (by kernel_rfl)
 exact jG (nT hL hR (gI (je (wQ (EX hk fs) gs)) AV.noConfusion))
abbrev hW(v:V)(hd bB:OV)(l:Int)(gs:List Nat)(e:Int)(tn:LO)(aa:OV):S:=j8 v hd bB l gs (("each",.v (.int e))::tn) aa
theorem Vv(l)(gs)(cs)(i h2 h3):xL T n (sT 50) (j8 v (cT cs i h2 h3) bB l gs [] aa)=((T 1374 [cT cs i h2 h3,.v (.int 2)] (some v.ss)).toL "hand" (j8 v (cT cs i h2 h3) bB l gs [] aa)).bind λo s=>aL T n (cV (sT 50)) o s:=by kernel_rfl
theorem VJ(l)(gs)(e):aL T n (cV (sT 50)) (.v (.int e)) (j8 v hd bB l gs [] aa)=.ok .next (hW v hd bB l gs e [] aa):=dO (P:=λq=>aL T n _ _ (j8 {v with q:=q} hd bB l gs [] aa)=.ok .next (hW {v with q:=q} hd bB l gs e [] aa)) (cg _) v.q
theorem SW{T:cK}(hT:fH T)(h:dx)(l)(gs):∃e h',0<=e/\e<2/\xL T n (sT 50) (j8 v h.o bB l gs [] aa)=.ok .next (hW v (dx.o h') bB l gs e [] aa):=
 js hT (S1:=λhd=>j8 v hd bB l gs [] aa) (S2:=λhd e=>hW v hd bB l gs e [] aa) (.inl rfl) h (Vv T n v bB aa l gs) λY Y Y Y Y Y Y Y Y=>VJ ..
def g9(l:Int)(v:AV)(e:Int):LA:=[.tup [.none,cb "p" (gF l)],.tup [.none,v],.tup [.str "right",bV "logical" [.int e] .none]]
theorem SU(l)(gs)(e):xL T n (sT 51) (hW v hd bB l gs e [] aa)=.ok .next (hW v hd bB l gs e [] (.ol (g9 l v.w.v e))):=dO (P:=λq=>xL T n _ (hW {v with q:=q} hd bB l gs e [] aa)=.ok .next (hW {v with q:=q} hd bB l gs e [] _)) (cg _) v.q
theorem SS{T:cK}(l:Int)(gs)(e:Int)(pa:LA){x y:AV}(h1:T 1046 [.v cu,.v (.lst pa),.v bP] (some v.ss)=.ok x (.v .none) (some v.ss))(h2:T 1053 [.v cu,.v (.lst pa),.v bP] (some v.ss)=.ok y (.v .none) (some v.ss)):yL T n [sT 52,sT 53] (hW v hd bB l gs e [] (.ol pa))=.ok .next (hW v hd bB l gs e [("place",.v x),("thing",.v y)] (.v (.lst pa))):=by
 have ar:bY _ lX false _ (hW v hd bB l gs e [] (.ol pa))=.ok [.v cu,.v _,.v bP] (hW v hd bB l gs e [] _):=dO (P:=λq=>bY (eL T (n+19)) lX false (bX (bN (sT 52))) (hW {v with q:=q} hd bB l gs e [] (.ol pa))=.ok [.v cu,.v (.lst pa),.v bP] (hW {v with q:=q} hd bB l gs e [] (.v (.lst pa)))) (cg _) v.q
 exact bG (dW (dX ar h1) (dO (P:=λq=>aL T n (cV (sT 52)) (.v x) (hW {v with q:=q} hd bB l gs e [] (.v (.lst pa)))=.ok .next (hW {v with q:=q} hd bB l gs e [("place",.v x)] (.v (.lst pa)))) (cg _) v.q)) (bG (dW (dX (dO (P:=λq=>bY (eL T (n+19)) lX false (bX (bN (sT 53))) (hW {v with q:=q} hd bB l gs e [("place",.v x)] (.v (.lst pa)))=.ok [.v cu,.v (.lst pa),.v bP] (hW {v with q:=q} hd bB l gs e [("place",.v x)] (.v (.lst pa)))) (cg _) v.q) h2) (dO (P:=λq=>aL T n (cV (sT 53)) (.v y) (hW {v with q:=q} hd bB l gs e [("place",.v x)] (.v (.lst pa)))=.ok .next (hW {v with q:=q} hd bB l gs e [("place",.v x),("thing",.v y)] (.v (.lst pa)))) (cg _) v.q)) rfl)
end
noncomputable def lT:List Addr:=[532,916,561,1346,902]
abbrev mR(i:Nat):Stmt:=cM (fB 1039) i
abbrev WY(aa:AV)(ss:OA)(tl:LO):S:=⟨[],("interp",.v cu)::("args",.v aa)::("env",.v bP)::tl,ss,none⟩
abbrev DK(aa f v rt:AV)(ss:OA)(tl:LO):S:=WY aa ss (("f",.v f)::("v",.v v)::("right",.v rt)::("other",.v .none)::tl)
abbrev nG(aa f v rt:AV)(cq:LA)(pl:OV)(ss:OA)(tl:LO):S:=DK aa f v rt ss (("values",.v (.lst cq))::("places",pl)::tl)
noncomputable def WZ:AV:=.lst [.str "f",.str "x",.str "right",.str "nomatch"]
theorem ND(l)(v)(e)(ss):cA dH 30 532 [.v (.lst (g9 l v e)),.v WZ] ss=.ok (.lst [cb "p" (gF l),v,bV "logical" [.int e] .none,.none]) (.v .none) ss:=by kernel_rfl
theorem P4(b)(ss):TA 902 [.v (bV "logical" [bI b] .none)] ss=.ok (.bool b) (.v .none) ss:=by obtain _|_:=b<;>kernel_rfl
section
variable(T:cK)(n:Nat)(aa f v rt:AV)(ss:OA)
theorem J3:cA (bC lT T) (n+1) 1039 [.v cu,.v aa,.v bP] ss=ey 1039 (bO (ev (bC lT T) n) (fX 1039) (fB 1039) (WY aa ss [])):=by kernel_rfl
theorem UZ(cq:LA)(cI:cq.length<=5):bL (ev (bC lT T) (n+30)) (fX 1039) (mR 3) (DK aa f v rt ss [("values",.v (.lst cq))])=.ok .next (nG aa f v rt cq (.ol ((List.range cq.length).map dg)) ss []):=by
 revert cq;exact fP
theorem UY{T:cK}{aa f v rt:AV}{ss:OA}{ds:LA}(h:T 916 [.v rt,.v (.bool false)] ss=.ok (.bool b) (.v .none) ss):bL (ev (bC lT T) (n+30)) (fX 1039) (mR 4) (nG aa f v rt cq (.ol ds) ss [])=.ok .next (nG aa f v rt cq (mB b (.ol ds.reverse) (.ol ds)) ss []):=by
 have t:(ev (bC lT T) (n+30)).b (fX 1039) (cB (mR 4)) (nG aa f v rt cq (.ol ds) ss [])=.ok b (nG aa f v rt cq (.ol ds) ss []):=by
  have e:(ev (bC lT T) (n+30)).b (fX 1039) (cB (mR 4)) (nG aa f v rt cq (.ol ds) ss [])=(vl ((ev (bC lT T) (n+29)).e (fX 1039) (cB (mR 4)) (nG aa f v rt cq (.ol ds) ss []))).bind λa s=>(match gZ a with|some b=>.ok b s|none=>.no):=by kernel_rfl
  rw[e,(cX h (by kernel_rfl))];rfl
 induction b using i8 with
 |true=>exact mJ t (by kernel_rfl)
 |false=>exact mJ t (by kernel_rfl)
def H4(n:Nat)(a:AV)(s:S):R Fl:=(bR (ev (bC lT T) (n+30)) (fX 1039) (iT (mR 6)) (.v a) s).bind λY s=>(ev (bC lT T) (n+30)).x (fX 1039) (cU (mR 6)) s
abbrev mQ(aa f v rt:AV)(cq ds:LA)(tk:AV)(ss:OA)(tl:LO):S:=nG aa f v rt cq (.v (.lst ds)) ss (("taken",.v tk)::tl)
theorem UX(cq)(pl):bL (ev (bC lT T) (n+30)) (fX 1039) (mR 5) (nG aa f v rt cq pl ss [])=.ok .next (nG aa f v rt cq pl ss [("taken",.v .none)]):=by kernel_rfl
theorem UW(cq ds:LA):bL (ev (bC lT T) (n+30)) (fX 1039) (mR 6) (nG aa f v rt cq (.ol ds) ss [("taken",.v .none)])=ek (H4 T n) ds (mQ aa f v rt cq ds .none ss []):=by kernel_rfl
theorem Pe(cq ds)(tk)(tl):ey 1039 (bO (ev (bC lT T) (n+30)) (fX 1039) [mR 7,mR 8] (mQ aa f v rt cq ds tk ss tl))=.ok (.tup [.lst cq,tk,.none]) (.v .none) ss:=by kernel_rfl
abbrev C5:Stmt:=cM (cU (mR 6)) 0
theorem UU(cq ds)(tl:LO)(ht:tl=[]\/∃b,tl=[(("place":Str),OV.v b)])(a):bR (ev (bC lT T) (n+30)) (fX 1039) (iT (mR 6)) (.v a) (mQ aa f v rt cq ds .none ss tl)=.ok .next (mQ aa f v rt cq ds .none ss [("place",.v a)]):=by
 obtain rfl|⟨b,rfl⟩:=ht<;>kernel_rfl
theorem E6{T:cK}{aa f v rt:AV}{ss:OA}{ds:LA}{i:Nat}{it x:AV}(hi:i<=4)(Gv:cq[i]? =some it)(h1:T 1346 [.v cu,.v f,.v (.lst [.tup [.none,it]]),.v bP] ss=.ok x (.v .none) ss)(h2:T 902 [.v x] ss=.ok (.bool b) (.v .none) ss):bO (ev (bC lT T) (n+29)) (fX 1039) [C5] (mQ aa f v rt cq ds .none ss [("place",.v (dg i))])=.ok (mB b .brk .next) (mQ aa f v rt cq ds (mB b (dg i) .none) ss [("place",.v (dg i))]):=by
 have ar:bY (ev (bC lT T) (n+26)) (fX 1039) false (bX (eB (cB C5))) (mQ aa f v rt cq ds .none ss [("place",.v (dg i))])=.ok [.v f,.v (.lst [.tup [.none,it]]),.v bP] (mQ aa f v rt cq ds .none ss [("place",.v (dg i))]):=by
  have lt:=(List.getElem?_eq_some_iff.mp Gv).1
  have e:cq=cq.take i++it::cq.drop (i+1):=by
   have:=(List.getElem?_eq_some_iff.mp Gv).2
   rw[<-this];exact(List.take_append_drop i cq).symm.trans (aN _ (List.drop_eq_getElem_cons lt))
  have tl:(cq.take i).length=i:=by rw[List.length_take];lia
  refine zS (DD (cq.take i) (by lia)) λa b c d q=>?_
  rw[tl]at q;generalize cq.drop _=rest at e;rw[q]at e;subst e;have:∀i∈n5,bY (ev (bC lT T) (n+26)) (fX 1039) false (bX (eB (cB C5))) (mQ aa f v rt ([a,b,c,d].take i++it::rest) ds .none ss [("place",.v (dg i))])=.ok [.v f,.v (.lst [.tup [.none,it]]),.v bP] (mQ aa f v rt ([a,b,c,d].take i++it::rest) ds .none ss [("place",.v (dg i))]):=cg _;exact this i (hB hi)
 have RM:bY (ev (bC lT T) (n+27)) (fX 1039) false (bX (cB C5)) (mQ aa f v rt cq ds .none ss [("place",.v (dg i))])=.ok [.v x] (mQ aa f v rt cq ds .none ss [("place",.v (dg i))]):=by
  rw[show bX _=[eB _] by kernel_rfl]
  exact cE (w8 (by kernel_rfl) ar h1) rfl
 have t:(ev (bC lT T) (n+29)).b (fX 1039) (cB C5) (mQ aa f v rt cq ds .none ss [("place",.v (dg i))])=.ok b (mQ aa f v rt cq ds .none ss [("place",.v (dg i))]):=by
  have e:(ev (bC lT T) (n+29)).b (fX 1039) (cB C5) (mQ aa f v rt cq ds .none ss [("place",.v (dg i))])=(vl ((ev (bC lT T) (n+28)).e (fX 1039) (cB C5) (mQ aa f v rt cq ds .none ss [("place",.v (dg i))]))).bind λa s=>(match gZ a with|some b=>.ok b s|none=>.no):=by kernel_rfl
  rw[e,(dX RM h2)];rfl
 have q:bL (ev (bC lT T) (n+29)) (fX 1039) C5 (mQ aa f v rt cq ds .none ss [("place",.v (dg i))])=.ok (mB b .brk .next) (mQ aa f v rt cq ds (mB b (dg i) .none) ss [("place",.v (dg i))]):=by
  induction b using i8 with
  |true=>exact mJ t (by kernel_rfl)
  |false=>exact mJ t (by kernel_rfl)
 show(bL _ _ _ _).bind _=_
 rw[q];obtain _|_:=b<;>rfl
end
def qD(o:Option Nat):AV:=bV "integer" [match o with|some j=>.int ((j:Int)+1)|none=>.none] .none
def ID(vs:LA)(o:Option Nat):AV:=match o with|some j=>(vs[j]?).getD .none|none=>kg
noncomputable def uz(o:Option Nat):AV:=match o with|some i=>dg i|none=>.none
theorem E7{T:cK}(n:Nat){aa f v rt:AV}{ds:LA}{P:Nat->Bool}:∀(xs:List Nat) (tl:LO),(∀i∈xs,i<=4/\∃it x,cq[i]? =some it/\T 1346 [.v cu,.v f,.v (.lst [.tup [.none,it]]),.v bP] ss=.ok x (.v .none) ss/\T 902 [.v x] ss=.ok (.bool (P i)) (.v .none) ss)->(tl=[]\/∃b,tl=[(("place":Str),OV.v b)])->∃eY,ek (H4 T n) (xs.map dg) (mQ aa f v rt cq ds .none ss tl)=.ok .next (mQ aa f v rt cq ds (uz (xs.find? P)) ss eY):=by
 intro xs;induction xs with
 |nil=>intro tl _ _;exact⟨tl,rfl⟩
 |cons i l ih=>
  intro tl h ht;obtain⟨i4,it,x,h1,h2,h3⟩:=h i (.head _);have e:ek (H4 T n) ((i::l).map dg) (mQ aa f v rt cq ds .none ss tl)=(H4 T n (dg i) (mQ aa f v rt cq ds .none ss tl)).bind λfl s=>(match fl with| .next=>ek (H4 T n) (l.map dg) s| .brk=>.ok .next s| .ret v=>.ok (.ret v) s):=rfl
  have u:H4 T n (dg i) (mQ aa f v rt cq ds .none ss tl)=bO (ev (bC lT T) (n+29)) (fX 1039) [C5] (mQ aa f v rt cq ds .none ss [("place",.v (dg i))]):=by
   unfold H4;rw[UU T n aa f v rt ss cq ds tl ht,c0,oY,show cU (mR 6)=[C5] by kernel_rfl]
  rw[e,u,(E6 n (aa:=aa) (rt:=rt) (v:=v) (ds:=ds) i4 h1 h2 h3),List.find?_cons];cases P i with
  |true=>exact⟨[("place",.v (dg i))],rfl⟩
  |false=>exact ih [("place",.v (dg i))] (λj hj=>h j (.tail _ hj)) (.inr ⟨_,rfl⟩)
theorem Pd{T:cK}(n){l:Int}{e:Int}{P:Nat->Bool}(cI:cq.length<=5)(h0:T 532 [.v (.lst (g9 l (bV K xs a) e)),.v WZ] ss=.ok (.lst [cb "p" (gF l),bV K xs a,bV "logical" [.int e] .none,.none]) (.v .none) ss)(h1:T 561 [.v (bV K xs a)] ss=.ok (.lst cq) (.v .none) ss)(h2:T 916 [.v (bV "logical" [.int e] .none),.v (.bool false)] ss=.ok (.bool b) (.v .none) ss)(h:∀i,i<cq.length->∃it x,cq[i]? =some it/\T 1346 [.v cu,.v (cb "p" (gF l)),.v (.lst [.tup [.none,it]]),.v bP] ss=.ok x (.v .none) ss/\T 902 [.v x] ss=.ok (.bool (P i)) (.v .none) ss):
  cA (bC lT T) (n+31) 1039 [.v cu,.v (.lst (g9 l (bV K xs a) e)),.v bP] ss=.ok (.tup [.lst cq,uz ((mB b (List.range cq.length).reverse (List.range cq.length)).find? P),.none]) (.v .none) ss:=by
 rw[J3 T _,show fB 1039=mR 0::mR 1::mR 2::mR 3::mR 4::mR 5::mR 6::[mR 7,mR 8] by kernel_rfl]
 generalize ZS:g9 l _ e=pa at*;have q1:bL (ev (bC lT T) (n+30)) (fX 1039) (mR 1) (DK (.lst pa) (cb "p" (gF l)) (bV K xs a) (bV "logical" [.int e] .none) ss [])=.ok .next (DK (.lst pa) (cb "p" (gF l)) (bV K xs a) (bV "logical" [.int e] .none) ss []):=by kernel_rfl
 have q4:=UY n (aa:=.lst pa) (f:=cb "p" (gF l)) (v:=bV K xs a) (cq:=cq) (ds:=(List.range cq.length).map dg) h2
 have z:(mB b (OV.ol ((List.range cq.length).map dg).reverse) (.ol ((List.range cq.length).map dg)))=.ol ((mB b (List.range cq.length).reverse (List.range cq.length)).map dg):=by obtain _|_:=b<;>first|rfl|exact aN OV.ol (List.map_reverse ..).symm
 rw[z]at q4;obtain⟨tl,q6⟩:=E7 n (mB b (List.range cq.length).reverse (List.range cq.length)) [] (λi hi=>by
  have:=by
   induction b using i8 with
   |true=>exact List.mem_range.mp (List.mem_reverse.mp hi)
   |false=>exact List.mem_range.mp hi
  exact⟨by lia,h i this⟩) (.inl rfl)
 rw[bG (dW (cX h0 (by kernel_rfl)) (by kernel_rfl)) (bG q1 (bG (dW (cX h1 (by kernel_rfl)) (by kernel_rfl)) (bG (UZ T n _ _ _ _ ss cq cI) (bG q4 (bG (UX T n _ _ _ _ ss cq _) (bG ((UW T n _ _ _ _ ss cq _).trans q6) rfl))))))]
 exact Pe ..
section
variable(T:cK)(n:Nat)(ss:OA)
theorem Ou{T:cK}{aa vs:AV}{o:Option Nat}(h:T 1039 [.v cu,.v aa,.v bP] ss=.ok (.tup [vs,uz o,.none]) (.v .none) ss):cA (bC [1039] T) (n+31) 1046 [.v cu,.v aa,.v bP] ss=.ok (qD o) (.v .none) ss:=by
 have r:cA (bC [1039] T) (n+31) 1046 [.v cu,.v aa,.v bP] ss=ey 1046 (bO (ev (bC [1039] T) (n+30)) (fX 1046) (cM (fB 1046) 0::(fB 1046).drop 1) ⟨[],[("interp",.v cu),("args",.v aa),("env",.v bP)],ss,none⟩):=by kernel_rfl
 have q0:bL (ev (bC [1039] T) (n+30)) (fX 1046) (cM (fB 1046) 0) ⟨[],[("interp",.v cu),("args",.v aa),("env",.v bP)],ss,none⟩=.ok .next ⟨[],[("interp",.v cu),("args",.v aa),("env",.v bP),("values",.v vs),("place",.v (uz o)),("other",.v .none)],ss,none⟩:=dW (cX h (by kernel_rfl)) (by kernel_rfl)
 rw[r,bG q0 rfl];obtain _|_:=o<;>kernel_rfl
theorem Pk{T:cK}{aa:AV}{vs:LA}{o:Option Nat}(h:T 1039 [.v cu,.v aa,.v bP] ss=.ok (.tup [.lst vs,uz o,.none]) (.v .none) ss)(ho:∀j,o=some j->j<vs.length):cA (bC [1039] T) (n+31) 1053 [.v cu,.v aa,.v bP] ss=.ok (ID vs o) (.v .none) ss:=by
 have r:cA (bC [1039] T) (n+31) 1053 [.v cu,.v aa,.v bP] ss=ey 1053 (bO (ev (bC [1039] T) (n+30)) (fX 1053) (cM (fB 1053) 0::(fB 1053).drop 1) ⟨[],[("interp",.v cu),("args",.v aa),("env",.v bP)],ss,none⟩):=by kernel_rfl
 have q0:bL (ev (bC [1039] T) (n+30)) (fX 1053) (cM (fB 1053) 0) ⟨[],[("interp",.v cu),("args",.v aa),("env",.v bP)],ss,none⟩=.ok .next ⟨[],[("interp",.v cu),("args",.v aa),("env",.v bP),("values",.v (.lst vs)),("place",.v (uz o)),("other",.v .none)],ss,none⟩:=dW (cX h (by kernel_rfl)) (by kernel_rfl)
 rw[r,bG q0 rfl];induction o using i7 with
 |none=>kernel_rfl
 |some j=>
  generalize hS:(⟨[],[(("interp"),OV.v cu),("args",.v aa),("env",.v bP),("values",.v _),("place",.v _),("other",.v .none)],ss,none⟩:S)=S0;have q1:bL (ev (bC [1039] T) (n+30)) (fX 1053) (cM (fB 1053) 1) S0=.ok (.ret ((vs[j]?).getD .none)) S0:=by
   refine g8 (Eq.trans (by subst hS;kernel_rfl) (iB (by rw[az (ho j rfl)];rfl)))
  rw[show(fB 1053).drop 1=[cM _ 1] by kernel_rfl,dj q1]
  subst hS;rfl
end
noncomputable def nq(e:Int)(gs:List Nat):Option Nat:=if e=1 then gs.reverse.head? else gs.head?
def RP:cK:=λa os ss=>match Nat.beq a 532 with|true=>cA dH 30 a os ss|false=>(match Nat.beq a 1346 with|true=>TV a os ss|false=>TA a os ss)
def GH:cK:=cA (bC lT RP) 31
theorem WX{k l e:Int}(nb rb)(ss)(hf:∀x∈fs,eO x)(cI:fs.length<=5)(hk:k=0\/k=1)(h0:0<=l)(h1:l<6)(he:e=0\/e=1):GH 1039 [.v cu,.v (.lst (g9 l (tY fs k nb rb) e)),.v bP] ss=.ok (.tup [.lst (fs.map (gT k)),uz (nq e (lS l fs)),.none]) (.v .none) ss:=by
 have q:=Pd (T:=RP) 0 (b:=decide (e=1)) (P:=λi=>decide (l<=(fs[i]?).getD 0)) (by rw[ah];exact cI) (ND l _ e ss) (pL fs cI k hk nb rb ss) (by obtain rfl|rfl:=he;exact Am false ss;exact Am true ss) λi hi=>by
  rw[ah]at hi;refine(eF _ _ (by rw[bc,az hi];rfl) (LH l k _ ss h0 h1 hk (hf _ (List.getElem_mem hi))) ?_)
  rw[Hd,az hi];exact P4 _ ss
 rw[ah]at q;have:(mB (decide (e=1)) (List.range fs.length).reverse (List.range fs.length)).find? (λi=>decide (l<=(fs[i]?).getD 0))=nq e (lS l fs):=by
  unfold nq lS;obtain rfl|rfl:=he
  ·rw[List.head?_filter];rfl
  ·rw[<-List.filter_reverse,List.head?_filter];rfl
 rw[this]at q;exact q
theorem wF{e:Int}(h:nq e gs=some j):j∈gs:=by
 unfold nq at h
 split at h
 ·exact List.mem_reverse.mp (List.mem_of_head? h)
 ·exact List.mem_of_head? h
def MW(T:cK):Prop:=∀(fs:List Int) (k l e:Int) (nb rb:Bool) (ss:OA),(∀x∈fs,eO x)->fs.length<=5->(k=0\/k=1)->0<=l->l<6->(e=0\/e=1)->T 1046 [.v cu,.v (.lst (g9 l (tY fs k nb rb) e)),.v bP] ss=.ok (qD (nq e (lS l fs))) (.v .none) ss
def M3(T:cK):Prop:=∀(fs:List Int) (k l e:Int) (nb rb:Bool) (ss:OA),(∀x∈fs,eO x)->fs.length<=5->(k=0\/k=1)->0<=l->l<6->(e=0\/e=1)->T 1053 [.v cu,.v (.lst (g9 l (tY fs k nb rb) e)),.v bP] ss=.ok (ID (fs.map (gT k)) (nq e (lS l fs))) (.v .none) ss
theorem T6:MW (cA (bC [1039] GH) 31):=λfs k l e nb rb ss hf cI hk h0 h1 he=>Ou 0 ss (WX nb rb ss hf cI hk h0 h1 he)
theorem U0:M3 (cA (bC [1039] GH) 31):=λfs k l e nb rb ss hf cI hk h0 h1 he=>Pk 0 ss (WX nb rb ss hf cI hk h0 h1 he) λj hj=>by
 rw[ah];exact so l fs j (wF hj)
section
variable(T:cK)(n:Nat)(v:V)(hd bB aa:OV)
theorem N9(l)(e):xL T n (sT 54) (hW v hd bB l [] e [("place",.v (qD none)),("thing",.v kg)] aa)=.ok (.ret (.bool true)) (hW v hd bB l [] e [("place",.v (qD none)),("thing",.v kg)] aa):=dO (P:=λq=>xL T n _ (hW {v with q:=q} hd bB l [] e [("place",.v _),("thing",.v kg)] aa)=.ok _ (hW {v with q:=q} hd bB l [] e [("place",.v _),("thing",.v kg)] aa)) (cg _) v.q
theorem SR(l)(e)(g)(gs)(x y):xL T n (sT 54) (hW v hd bB l (g::gs) e [("place",x),("thing",y)] aa)=.ok .next (hW v hd bB l (g::gs) e [("place",x),("thing",y)] aa):=dO (P:=λq=>xL T n _ (hW {v with q:=q} hd bB l _ e [("place",x),("thing",y)] aa)=.ok .next (hW {v with q:=q} hd bB l _ e [("place",x),("thing",y)] aa)) (cg _) v.q
theorem Si(l){e:Int}(he:e=0\/e=1)(gs)(x y)(hj:nq e gs=some j):(eL T (n+20)).e lX (bN (sT 55)) (hW v hd bB l gs e [("place",x),("thing",y)] aa)=.ok (.v (dg j)) (hW v hd bB l gs e [("place",x),("thing",y)] aa):=by
 obtain rfl|rfl:=he
 ·refine Eq.trans (b:=fw _ _ (hW v hd bB l gs 0 [("place",x),("thing",y)] aa)) (dO (P:=λq=>(eL T _).e lX _ (hW {v with q:=q} hd bB l gs 0 [("place",x),("thing",y)] aa)=fw (.lst (gs.map dg)) (.int 0) (hW {v with q:=q} hd bB l gs 0 [("place",x),("thing",y)] aa)) (cg _) v.q) ?_
  induction gs using eZ with
  |nil=>exact c8 hj
  |cons g r=>obtain rfl:=oI hj;rfl
 ·refine Eq.trans (b:=fw _ _ (hW v hd bB l gs 1 [("place",x),("thing",y)] aa)) (dO (P:=λq=>(eL T _).e lX _ (hW {v with q:=q} hd bB l gs 1 [("place",x),("thing",y)] aa)=fw (.lst (gs.map dg)) (.int (-1)) (hW {v with q:=q} hd bB l gs 1 [("place",x),("thing",y)] aa)) (cg _) v.q) ?_
  have hj:gs.reverse.head? =some j:=hj
  show(match(gs.map dg).reverse[0]? with|some a=>cZ a _|none=>.no)=_
  rw[<-List.map_reverse];generalize e:gs.reverse=zz;induction zz using eZ with
  |nil=>rw[e]at hj;exact c8 hj
  |cons g r=>rw[e]at hj;obtain rfl:=oI hj;rfl
abbrev GB(i:Nat):Expr:=dE (j4 (bN (sT 56))) i
structure End(S0:S)(j:Nat)(it w:AV):Prop where
 pl:∀k,(ev (bC eT T) (k+2)).e lX (k8 (GB 0)) S0=.ok (.v (.lst [.int ((j:Int)+1)])) S0
 th:∀k,(ev (bC eT T) (k+2)).e lX (k8 (GB 1)) S0=.ok (.v (.lst [it])) S0
 a1:∀k,(ev (bC eT T) (k+1)).e lX (gO (xC (ik (GB 0)))) S0=.ok (.v (dg j)) S0
 sb:∀k,(ev (bC eT T) (k+2)).e lX (xC (ik (GB 1))) S0=fw w (dg j) S0
 dl:S0.dl.isSome=true
def zb(v:V)(hd bB aa:OV)(l e:Int)(gs:List Nat)(x y:AV)(j:AV):S:=match v.q with
 |(true,q2)=>hW {v with q:=(true,q2),pa:=j} hd bB l gs e [("place",.v x),("thing",.v y)] aa
 |(false,q2)=>hW {v with q:=(false,q2)} hd bB l gs e [("place",.v x),("thing",.v y),("at",.v j)] aa
theorem SQ(l:Int){e:Int}(he:e=0\/e=1)(gs:List Nat)(x y:AV)(hj:nq e gs=some j):xL T n (sT 55) (hW v hd bB l gs e [("place",.v x),("thing",.v y)] aa)=.ok .next (zb v hd bB aa l e gs x y (dg j)):=
 dW (Si T n v hd bB aa l he gs _ _ hj) (dO (P:=λq=>aL T n (cV (sT 55)) (.v (dg j)) (hW {v with q:=q} hd bB l gs e [("place",.v x),("thing",.v y)] aa)=.ok .next (zb {v with q:=q} hd bB aa l e gs x y (dg j))) (cg _) v.q)
theorem Kc(l e)(gs)(kd)(it)(j):End T (zb v hd bB aa l e gs (qD (some j)) (bV kd [it] .none) (dg j)) j it v.w.it where
 pl:=λk=>dO (P:=λq=>(ev _ _).e lX _ (zb {v with q:=q} hd bB aa l e gs _ _ _)=.ok _ (zb {v with q:=q} hd bB aa l e gs _ _ _)) (cg _) v.q
 th:=λk=>dO (P:=λq=>(ev _ _).e lX _ (zb {v with q:=q} hd bB aa l e gs _ _ _)=.ok _ (zb {v with q:=q} hd bB aa l e gs _ _ _)) (cg _) v.q
 a1:=λk=>dO (P:=λq=>(ev _ _).e lX _ (zb {v with q:=q} hd bB aa l e gs _ _ _)=.ok _ (zb {v with q:=q} hd bB aa l e gs _ _ _)) (cg _) v.q
 sb:=λk=>dO (P:=λq=>(ev _ _).e lX _ (zb {v with q:=q} hd bB aa l e gs _ _ _)=fw v.w.it _ (zb {v with q:=q} hd bB aa l e gs _ _ _)) (cg _) v.q
 dl:=dO (P:=λq=>(zb {v with q:=q} hd bB aa l e gs _ _ _).dl.isSome=true) (cg _) v.q
end
theorem Ha(h0:(ev O (k+1)).e cx e s=(oM (ev O k) cx [xC e] s).bind λxs s=>(match dF xs.length with|true=>.ok (.ol xs) s|false=>.no))(hp:cG (xC e)=true)(h:(ev O k).e cx (xC e) s=.ok (.v a) s1):(ev O (k+1)).e cx e s=.ok (.ol [a]) s1:=by
 rw[h0,gH (h:=hp) h rfl];rfl
theorem Np:vl (.ok (.ol xs) s)=.ok (.lst xs) s:=rfl
theorem A3{t:Bool}(h0:(ev O (k+1)).e cx e s=((vl ((ev O k).e cx (k8 e) s)).bind λa s=>(vl ((ev O k).e cx (ik e) s)).bind λb s=>ij a b op s).bind λb s=>cZ (.bool b) s)(ha:(ev O k).e cx (k8 e) s=.ok (.v a) s1)(hb:(ev O k).e cx (ik e) s1=.ok (.ol xs) s2)(h:ij a (.lst xs) op s2=.ok t s2):(ev O (k+1)).e cx e s=.ok (.v (.bool t)) s2:=by
 rw[h0,ha,ip,c0,hb,Np,c0,h];rfl
theorem SP{T:cK}(n)(E:End T S0 j it (.lst cq))(hj:cq[j]? =some it)(ha:kW it=true):xL T n (sT 56) S0=.ok (.ret (.bool true)) S0:=by
 have e1:=A3 (by kernel_rfl) (E.pl _) (Ha (by kernel_rfl) (by kernel_rfl) (nU (op:=.Add) (by kernel_rfl) (E.a1 (n+15)) (b:=.int 1) (s2:=S0) (by kernel_rfl) rfl)) (ku rfl)
 have e2:=A3 (by kernel_rfl) (E.th _) (Ha (by kernel_rfl) (by kernel_rfl) ((E.sb (n+15)).trans (iB hj))) (ku (je (by rw[List.all_cons,ha];rfl)))
 have b:lx (eL T (n+19)) lX .And [GB 0,GB 1] S0=.ok (.bool true) S0:=by
  show(vl _).bind _=_
  rw[e1,ip];show vl _=_;rw[e2];rfl
 refine g8 ((show(eL T _).e lX _ S0=(lx (eL T (n+19)) lX .And [GB 0,GB 1] S0).bind λa s=>cZ a s by kernel_rfl).trans ?_)
 rw[b];rfl
structure rV(T:cK):Prop where
 pick:fH T
 val:DV T
 lap:IP T
 sap:MU T
 sim:MT T
 same:me T
 vap:∀(fs:List Int) (k fo:Int) (nb rb:Bool) (mo:Nat) (ss:List AV),(∀x∈fs,eO x)->fs.length<=5->(k=0\/k=1)->eO fo->mo<3->ss.length<=30->∃c,zO c mo (fs.map (pr fo)) (yZ fs k nb rb)/\T 1412 [.v (.ad 980),.v cu,.v (.lst [.tup [.none,tY fs k nb rb],.tup [.none,cb "f" (gY fo)],.tup [.none,pv (dN mo)]])] (some ss)=zT c
 map:∀(fs:List Int) (k:Int) (nb rb b:Bool) (r:Nat) (ss:Option (List AV)),(∀x∈fs,eO x)->fs.length<=5->(k=0\/k=1)->r<=4->T 1412 [.v (.ad 1006),.v cu,.v (.lst [.tup [.none,cb "j" gr],.tup [.none,oH b r],.tup [.none,tY fs k nb rb]])] ss=zT (DG k fs b r ss)
 nms:∀(K:Str) (xs:List AV) (N:Option (List AV)) (ss:Option (List AV)),T 1395 [.v (bV K xs (gM N))] ss=.ok (dB N) (.v .none) ss
 red:MV T
 fil:M4 T
 pos:MW T
 fnd:M3 T
structure Dw where
 fs:List Int
 k:Int
 fo:Int
 nb:Bool
 rb:Bool
 o1:OV
 o2:OV
structure xN(w:Dw):Prop where
 hf:∀x∈w.fs,eO x
 ln9:w.fs.length<=5
 hk:w.k=0\/w.k=1
 hfo:eO w.fo
protected def Dw.w (w:Dw):W:=⟨w.o1,w.o2,w.fo,.int w.fs.length,.str (cW w.k),.lst (w.fs.map .int),.lst (w.fs.map (cP w.k)),eC w.nb w.fs.length,.bool w.rb,tY w.fs w.k w.nb w.rb,cb "f" (gY w.fo),.lst (w.fs.map (dC w.fo)),dB (yZ w.fs w.k w.nb w.rb)⟩
theorem Bh:∀(l:List Int) a,∃m,rO a (l.map .int)=some m:=by
 intro l;induction l with
 |nil=>intro a;exact⟨a,rfl⟩
 |cons x l ih=>intro a;exact ih _
noncomputable abbrev RS(ns:List Int):S:=⟨[],[("script",.v (.lst (ns.map .int)))],none,some 0⟩
theorem N1(fs)(k)(nb rb):nV fs k nb rb=.v (dB (yZ fs k nb rb))\/∃l,nV fs k nb rb=.ol l/\dB (yZ fs k nb rb)=.lst l:=by
 rw[N2];unfold nV uK;obtain _|_:=nb<;>obtain _|_:=rb
 ·by_cases h:k=0
  ·exact .inl (by dsimp only;rw[aA h,aA h])
  ·exact .inr (cf _ (au h) (au h))
 all_goals exact .inl rfl
theorem JB{T:cK}(H:rV T)(o1 o2:OV)(g0:dx):∃(w:Dw) (h:dx) (bB:OV),xN w/\∀r,yL T 0 (eU.drop 20) (Ma w.w h.o bB (w.fs.map .int++w.fs.map .int) 1357 [])=r->yL T 0 (eU.drop 3) (B3 o1 o2 g0.o (.oi dD jb))=r:=by
 refine dR (XG T 0 o1 o2 (.oi dD jb) H.pick g0) λfo g1 f0 f1 e3=>?_;refine dR (XF T 0 o1 o2 (.oi dD jb) H.pick g1 (.v (.int fo))) λma g2 m0 m1 e4=>?_;obtain⟨mm,rfl⟩:∃mm:Nat,ma=(mm:Int):=⟨ma.toNat,by lia⟩
 refine dR (XE T 0 o1 o2 (.oi dD jb) H.pick g2 (.v (.int fo)) (.v (.int mm))) λk g3 k0 k1 e5=>?_;refine dR (XD 0 o1 o2 (.oi dD jb) H.pick g3 (.v (.int fo)) (.v (.str (cW k))) mm (by lia)) λfs g4 cI hf e6=>?_
 have l5:fs.length<=5:=by lia
 subst cI;have hk:k=0\/k=1:=by lia
 have hfo:eO fo:=⟨f0,f1⟩
 refine iA (XB T 0 o1 o2 (.oi dD jb) H.pick g4 (.v (.int fo)) (.v (.str (cW k))) (.v (.lst (fs.map .int))) (.v (.lst (fs.map (cP k)))) fs.length) λnb g5 e8=>?_;refine iA (XA T 0 o1 o2 (.oi dD jb) H.pick g5 (.v (.int fo)) (.v (.int fs.length)) (.v (.str (cW k))) (.v (.lst (fs.map .int))) (.v (.lst (fs.map (cP k)))) (lr nb fs.length)) λrb g6 e9=>?_;have Zg:=TH T 0 o1 o2 g6.o (.oi dD jb) (.v (.int fo)) (.v (.int fs.length)) (.v (.lst (fs.map .int))) (lr nb fs.length) (cW k) rb (fs.map (cP k)) (by rw[ah];exact l5)
 have h2:=H.sim (fs.map (pr fo)) (yZ fs k nb rb) (some (fs.map .int++fs.map .int)) (wb hfo hf l5) (by rw[ah];exact zV l5 hk nb rb)
 rw[KP]at h2;have Zf:=Tt (T:=T) (w:=Dw.w ⟨fs,k,fo,nb,rb,o1,o2⟩) 0 g6.o (.v (bV "list" (fs.map (dC fo)) (ud nb fs.length))) l5 rfl (H.sap fs k fo nb rb (fs.map .int) hf l5 hk hfo (by rw[ah];lia)) h2 (nV fs k nb rb) (N1 fs k nb rb)
 refine(D0 ⟨fs,k,fo,nb,rb,o1,o2⟩ g6 (.v (bV "list" (fs.map (dC fo)) (ud nb fs.length))) ⟨hf,l5,hk,hfo⟩ (λr hr=>?_));rw[show eU.drop 3=sT 3::sT 4::sT 5::sT 6::sT 7::sT 8::sT 9::sT 10::sT 11::sT 12::sT 13::sT 14::sT 15::sT 16::sT 17::sT 18::sT 19::eU.drop 20 by kernel_rfl]
 exact bG e3 (bG e4 (bG e5 (bG e6 (bG (XC T 0 o1 o2 g4.o (.oi dD jb) (.v (.int fo)) (.v (.int fs.length)) fs hf l5 hk) (bG e8 (bG e9 (bG Zg (bG (TG T 0 o1 o2 g6.o (.oi dD jb) (.v (.int fo)) (.v (.int fs.length)) (.v (.str (cW k))) (.v (.lst (fs.map .int))) (.v (.lst (fs.map (cP k)))) (.v (.bool rb)) (iq rb (cW k)) (gQ rb (cW k) (fs.map (cP k))) nb fs.length l5) (bG (TF T 0 o1 o2 g6.o (.oi dD jb) (.v (.int fo)) (.v (.int fs.length)) (.v (.str (cW k))) (.v (.lst (fs.map .int))) (.v (.lst (fs.map (cP k)))) (.v (eC nb fs.length)) (.v (.bool rb)) (eR (iq rb (cW k)) (gQ rb (cW k) (fs.map (cP k))) (Ia nb fs.length))) (bG (TC T 0 o1 o2 g6.o (.oi dD jb) fo (.v (.int fs.length)) (.v (.str (cW k))) (.v (.lst (fs.map .int))) (.v (.lst (fs.map (cP k)))) (.v (eC nb fs.length)) (.v (.bool rb)) (eR (iq rb (cW k)) (gQ rb (cW k) (fs.map (cP k))) (Ia nb fs.length))) (bG (Tz T 0 o1 o2 g6.o (.oi dD jb) fo (.v (.int fs.length)) (.v (.str (cW k))) (.v (.lst (fs.map .int))) (.v (.lst (fs.map (cP k)))) (.v (eC nb fs.length)) (.v (.bool rb)) (eR (iq rb (cW k)) (gQ rb (cW k) (fs.map (cP k))) (Ia nb fs.length))) (bG (Tx 0 o1 o2 g6.o (.oi dD jb) H.val hfo (.v (.int fs.length)) (.v (.str (cW k))) (.v (.lst (fs.map (cP k)))) (.v (eC nb fs.length)) (.v (.bool rb)) (eR (iq rb (cW k)) (gQ rb (cW k) (fs.map (cP k))) (Ia nb fs.length)) (mH "f" (gY fo)) fs hf l5 []) (bG (Tw 0 o1 o2 g6.o H.lap fs k fo nb rb hf l5 hk hfo (.v (.int fs.length)) (.v (.str (cW k))) (.v (.lst (fs.map .int))) (.v (.lst (fs.map (cP k)))) (.v (eC nb fs.length)) (.v (.bool rb)) (.lst (fs.map (dC fo)))) (bG (Tv 0 o1 o2 g6.o (.v cu) H.same fs fo nb hf l5 hfo (.v (.int fs.length)) (.v (.str (cW k))) (.v (.lst (fs.map (cP k)))) (.v (.bool rb)) (.v (tY fs k nb rb)) (.v (cb "f" (gY fo)))) (bG (Tu T 0 o1 o2 g6.o (.v cu) fs l5 k hk nb rb fo (.v (.int fs.length)) (.v (.lst (fs.map .int))) (.v (tY fs k nb rb)) (.v (cb "f" (gY fo))) (.v (.lst (fs.map (dC fo)))) (.v (bV "list" (fs.map (dC fo)) (ud nb fs.length))) (fs.map .int)) (bG Zf hr))))))))))))))))
theorem OF{T:cK}(H:rV T)(ns):∃(w:Dw) (h:dx) (bB:OV),xN w/\∀r,yL T 0 (eU.drop 20) (Ma w.w h.o bB (w.fs.map .int++w.fs.map .int) 1357 [])=r->yL T 0 eU (RS ns)=r:=by
 refine cF (Bh (ns.take 63) 0) λm hm=>cF (XI T 10 (ns.map .int) _ hm) λh3 e1=>?_
 have e0:=XJ T 10 (ns.map .int)
 rw[<-List.map_take]at e0;refine D4 (JB H (.v (.lst (ns.map .int))) (.v (.lst ((ns.take 63).map .int))) ⟨ns.take 63,0,0,h3,bb _,Int.le_refl _⟩) λw h bB ok q=>(D0 w h bB ok (λr hr=>?_))
 rw[show eU=sT 0::sT 1::sT 2::eU.drop 3 by kernel_rfl]
 exact bG e0 (bG e1 (bG (XH T 0 (.v (.lst (ns.map .int))) (.v (.lst ((ns.take 63).map .int))) (cT ((ns.take 63).map .int) 0 0 h3)) (q r hr)))
theorem Zj(w)(hd bB)(ss)(mo)(d)(tl):mA w hd bB ss mo d tl [] 1357=gn w hd bB ss mo d tl:=by
 unfold mA;rw[aU]
theorem Yp(w)(hd bB)(ss)(mo)(d)(tl)(r)(b)(tm):rL w hd bB ss mo d tl r b tm []=pH w hd bB ss mo d tl r b tm:=by
 unfold rL;rw[aU]
theorem OE{T:cK}(H:rV T){w:Dw}(W:xN w)(h:dx)(bB):∃(h':dx) (jC:AV) (ss:LA) (mo:Nat) (d:AV) (tl:LO),ss.length<=50/\d6 tl/\∀r,yL T 0 (eU.drop 25) (mA w.w h'.o (.v jC) ss mo d tl [] 1357)=r->yL T 0 (eU.drop 20) (Ma w.w h.o bB (w.fs.map .int++w.fs.map .int) 1357 [])=r:=by
 refine cC (Tr 0 w.w bB (w.fs.map .int++w.fs.map .int) H.pick h) λmo h' gV Ze=>?_;have ps:=wb W.hfo W.hf W.ln9;refine bW (Tp (T:=T) 0 (w:=w.w) h'.o bB (w.fs.map .int++w.fs.map .int) gV ps.shp ps.ln9 (by rw[ah];rfl) (by rw[KP];rfl)) λtl ht Zd=>bW (H.vap w.fs w.k w.fo w.nb w.rb mo (w.fs.map .int++w.fs.map .int) W.hf W.ln9 W.hk W.hfo gV (by rw[aw,ah];have:=W.ln9;lia)) λc hc hv=>?_
 have ey:∀r ss d,xL T 0 _ _=.ok .next _->xL T 0 _ (gn w.w h'.o (.v r) ss mo d tl)=.ok .next _->∀r',yL T 0 _ (mA w.w h'.o (.v r) ss mo d tl [] 1357)=r'->yL T 0 (eU.drop 20) _=r':=λr ss d Lx Lw r' hr=>by
  rw[show eU.drop 20=sT 20::sT 21::sT 22::sT 23::sT 24::eU.drop 25 by kernel_rfl]
  refine bG Ze (bG (Tq T 0 w.w h'.o bB (w.fs.map .int++w.fs.map .int) (.v (pv (dN mo)))) (bG Zd (bG Lx (bG Lw ?_))));rw[<-hr,Zj]
 unfold zO at hc;generalize e:fV mo 0 _=zz;induction zz using i7 with
 |some m=>
  rw[e]at hc;refine bW hc ?_;rintro eG l rfl;have Lx:=LZ 0 (w:=w.w) h'.o (bB:=bB) (d:=rS (fV mo 0 (w.fs.map (pr w.fo)))) ht hv;refine⟨h',.str m,eG,mo,.str m,tl,l,ht,ey _ _ _ ?_ (Og T 0 w.w h'.o eG mo ht m)⟩;rw[Lx,e];rfl
 |none=>
  rw[e]at hc;refine bW hc ?_;rintro eG l rfl;have Lx:=LZ 0 (w:=w.w) h'.o (bB:=bB) (d:=rS (fV mo 0 (w.fs.map (pr w.fo)))) ht hv;refine⟨h',Dy mo _ _,eG,mo,.str "",tl,l,ht,ey _ _ _ (by rw[Lx,e];rfl) ?_⟩
  generalize Ln:w.fs=zz;induction zz using eZ with
  |nil=>exact Oe T 0 w.w h'.o eG mo ht gV (by show AV.int _=_;rw[Ln];rfl)
  |cons x l'=>
   have sm:=H.sim _ _ (some eG) ps (by rw[ah];exact zV W.ln9 W.hk w.nb w.rb)
   rw[KP]at sm;rw[Ln]at sm;exact Of 0 h'.o ht (by show AV.int _=_;rw[Ln];rfl) (by have:=W.ln9;rw[Ln,aM]at this;lia) (Bo _ _) (by
    show T 1405 [.v _,.v (.lst _),.v (dB _)] _=_
    rw[Ln];exact sm)
theorem OD{T:cK}(H:rV T){w:Dw}(W:xN w)(h:dx)(bB:OV)(ss:LA)(mo:Nat)(d:AV)(ht:d6 tl):∃(h':dx) (jC:AV) (d':AV) (b:Bool) (r:Nat) (tm:LO),r<=4/\zd tm/\∀Di,yL T 0 (eU.drop 32) (rL w.w h'.o (.v jC) ss mo d' tl r b tm [])=Di->yL T 0 (eU.drop 25) (mA w.w h.o bB ss mo d tl [] 1357)=Di:=by
 refine cC (To 0 w.w bB ss mo d H.pick ht h) λr h1 hr Zc=>?_;refine iA (Tl 0 w.w bB ss mo d H.pick ht hr h1) λb h2 Zb=>?_;have zF:=H.map w.fs w.k w.nb w.rb b r (some ss) W.hf W.ln9 W.hk hr;have go:∀(jC d':AV) (tm:LO),T 1412 [.v (.ad 1006),.v cu,.v (.lst [.tup [.none,cb "j" gr],.tup [.none,oH b r],.tup [.none,w.w.v]])] (some ss)=.ok jC (.v .none) (some ss)->xL T 0 (sT 31) (pH w.w h2.o (.v jC) ss mo d tl r b [])=.ok .next (pH w.w h2.o (.v jC) ss mo d' tl r b tm)->∀Di,yL T 0 (eU.drop 32) (rL w.w h2.o (.v jC) ss mo d' tl r b tm [])=Di->yL T 0 (eU.drop 25) (mA w.w h.o bB ss mo d tl [] 1357)=Di:=λjC d' tm RH Ds Di UD=>by
  have RH:=Ti (T:=T) 0 (w:=w.w) (bB:=bB) h2.o (eG:=ss) (mo:=mo) (d:=d) ht RH
  rw[show eU.drop 25=sT 25::sT 26::sT 27::([sT 28,sT 29]++(sT 30::sT 31::eU.drop 32)) by kernel_rfl]
  refine bG Zc (bG (Tn T 0 w.w h1.o bB ss mo d ht r) (bG Zb (ew (Tj T 0 w.w h2.o bB ss mo d ht (.v (.lst (eH r))) (eR "character" (eH r) (KQ b r))) (bG RH (bG Ds ?_)))));rw[<-UD,Yp]
 unfold DG at zF;generalize hb:qx r w.fs.length=zz;induction zz using i8 with
 |true=>
  rw[hb]at zF;exact⟨h2,.str lW,d,b,r,[],hr,.inl rfl,go _ _ _ zF (Od T 0 w.w h2.o ss mo d ht b hr W.ln9 hb rfl)⟩
 |false=>
  rw[hb]at zF;have mx:Nat.max r w.fs.length<=5:=by have:=W.ln9;show max _ _<=5;lia
  have okN:mI (rQ b r (Nat.max r w.fs.length)):=by
   unfold rQ;cases Nat.beq r (Nat.max r w.fs.length)with
   |false=>rfl
   |true=>exact je ((show∀b,∀r∈n5,(nj b r).all kW=true from λb=>by obtain _|_:=b<;>exact cg _) b r (hB hr))
  have sm:=H.same.list (l8 (oX w.k w.fs r) (Nat.max r w.fs.length)) (λp hp=>by refine bW (List.mem_map.mp hp) ?_;rintro i _ rfl;rfl) (by unfold l8;rw[ah,aY];exact mx) _ okN (some ss)
  exact⟨h2,_,_,b,r,[("count",.v (.int (Nat.max r w.fs.length))),("tops",.v (.lst (nj b r)))],hr,.inr ⟨_,_,rfl⟩,go _ _ _ zF (Th (T:=T) 0 (w:=w.w) h2.o ss mo d ht W.hk W.hf W.ln9 hr hb rfl rfl (H.nms "character" (eH r) (Qx b r) (some ss)) sm)⟩
theorem Sp(h:d6 tl):∃x a,tl=Wj x a:=by
 obtain rfl|⟨a,rfl⟩:=h
 ·exact(iY false .none rfl)
 ·exact(iY true a rfl)
theorem So(h:zd tm):∃x a b,tm=Wi x a b:=by
 obtain rfl|⟨a,b,rfl⟩:=h
 ·exact(rX false .none .none rfl)
 ·exact(rX true a b rfl)
theorem Sn(h:DW to):∃x a,to=Wg x a:=by
 obtain rfl|⟨a,rfl⟩:=h
 ·exact(iY false .none rfl)
 ·exact(iY true a rfl)
theorem Yo(w:W)(hd bB:OV)(ss:LA)(mo:Nat)(d:OV)(tl:LO)(r:Nat)(b:Bool)(tm:LO)(right bH bS:Bool)(aa wl:OV)(to:LO)(dl:Nat):Dd w hd bB ss mo d tl r b tm right bH bS aa wl to [] dl=K5 w hd bB ss mo d tl r b tm right bH bS (("args",aa)::("walked",wl)::to) dl:=by
 unfold Dd QW;rw[aU]
theorem Jr(bH right){r:Nat}(hr:r<=4):(mD r bH right).all kW=true:=by
 have:=wG bH right r (hB hr)
 rw[List.all_eq_true]at this⊢;intro a ha;have:=this a ha;obtain _|_:=a<;>first|rfl|exact dT this
theorem OB{T:cK}(H:rV T){w:Dw}(W:xN w)(v)(hv:v.w=w.w)(hs:v.ss.length<=50)(h:dx)(bB aa):∃s,yL T 0 (eU.drop 43) (ug v h.o bB [] aa 1389)=.ok (.ret (.bool true)) s/\s.dl.isSome=true:=by
 refine dR (S8 0 v bB aa H.pick h) λl h1 l0 l1 Y8=>?_;have Y7:=S6 T 0 v h1.o bB aa (AI l0 l1) (mH "p" (gF l)) W.hf W.ln9 (by rw[hv];rfl) (by rw[hv];rfl)
 have Y6:=SZ 0 v h1.o bB aa (gd:=.v (.lst ((lS l w.fs).map dg))) (by rw[hv];exact H.fil w.fs w.k w.nb w.rb l v.ss W.hf W.ln9 W.hk l0 l1 hs)
 have Mp:=aq (uR l w.fs) W.ln9
 have xp:=SY 0 v h1.o aa (xs:=j6 (xi w.fs w.k w.rb) _) (by rw[hv];rfl) (by rw[hv,zZ];rfl) (λL e=>by
  refine fS w.nb (λhb=>by rw[hb]at e;exact c8 e) λhb=>?_
  rw[hb]at e;obtain rfl:=oI e;exact AH _) l _ (λL e i hi=>by rw[(z0 w.nb W.ln9 L e).1];exact so l w.fs i hi) Mp (ah ..) (H.nms _ _ _ _)
 have Y5:=SX T 0 v h1.o aa (K:=iq w.rb (cW w.k)) (a:=gM ((HW w.nb w.fs.length).map λL=>j6 L (lS l w.fs))) W.hk W.ln9 (by rw[hv];rfl) (by rw[hv];rfl) l (so l w.fs) Mp
 refine dR (SW 0 v (.v (qE w.fs w.k w.nb w.rb l)) aa H.pick h1 l (lS l w.fs)) λe h2 e0 e1 Y4=>?_;have he:e=0\/e=1:=by lia
 have W4:=SU T 0 v h2.o (.v (qE w.fs w.k w.nb w.rb l)) aa l (lS l w.fs) e
 rw[hv]at W4;have go:∀{s},yL T 0 [sT 54,sT 55,sT 56] _=.ok _ s->yL T 0 _ _=.ok (.ret (.bool true)) s:=λq=>bG Y8 (ew (S7 T 0 v h1.o bB aa l) (bG Y7 (bG Y6 (bG xp (bG Y5 (bG Y4 (bG W4 (ew (SS (T:=T) 0 v h2.o (.v (qE w.fs w.k w.nb w.rb l)) l (lS l w.fs) e (g9 l w.w.v e) (H.pos w.fs w.k l e w.nb w.rb (some v.ss) W.hf W.ln9 W.hk l0 l1 he) (H.fnd w.fs w.k l e w.nb w.rb (some v.ss) W.hf W.ln9 W.hk l0 l1 he)) q))))))))
 generalize hg:nq e (lS l w.fs)=zz;induction zz using i7 with
 |none=>
  have g0:=by
   unfold nq at hg
   split at hg
   ·exact List.reverse_eq_nil_iff.mp (List.head?_eq_none_iff.mp hg)
   ·exact List.head?_eq_none_iff.mp hg
  refine(cf (hW v h2.o (.v (qE w.fs w.k w.nb w.rb l)) l [] e [("place",.v (qD none)),("thing",.v kg)] (.v (.lst (g9 l w.w.v e)))) (go ?_) rfl);rw[hg,g0];exact dj (N9 T 0 v h2.o _ _ l e)
 |some j=>
  have Ru:=wF hg
  have jl:=so l w.fs j Ru
  have hj:(w.fs.map (cP w.k))[j]? =some (cP w.k w.fs[j]):=by rw[bc,az jl];rfl
  have hy:ID (w.fs.map (gT w.k)) (some j)=bV (cW w.k) [cP w.k w.fs[j]] .none:=by
   show((w.fs.map (gT w.k))[j]?).getD .none=_
   rw[bc,az jl];rfl
  have ai:kW (cP w.k w.fs[j])=true:=by obtain q|q:=W.hk<;>(rw[q];rfl)
  have Y3:bL (ev (bC eT T) (0+20)) lX (sT 54) (hW v h2.o (.v (qE w.fs w.k w.nb w.rb l)) l (lS l w.fs) e [("place",.v (qD (some j))),("thing",.v (bV (cW w.k) [cP w.k w.fs[j]] .none))] (.v (.lst (g9 l w.w.v e))))=.ok .next (hW v h2.o (.v (qE w.fs w.k w.nb w.rb l)) l (lS l w.fs) e [("place",.v (qD (some j))),("thing",.v (bV (cW w.k) [cP w.k w.fs[j]] .none))] (.v (.lst (g9 l w.w.v e)))):=by
   generalize YD:lS l w.fs=zz;induction zz using eZ with
   |nil=>rw[YD]at Ru;cases Ru
   |cons g gs=>exact SR T 0 v h2.o _ _ l e g gs _ _
  have E:=Kc T v h2.o (.v (qE w.fs w.k w.nb w.rb l)) (.v (.lst (g9 l w.w.v e))) l e (lS l w.fs) (cW w.k) (cP w.k w.fs[j]) j
  have Gv:v.w.it=.lst (w.fs.map (cP w.k)):=by rw[hv];rfl
  rw[Gv]at E;refine(cf _ (go ?_) E.dl);rw[hg,hy];exact bG Y3 (bG (SQ T 0 v h2.o (.v (qE w.fs w.k w.nb w.rb l)) (.v (.lst (g9 l w.w.v e))) l he (lS l w.fs) (qD (some j)) (bV (cW w.k) [cP w.k w.fs[j]] .none) hg) (dj (SP 0 E hj ai)))
theorem OC{T:cK}(H:rV T){w:Dw}(W:xN w)(h:dx)(bB)(ss)(hs:ss.length<=50)(mo)(d)(ht:d6 tl)(hm:zd tm){r:Nat}(hr:r<=4)(b):∃s,yL T 0 (eU.drop 32) (rL w.w h.o bB ss mo d tl r b tm [])=.ok (.ret (.bool true)) s/\s.dl.isSome=true:=by
 refine iA (Tg 0 w.w bB ss mo d H.pick ht hm r b h) λright h1 Za=>iA (Tf 0 w.w bB ss mo d H.pick ht hm r b (.v (.bool right)) h1) λbH h2 Y'=>iA (Te 0 w.w bB ss mo d H.pick ht hm r b (.v (.bool right)) (.v (.bool bH)) h2) λbS h3 Y9=>?_
 have to:=EG (ux r bH right)
 have W5:=Ta 0 w.w h3.o bB ss mo ht hm to (.ol (mD r bH right)) (.v (.lst (ux r bH right))) (H.red b r bH right bS _ hr)
 refine iA (Sp ht) ?_;rintro q1 pa rfl;refine D5 (So hm) ?_;rintro q2 pb pc rfl;refine iA (Sn to) λq3 pe eo=>bW (OB H W ⟨w.w,ss,mo,.lst (mD r bH right),r,b,right,bH,bS,.none,.lst (ux r bH right),(q1,q2,q3),pa,pb,pc,pe⟩ rfl hs h3 (.v (xy right bS (mD r bH right))) (.v (.lst (iP (oH b r) bH right bS)))) λs q ds=>(cf s ?_ ds)
 rw[show eU.drop 32=sT 32::sT 33::sT 34::([sT 35,sT 36]++([sT 37,sT 38,sT 39,sT 40]++(sT 41::sT 42::eU.drop 43))) by kernel_rfl]
 rw[Yo]at W5;refine bG Za (bG Y' (bG Y9 (ew (Td T 0 w.w h3.o bB ss mo d ht hm r b right bH bS) (ew (Tc T 0 w.w h3.o bB ss mo d ht hm b right bH bS (.ol (iP (oH b r) bH right bS)) r (hB hr)) (bG W5 (bG (S9 T 0 w.w h3.o ss mo ht hm to r b right bH bS (.v (.lst (iP (oH b r) bH right bS))) (.v (.lst (ux r bH right))) _ (Jr bH right hr)) ?_))))));rw[eo];exact q
theorem Ur{T:cK}(H:rV T)(ns):∃s,yL T 0 eU (RS ns)=.ok (.ret (.bool true)) s/\s.dl.isSome=true:=D4 (OF H ns) λw h bB W q1=>IV (OE H W h bB) λh' jC ss mo d tl hs ht q2=>IV (OD H W h' _ ss mo d ht) λh2 Xb d2 b r tm hr hm q3=>bW (OC H W h2 _ ss hs mo d2 ht hm hr b) λs q4 ds=>(cf s (q1 _ (q2 _ (q3 _ q4))) ds)
def Ly(T:cK)(D:Nat):Prop:=∀a,∃O n D',fR O (D'+1)/\D'+2*n+1<=D/\∀os ss,T a os ss=cA O n a os ss
theorem Ly.orc{T:cK}(h:Ly T D)(l):fR (bC l T) D:=ED h l
theorem dS{n:Nat}(h:fR O (D+1)):Ly (cA O n) (D+2*n+1):=λa=>(mK O n D h (aC _) (λY Y=>rfl))
theorem Ly.mono{T:cK}(h:Ly T D)(le:D<=D'):Ly T D':=λa=>by
 refine jM (h a) λO n E h1 h2 h3=>(mK O n E h1 (aq h2 le) h3)
theorem Ly.at{T1 T2:cK}(c:Addr)(h1:Ly T1 D)(h2:Ly T2 D):Ly (λa os ss=>match Nat.beq a c with|true=>T1 a os ss|false=>T2 a os ss) D:=λa=>by
 generalize e:Nat.beq a c=zz;induction zz using i8 with
 |true=>
  refine jM (h1 a) λO n D' h l q=>⟨O,n,D',h,l,λos ss=>by
   show(match Nat.beq a c with|true=>T1 a os ss|false=>T2 a os ss)=_
   rw[e];exact q os ss⟩
 |false=>
  refine jM (h2 a) λO n D' h l q=>⟨O,n,D',h,l,λos ss=>by
   show(match Nat.beq a c with|true=>T1 a os ss|false=>T2 a os ss)=_
   rw[e];exact q os ss⟩
theorem mF:Ly TA 41:=dS lq
theorem Ui:Ly TB 91:=dS (mF.orc oU)
theorem DI:Ly TV 117:=dS (Ui.orc [1309])
theorem Ab:Ly GI 143:=.at 575 (dS (DI.orc [1346])) (mF.mono (by decide))
theorem G7:Ly QY 83:=.at 928 (dS (mF.orc k5)) (mF.mono (by decide))
theorem Ue:Ly TS 123:=dS (G7.orc y0)
theorem Ug:Ly TP 143:=.at 954 (Ue.mono (by decide)) Ab
theorem OM:Ly GF 117:=.at 1346 DI (mF.mono (by decide))
theorem OL:Ly K4 117:=.at 1346 DI (mF.mono (by decide))
theorem OS:Ly Ie 159:=.at 992 (dS (OL.orc kR)) (mF.mono (by decide))
theorem ON:Ly Ib 91:=.at 1013 (dS lq) (.at 532 ((dS (D:=0) lq).mono (by decide)) (G7.mono (by decide)))
theorem OR:Ly RQ 143:=.at 575 Ab (mF.mono (by decide))
theorem OQ:Ly QZ 205:=.at 1027 (dS (OR.orc ua)) (.at 544 ((dS (D:=0) lq).mono (by decide)) (mF.mono (by decide)))
theorem OP:Ly RP 117:=.at 532 ((dS (D:=0) lq).mono (by decide)) (.at 1346 DI (mF.mono (by decide)))
theorem G8:Ly GH 179:=dS (OP.orc lT)
def Ic:cK:=λa os ss=>match Nat.beq a 980 with|true=>cA (bC jz GF) 40 a os ss|false=>cA (bC uu Ie) 40 a os ss
theorem OO:Ly Ic 239:=.at 980 ((dS (OM.orc jz)).mono (by decide)) (dS (OS.orc uu))
def TL:cK:=λa os ss=>match Nat.beq a 961 with|true=>cA (bC oS GI) 40 a os ss|false=>(match Nat.beq a 968 with|true=>cA (bC vU TP) 40 a os ss|false=>(match Nat.beq a 1405 with|true=>cA (bC gz TA) 20 a os ss|false=>(match Nat.beq a 1412 with|true=>cA (bC y3 Ic) 13 a os ss|false=>(match Nat.beq a 1020 with|true=>cA (bC jA Ib) 40 a os ss|false=>(match Nat.beq a 1032 with|true=>cA (bC rF QZ) 31 a os ss|false=>(match Nat.beq a 1046 with|true=>cA (bC [1039] GH) 31 a os ss|false=>(match Nat.beq a 1053 with|true=>cA (bC [1039] GH) 31 a os ss|false=>TA a os ss)))))))
theorem Uh:Ly TL 298:=.at 961 ((dS (Ab.orc oS)).mono (by decide)) (.at 968 ((dS (Ug.orc vU)).mono (by decide)) (.at 1405 ((dS (mF.orc gz)).mono (by decide)) (.at 1412 ((dS (OO.orc y3)).mono (by decide)) (.at 1020 ((dS (ON.orc jA)).mono (by decide)) (.at 1032 ((dS (OQ.orc rF)).mono (by decide)) (.at 1046 ((dS (G8.orc [1039])).mono (by decide)) (.at 1053 ((dS (G8.orc [1039])).mono (by decide)) (mF.mono (by decide)))))))))
theorem OI(K)(xs)(N)(ss):TA 1395 [.v (bV K xs (gM N))] ss=.ok (dB N) (.v .none) ss:=by obtain _|_:=N<;>kernel_rfl
theorem K'{a:Addr}(h:eQ [961,968,1405,1412,1020,1032,1046,1053] a=false)(os)(ss):TL a os ss=TA a os ss:=by
 have q:∀l y,eQ (y::l) a=false->Nat.beq y a=false/\eQ l a=false:=λl y h=>by
  have h:(match Nat.beq y a with|true=>true|false=>eQ l a)=false:=h
  refine fS (Nat.beq y a) (λe=>?_) (λe=>by rw[e]at h;exact tZ h)
  rw[e]at h;exact⟨rfl,h⟩
 have c:∀y,Nat.beq y a=false->Nat.beq a y=false:=λy e=>by
  refine fS (Nat.beq a y) (λz=>rfl) λz=>?_
  rw[bo z,Nat.beq_refl]at e;exact tZ e
 refine cH (q _ _ h) λh1 h=>cH (q _ _ h) λh2 h=>cH (q _ _ h) λh3 h=>cH (q _ _ h) λh4 h=>cH (q _ _ h) λh5 h=>cH (q _ _ h) λh6 h=>cH (q _ _ h) λh7 h=>cH (q _ _ h) λh8 h=>?_
 unfold TL;rw[c _ h1,c _ h2,c _ h3,c _ h4,c _ h5,c _ h6,c _ h7,c _ h8]
theorem NH:TL 961=cA (bC oS GI) 40 961:=rfl
theorem NG:TL 968=cA (bC vU TP) 40 968:=rfl
theorem I6:TL 1405=cA (bC gz TA) 20 1405:=rfl
theorem Ay:TL 1412=cA (bC y3 Ic) 13 1412:=rfl
theorem I':TL 1020=cA (bC jA Ib) 40 1020:=rfl
theorem I9:TL 1032=cA (bC rF QZ) 31 1032:=rfl
theorem I8:TL 1046=cA (bC [1039] GH) 31 1046:=rfl
theorem I7:TL 1053=cA (bC [1039] GH) 31 1053:=rfl
theorem I5:Ic 980=cA (bC jz GF) 40 980:=rfl
theorem Eb:Ic 1006=cA (bC uu Ie) 40 1006:=rfl
theorem Us:rV TL where
 pick:=λh l ss hl=>by rw[K' rfl];exact Oz h l ss hl
 val:=λfo x ss hf hx=>by rw[K' rfl];exact LJ fo x ss hf hx
 lap:=λfs k fo nb rb ss a b c d e=>by rw[NH];exact Ut fs k fo nb rb ss a b c d e
 sap:=λfs k fo nb rb ss a b c d e=>by rw[NG];exact SK fs k fo nb rb ss a b c d e
 sim:=λps N ss a b=>by rw[I6];exact SH zW ps N ss a b
 same:=⟨λps a b N c ss=>by rw[K' rfl];exact zW.list ps a b N c ss,λk a xs b N c ss=>by rw[K' rfl];exact zW.flat k a xs b N c ss⟩
 vap:=λfs k fo nb rb mo ss a b c d e f=>(cf _ (Sf fs k fo nb rb mo ss a b c d e f) (by rw[Ay,G9 Ic 0 _ _ (.inl rfl),I5]))
 map:=λfs k nb rb b r ss h1 h2 h3 h4=>by rw[Ay,G9 Ic 0 _ _ (.inr rfl),Eb,Ud fs k nb rb b r ss h1 h2 h3 h4]
 nms:=λK xs N ss=>by rw[K' rfl];exact OI K xs N ss
 red:=λb r x y z ss h=>by rw[I'];exact TI b r x y z ss h
 fil:=λfs k nb rb l ss a b c d e f=>by rw[I9];exact U1 fs k nb rb l ss a b c d e f
 pos:=λfs k l e nb rb ss a b c d f g=>by rw[I8];exact T6 fs k l e nb rb ss a b c d f g
 fnd:=λfs k l e nb rb ss a b c d f g=>by rw[I7];exact U0 fs k l e nb rb ss a b c d f g
theorem O1(n)(O)(ns):zx (ev O (n+1)) ns=(match bO (ev O n) lX eU (RS ns)with
  | .ok (.ret a) s=>(match s.dl with|some _=>.ok a (.v .none) s.ss|none=>.no)
  | .no=>.no
  |_=>.no):=by kernel_rfl
theorem xE:Nf:=λns Y=>by
 refine bW (Ur Us ns) λs e d=>⟨bC eT TL,21,297,.v .none,s.ss,Uh.orc eT,by decide,?_⟩
 rw[O1 20,show bO (ev _ 20) lX eU _=_ from e]
 refine eE s.dl (λq=>by rw[q]at d;exact dT d) λx q=>?_
 show(match s.dl with|some _=>C.ok _ _ s.ss|none=>.no)=_
 rw[q]
theorem holds:PySem.Challenge.rw_nz0548_01.Holds:=BM xE
end Mine
theorem PySem.Challenge.cw_nz0548_01_holds : PySem.Challenge.rw_nz0548_01.Holds :=
  Mine.holds
