import PyProof.Rows.All
import Wide.All
import OpenK.AllK
import Wide.FinOn
import PyProof.ExcInit
import PyProof.ExcArgs
import PyProof.ExcBaseAll.Exception
import PyProof.ExcClass3
import PyProof.DictTable
import PyProof.Rows.TupDisplay
import PyProof.CompFree
import KE.KSlice
import Lean
import PySem.Challenge.RW_up0021_01
set_option Elab.async false
set_option linter.all false
set_option maxRecDepth 1000000
set_option maxHeartbeats 0
set_option genInjectivity false
set_option genSizeOf false
set_option bootstrap.genMatcherCode false
set_option compiler.extract_closed false
namespace Z1
noncomputable section
open PySem PySem.W PyProof.Rows PySem.Calls
def YD{P:Prop}(h:∀G:Prop,(P->G)->G):P:=h P id
def cU{α β:Type _}{x:Option α}{f:α->Option β}{b:β}(h:x.bind f=some b):∃a,x=some a/\f a=some b:=Option.bind_eq_some_iff.mp h
def fp{α β:Type _}{x:Option α}{f:α->β}{b:β}(h:x.map f=some b):∃a,x=some a/\f a=b:=Option.map_eq_some_iff.mp h
def cf{a b:Nat}(h:Nat.beq a b=true):a=b:=Nat.eq_of_beq_eq_true h
def fu{a b:Nat}(h:Nat.ble a b=true):a<=b:=Nat.le_of_ble_eq_true h
def oD{α:Type _}{l:List α}{i:Nat}{a:α}(h:l[i]?=some a):∃h:i<l.length,l[i]=a:=List.getElem?_eq_some_iff.mp h
def vr{α:Type _}{l:List α}{i:Nat}(h:i<l.length):l[i]?=some l[i]:=List.getElem?_eq_getElem h
def bX:=@wpAny_bind
def bl:=@congrArg
def gK:=@List.append_assoc
def dF:=@wpAny_pure
def j0:=@List.mem_append_right
def sZ:=@List.perm_append_comm_assoc
def fG:=@Nat.le_refl
def vx:=@Fast.te14364793385576792824
def xA:=@Fast.te10110043849684766642
def nE:=@List.length_append
def dL:=@List.mem_cons
def cS:=@beq_iff_eq
def gq:=@List.length_cons
def fw:=@List.mem_map
def gE:=@List.length_map
def iJ:=@List.size_toArray
def gN:=@List.append_nil
def eM:=@Nat.zero_add
def jt:=@List.all_eq_true
def gM:=@Int.ofNat_le
def j5:=@List.mem_append_left
def fI:=@Prod.mk.inj
def dK:=@Nat.le_trans
def mC:=@List.Perm.append_left
def fv:=@Nat.zero_le
def fH:=@List.nodup_cons
def qI:=@List.getElem?_append_left
def j3:=@Nat.succ_le_succ
def j2:=@Nat.le_add_right
def j1:=@Option.some.inj
def mB:=@of_decide_eq_true
def jr:=@List.map_cons
def nI:=@Int.natCast_nonneg
def vC:=@List.getElem?_concat_length
def gJ:=@decide_eq_true
def pG:=@beq_eq_false_iff_ne
def s9:=@Heap.get?_push_of_some
def nH:=@wpAny_execs_cons
def pF:=@Int.toNat_of_nonneg
def jL:=@Nat.le_of_eq
def s8:=@Nat.ble_eq_true_of_le
def jZ:=@decide_eq_false
def s7:=@List.getElem?_cons_succ
def zt:=@List.getElem?_eq_none_iff
def vB:=@List.getElem?_toArray
def s5:=@Bool.and_eq_true
def mz:=@Nat.beq_refl
def my:=@Heap.lt_size
def lm:=@Nat.le_succ
def vA:=@List.mem_map_of_mem
def ll:=@Heap.dictOf_iff
def nG:=@List.perm_middle
def nF:=@Value.ref.inj
def vz:=@Nat.lt_of_lt_of_le
def sY:=@List.mem_append
def zs:=@Bool.false_eq_true
def sX:=@List.map_append
def zr:=@wpAny_loadPart_at
def Bt:=@decide_eq_false_iff_not
def vy:=@List.lookup_cons
def Bs:=@Heap.get?_update_other
def Br:=@List.contains_cons
def qH:=@sizeLine_eq
def Bq:=@Obj.isFreed_of_fields
def Bp:=@Array.getElem?_eq_some_iff
def zq:=@Nat.lt_irrefl
def qG:=@Nat.succ_pos
def zp:=@List.length_eq_zero_iff
def Bo:=@List.mem_of_getElem?
def Bm:=@List.filterMap_cons
def zo:=@List.nodup_append
@[elab_as_elim]theorem XI{α:Sort _}{a b:α}{P:α->Prop}(h:a=b)(k:P b):P a:=h.symm ▸ k
@[elab_as_elim]theorem XH{α:Sort _}{a b:α}{P:α->Prop}(h:a=b)(k:P a):P b:=h ▸ k
local macro_rules
 |`(tactic|rw[$r,*])=>match r.getElems[0]? with
  |none=>`(tactic|try with_reducible rfl)
  |some x=>`(tactic|((first|refine $(Lean.mkIdent (if x.raw[0].isNone then `XI else `XH)) ($(⟨x.raw[1]⟩) ..) ?_|rewrite[$x]);rw[$(⟨r.elemsAndSeps.extract 2 r.elemsAndSeps.size⟩),*]))
section
noncomputable abbrev pw:Program:=PySem.Challenge.pw_up0021_01
namespace Hd
abbrev N:Value:=.none
abbrev bT:Value:=.bool true
abbrev bF:Value:=.bool false
abbrev i(k:Int):Value:=.int k 0
noncomputable abbrev s(x:String)(t:Nat):Value:=.str (Str.ofString x) t
noncomputable abbrev y(x:String):Value:=.type x
abbrev b(x:String):Value:=.builtin x
abbrev r(a:Nat):Value:=.ref a
noncomputable abbrev e(P:Params)(x:String)(t:Nat)(v:Value):DictEntry:=⟨PyData.keyHash P (Str.ofString x),.str (Str.ofString x) t,v⟩
abbrev tu(n:Nat)(l:List Value):Obj:=⟨.type "tuple",none,.seq l.toArray n,#[]⟩
abbrev fl(l:List Value):Obj:=⟨.none,none,.fields l.toArray,#[]⟩
abbrev di(n:Nat)(l:List DictEntry):Obj:=⟨.type "dict",none,.dict l.toArray n,#[]⟩
abbrev co(l:List Value):Obj:=⟨.type "code",none,.fields l.toArray,#[]⟩
abbrev fo(f:FuncData):Obj:=⟨.type "function",none,.func f,#[]⟩
abbrev fk(f:FuncData):Obj:=⟨.none,none,.func f,#[]⟩
def nth(l:List Stmt)(k:Nat):Stmt:=(l.drop k).headD (.Pass ⟨0,0,0,0⟩)
def st(k:Nat):Stmt:=nth pw.main.body k
def mt(k j:Nat):Stmt:=match st k with
 | .ClassDef _ _ _ bd _ _ _ _ _ _ _=>nth bd j
 | x=>x
def C_:Stmt->Arguments
 | .FunctionDef _ a _ _ _ _ _ _ _ _=>a
 | _=>⟨[],[],none,[],[],none,[]⟩
def bodyOf:Stmt->List Stmt
 | .FunctionDef _ _ bd _ _ _ _ _ _ _=>bd
 | _=>[]
def n_:Stmt->Scope
 | .FunctionDef _ _ _ _ _ _ sc _ _ _=>sc
 | _=>pw.main.scope
def fP(f:Stmt)(name qual:String):FuncData:=
 {name:=Str.ofString name,qualname:=Str.ofString qual,params:=C_ f,body:=.stmts (bodyOf f),scope:=n_ f,globals:=0,closure:=[],defaults:=.none,kwdefaults:=.none}
def fR(f:Stmt)(name qual:String)(pm cd:Value):FuncData:=
 {name:=Str.ofString name,qualname:=Str.ofString qual,params:=C_ f,body:=.stmts (bodyOf f),scope:=n_ f,globals:=mainGlobals,closure:=[],defaults:=.none,kwdefaults:=.none,pyModule:=pm,code:=cd,builtins:=builtinsNs}
def grow:BT->Nat->List Obj->BT
 | t,_,[]=>t
 | t,n,o::l=>grow (t.ins n o) (n+1) l
def sets:BT->List (Nat×Obj)->BT
 | t,[]=>t
 | t,(a,o)::l=>sets (t.set a λ_=>o) l
def nm(l:List String):Nat->List Value:=List.rec (λ_=>[]) (λx _ g t=>s x t::g (t+1)) l
def J(l:List (List Obj)):List Obj:=List.rec [] (λx _ g=>x++g) l
def T3(l:List (Nat×Nat)):List Value:=List.rec [] (λx _ g=>i x.1::i 0::r x.2::g) l
def G(f:Stmt)(n q:String)(m:Value)(t ln ac a:Nat)(v:List String):List Obj:=[tu 0 [],fl [],tu 0 (nm v (t+3)),tu 0 [],fk (fP f n q),
 co [s n t,s q (t+1),s "/claim/cut.py" (t+2),i ln,i ac,i 0,i 0,i 3,r a,bT,i 181,r (a+1),N,r (a+2),r (a+3),r (a+4),i (t+3+v.length:Nat),i ln,s "/claim/cut.py" (t+4+v.length)],
 fo (fR f n q m (r (a+5)))]
def F(f:Stmt)(n:String)(m:Value)(t ln ac a:Nat)(v:List String):List Obj:=G f n n m t ln ac a v
def m0:Value:=s "__main__" 164
def m1:Value:=s "framerune.faults" 194
def m2:Value:=s "framerune.kinds" 299
def m3:Value:=s "framerune.store" 673
def m4:Value:=s "framerune.csnodes" 784
def m5:Value:=s "framerune.csbound" 839
def m6:Value:=s "framerune.sourcecore" 924
def m7:Value:=s "framerune.values" 1606
def m8:Value:=s "framerune.sourcebed" 1639
def m9:Value:=s "framerune.sourcebox" 1877
def m10:Value:=s "framerune.sourceops" 1910
def ZP:Value:=s "framerune.heap" 1980
def m12:Value:=s "framerune.places" 2082
def u_:Value:=s "framerune.mbase" 2117
def ZO:Value:=s "framerune.mmem" 2599
def m15:Value:=s "framerune.sourceexpr" 2683
def U_:Value:=s "law_up0021_01" 2711
def gd(a x:Nat):Obj:=⟨y "getset_descriptor",none,.fields ([s "__dict__" a,r x,b "function.__dict__",b "function.__dict__#set"]:List Value).toArray,#[]⟩
def gw(a x:Nat):Obj:=⟨y "getset_descriptor",none,.fields ([s "__weakref__" a,r x,b "ExceptionGroup.__weakref__",N]:List Value).toArray,#[]⟩
def su(x:Nat):Obj:=⟨y "super",none,.fields ([r x,r x,r x]:List Value).toArray,#[]⟩
def ib(x:Nat):Obj:=⟨y "builtin_function_or_method",none,.fields ([b "object.__init_subclass__",r x]:List Value).toArray,#[]⟩
def pp:Obj:=⟨y "builtin_function_or_method",none,.fields ([b "type.__prepare__",y "type"]:List Value).toArray,#[]⟩
def fr(a c:Nat)(m:Value):Obj:=⟨y "frame",none,.plain,([some (r a),some (r 3),some (r c),none,some m,none,some (r 0)]:List (Option Value)).toArray⟩
def ty(n:String)(x d:Nat)(l:List Value)(a c:Nat):Obj:=⟨y "type",none,.cls ⟨Str.ofString n,[y "object"],[r x,y "object"],d,Str.ofString n,true,[],l,false,none,false⟩,([none,none,some (s n a),some (s n c),some (b "object.__new__"),some bT]:List (Option Value)).toArray⟩
def cl(n:String)(t ln a:Nat):Obj:=co [s n t,s n (t+1),s "/claim/cut.py" (t+2),i ln,i 0,i 0,i 0,i 0,r a,bF,i 181,r (a+1),N,N,N,N,i (t+3:Nat),i ln,s "/claim/cut.py" (t+4)]
def tn(l:List String)(t:Nat):Obj:=tu 0 (nm l t)
def em(P:Params)(t:Nat)(m:Value):DictEntry:=e P "__module__" t m
def ei(P:Params)(x:String)(t k:Nat):DictEntry:=e P x t (Value.int k (t - 1))
def er(P:Params)(x:String)(t a:Nat):DictEntry:=e P x t (r a)
def eb(P:Params)(x:String)(t:Nat):DictEntry:=e P x t (b x)
def ey(P:Params)(x:String)(t:Nat):DictEntry:=e P x t (y x)
def eq(P:Params)(t:Nat)(x:String):DictEntry:=e P "__qualname__" t (s x (t - 1))
def el(P:Params)(t k:Nat):DictEntry:=ei P "__firstlineno__" t k
def ea(P:Params)(t a:Nat):DictEntry:=er P "__static_attributes__" t a
def ed(P:Params)(t a:Nat):DictEntry:=er P "__dict__" t a
def ew(P:Params)(t a:Nat):DictEntry:=er P "__weakref__" t a
def eI(P:Params)(t a:Nat):DictEntry:=er P "__init__" t a
def eN(P:Params)(t:Nat):DictEntry:=e P "__doc__" t N
def f4(l:List (Nat×Nat)):Obj:=fl (List.rec [] (λx _ g=>i x.1::i 4::r x.2::g) l)
def n0(P:Params):List Obj:=J [
 [di 159 [e P "__name__" 1 (s "builtins" 160),e P "__doc__" 2 (b "builtins.__doc__:str#opaque"),e P "__package__" 3 (b "builtins.__package__:str#opaque"),e P "__loader__" 4 (b "builtins.__loader__:shared#opaque"),e P "__spec__" 5 (b "builtins.__spec__#opaque"),eb P "__build_class__" 6,eb P "__import__" 7,eb P "abs" 8,eb P "all" 9,eb P "any" 10,eb P "ascii" 11,eb P "bin" 12,eb P "breakpoint" 13,eb P "callable" 14,eb P "chr" 15,eb P "compile" 16,eb P "delattr" 17,eb P "dir" 18,eb P "divmod" 19,eb P "eval" 20,eb P "exec" 21,eb P "format" 22,eb P "getattr" 23,eb P "globals" 24,eb P "hasattr" 25,eb P "hash" 26,eb P "hex" 27,eb P "id" 28,eb P "input" 29,eb P "isinstance" 30,eb P "issubclass" 31,eb P "iter" 32,eb P "aiter" 33,eb P "len" 34,eb P "locals" 35,eb P "max" 36,eb P "min" 37,eb P "next" 38,eb P "anext" 39,eb P "oct" 40,eb P "ord" 41,eb P "pow" 42,eb P "print" 43,eb P "repr" 44,eb P "round" 45,eb P "setattr" 46,eb P "sorted" 47,eb P "sum" 48,eb P "vars" 49,e P "None" 50 N,e P "Ellipsis" 51 Value.ellipsis,e P "NotImplemented" 52 Value.notImplemented,e P "False" 53 bF,e P "True" 54 bT,ey P "bool" 55,ey P "memoryview" 56,ey P "bytearray" 57,ey P "bytes" 58,ey P "classmethod" 59,ey P "complex" 60,ey P "dict" 61,ey P "enumerate" 62,ey P "filter" 63,ey P "float" 64,ey P "frozenset" 65,ey P "property" 66,ey P "int" 67,ey P "list" 68,ey P "map" 69,ey P "object" 70,ey P "range" 71,ey P "reversed" 72,ey P "set" 73,ey P "slice" 74,ey P "staticmethod" 75,ey P "str" 76,ey P "super" 77,ey P "tuple" 78,ey P "type" 79,ey P "zip" 80,e P "__debug__" 81 bT,ey P "BaseException" 82,ey P "BaseExceptionGroup" 83,ey P "Exception" 84,ey P "GeneratorExit" 85,ey P "KeyboardInterrupt" 86,ey P "SystemExit" 87,ey P "ArithmeticError" 88,ey P "AssertionError" 89,ey P "AttributeError" 90,ey P "BufferError" 91,ey P "EOFError" 92,ey P "ImportError" 93,ey P "LookupError" 94,ey P "MemoryError" 95,ey P "NameError" 96,ey P "OSError" 97,ey P "ReferenceError" 98,ey P "RuntimeError" 99,ey P "StopAsyncIteration" 100,ey P "StopIteration" 101,ey P "SyntaxError" 102,ey P "SystemError" 103,ey P "TypeError" 104,ey P "ValueError" 105,ey P "Warning" 106,ey P "FloatingPointError" 107,ey P "OverflowError" 108,ey P "ZeroDivisionError" 109,ey P "BytesWarning" 110,ey P "DeprecationWarning" 111,ey P "EncodingWarning" 112,ey P "FutureWarning" 113,ey P "ImportWarning" 114,ey P "PendingDeprecationWarning" 115,ey P "ResourceWarning" 116,ey P "RuntimeWarning" 117,ey P "SyntaxWarning" 118,ey P "UnicodeWarning" 119,ey P "UserWarning" 120,ey P "BlockingIOError" 121,ey P "ChildProcessError" 122,ey P "ConnectionError" 123,ey P "FileExistsError" 124,ey P "FileNotFoundError" 125,ey P "InterruptedError" 126,ey P "IsADirectoryError" 127,ey P "NotADirectoryError" 128,ey P "PermissionError" 129,ey P "ProcessLookupError" 130,ey P "TimeoutError" 131,ey P "IndentationError" 132,ey P "_IncompleteInputError" 133,ey P "IndexError" 134,ey P "KeyError" 135,ey P "ModuleNotFoundError" 136,ey P "NotImplementedError" 137,ey P "PythonFinalizationError" 138,ey P "RecursionError" 139,ey P "UnboundLocalError" 140,ey P "UnicodeError" 141,ey P "BrokenPipeError" 142,ey P "ConnectionAbortedError" 143,ey P "ConnectionRefusedError" 144,ey P "ConnectionResetError" 145,ey P "TabError" 146,ey P "UnicodeDecodeError" 147,ey P "UnicodeEncodeError" 148,ey P "UnicodeTranslateError" 149,ey P "ExceptionGroup" 150,e P "EnvironmentError" 151 (y "OSError"),e P "IOError" 152 (y "OSError"),eb P "open" 153,e P "quit" 154 (b "builtins.quit#opaque"),e P "exit" 155 (b "builtins.exit#opaque"),e P "copyright" 156 (b "builtins.copyright#opaque"),e P "credits" 157 (b "builtins.credits#opaque"),e P "license" 158 (b "builtins.license#opaque"),e P "help" 159 (b "builtins.help#opaque")],di 2 [er P "builtins" 162 4,er P "__main__" 163 5],⟨N,none,.dict ([]:List DictEntry).toArray 0,([]:List (Option Value)).toArray⟩,di 9 [e P "__name__" 165 (s "__main__" 164),eN P 166,e P "__package__" 167 N,e P "__loader__" 168 (b "__main__.__loader__#opaque"),e P "__spec__" 169 N,er P "__annotations__" 170 6,er P "__builtins__" 171 4,e P "__file__" 173 (s "/claim/cut.py" 172),e P "__cached__" 174 N],⟨y "module",some 0,.plain,([]:List (Option Value)).toArray⟩,⟨y "module",some 3,.plain,([]:List (Option Value)).toArray⟩,di 0 [],tu 0 [],fl [],co [(s "<module>" 176),(s "<module>" 177),(s "/claim/cut.py" 178),i 1,i 0,i 0,i 0,i 0,r 7,bF,i 175,r 8,N,N,N,N,i 179,i 1,(s "/claim/cut.py" 180)],fr 9 3 m0,tu 0 [],fl [],cl "<module>" 182 1 11,fr 13 3 m0]]
def n1(P:Params):List Obj:=J [
 F (st 0) "_wall" m0 187 1 1 15 ["k"],[tu 0 [y "Exception"],pp,di 5 [em P 211 m1,eq P 213 "RuneError",el P 215 9,eI P 224 35,ea P 227 36],tu 0 [],f4 [(11,34)],cl "RuneError" 206 9 25,fr 27 24 m1],G (mt 6 0) "__init__" "RuneError.__init__" m1 216 11 3 29 ["self","code","at"],[tn ["at","code"] 225,di 3 [em P 211 m1,el P 215 9,eI P 224 35,ea P 227 36,ew P 229 39,eN P 230],⟨y "type",none,.cls ⟨"RuneError",[y "Exception"],[r 38,y "Exception",y "BaseException",y "object"],37,"RuneError",true,[],[r 51,r 63,r 75,r 87],false,none,false⟩,([(some (r 22)),none,(some (s "RuneError" 204)),(some (s "RuneError" 212)),(some (b "Exception.__new__")),some bT]:List (Option Value)).toArray⟩,gw 228 38,su 38,ib 38,tu 0 [r 38],pp,di 4 [em P 242 m1,eq P 244 "BadKind",el P 246 14,ea P 247 49],tu 0 [],fl [],cl "BadKind" 237 14 45,fr 47 44 m1,tu 0 [],di 2 [em P 242 m1,el P 246 14,ea P 247 49,eN P 248],⟨y "type",none,.cls ⟨"BadKind",[r 38],[r 51,r 38,y "Exception",y "BaseException",y "object"],50,"BadKind",true,[],[],false,none,false⟩,([(some (r 42)),none,(some (s "BadKind" 235)),(some (s "BadKind" 243)),(some (b "Exception.__new__")),some bT]:List (Option Value)).toArray⟩,su 51,ib 51,tu 0 [r 38],pp,di 4 [em P 258 m1,eq P 260 "LoadFault",el P 262 16,ea P 263 61],tu 0 [],fl [],cl "LoadFault" 253 16 57,fr 59 56 m1,tu 0 [],di 2 [em P 258 m1,el P 262 16,ea P 263 61,eN P 264],⟨y "type",none,.cls ⟨"LoadFault",[r 38],[r 63,r 38,y "Exception",y "BaseException",y "object"],62,"LoadFault",true,[],[],false,none,false⟩,([(some (r 54)),none,(some (s "LoadFault" 251)),(some (s "LoadFault" 259)),(some (b "Exception.__new__")),some bT]:List (Option Value)).toArray⟩,su 63,ib 63,tu 0 [r 38],pp,di 4 [em P 274 m1,eq P 276 "RunBound",el P 278 18,ea P 279 73],tu 0 [],fl [],cl "RunBound" 269 18 69,fr 71 68 m1,tu 0 [],di 2 [em P 274 m1,el P 278 18,ea P 279 73,eN P 280],⟨y "type",none,.cls ⟨"RunBound",[r 38],[r 75,r 38,y "Exception",y "BaseException",y "object"],74,"RunBound",true,[],[],false,none,false⟩,([(some (r 66)),none,(some (s "RunBound" 267)),(some (s "RunBound" 275)),(some (b "Exception.__new__")),some bT]:List (Option Value)).toArray⟩,su 75,ib 75,tu 0 [r 38],pp,di 4 [em P 290 m1,eq P 292 "LeftOut",el P 294 20,ea P 295 85],tu 0 [],fl [],cl "LeftOut" 285 20 81,fr 83 80 m1,tu 0 [],di 2 [em P 290 m1,el P 294 20,ea P 295 85,eN P 296],⟨y "type",none,.cls ⟨"LeftOut",[r 38],[r 87,r 38,y "Exception",y "BaseException",y "object"],86,"LeftOut",true,[],[],false,none,false⟩,([(some (r 78)),none,(some (s "LeftOut" 283)),(some (s "LeftOut" 291)),(some (b "Exception.__new__")),some bT]:List (Option Value)).toArray⟩,su 87,ib 87]]
def d1(P:Params):List DictEntry:=[eN P 166,e P "__package__" 167 N,e P "__loader__" 168 (b "__main__.__loader__#opaque"),e P "__spec__" 169 N,er P "__annotations__" 170 6,er P "__builtins__" 171 4,e P "__file__" 173 (s "/claim/cut.py" 172),e P "__cached__" 174 N,er P "_wall" 193 21,ei P "LF_NOTYPE" 197 1,ei P "LF_ENUM" 199 12,ei P "W_SLOT" 201 1,ei P "W_EMPTY" 203 2,er P "RuneError" 234 38,er P "BadKind" 250 51,er P "LoadFault" 266 63,er P "RunBound" 282 75,er P "LeftOut" 298 87]
def g1:List Value:=T3 [(1,20),(9,27),(14,47),(16,59),(18,71),(20,83)]
def c1(P:Params):List (Nat×Obj):=[(2,⟨N,none,.dict ([e P "type.__subclasses__.Exception.0" 231 (i 38),e P "type.__subclasses__.Exception.n" 232 (i 1)]:List DictEntry).toArray 2,([]:List (Option Value)).toArray⟩),(3,di 19 (e P "__name__" 165 m1::d1 P)),(12,fl g1)]
def n2(P:Params):List Obj:=J [
 ]
def d2(P:Params):List DictEntry:=d1 P++[ei P "VOID" 302 0,ei P "BOOL" 304 1,ei P "CHAR" 306 2,ei P "I1" 308 3,ei P "U1" 310 4,ei P "I2" 312 5,ei P "U2" 314 6,ei P "I4" 316 7,ei P "U4" 318 8,ei P "I8" 320 9,ei P "U8" 322 10,ei P "NINT" 324 11,ei P "OBJECT" 326 12,ei P "STRING" 328 13,ei P "NULLK" 330 14,ei P "PRIM_END" 332 16,ei P "R_PRIM" 334 1,ei P "R_CLASS" 336 2,ei P "R_VALUE" 338 3,ei P "R_ARRAY" 340 4,ei P "R_BYREF" 342 5,ei P "R_VAR" 344 6,ei P "R_MVAR" 346 7,ei P "R_BOXED" 348 8,ei P "R_ROREF" 350 9,ei P "R_FTN" 352 10,ei P "R_RAW" 354 11,ei P "DEEPEST_KIND" 356 24,ei P "HEAVIEST_KIND" 358 4096]
def c2(P:Params):List (Nat×Obj):=[(3,di 48 (e P "__name__" 165 m2::d2 P))]
def n3(P:Params):List Obj:=J [
 [di 14 [⟨0,.int 0 301,(.int 20 359)⟩,⟨1,.int 1 303,(.int 9 360)⟩,⟨2,.int 2 305,(.int 10 361)⟩,⟨3,.int 3 307,(.int 11 362)⟩,⟨4,.int 4 309,(.int 12 363)⟩,⟨5,.int 5 311,(.int 13 364)⟩,⟨6,.int 6 313,(.int 14 365)⟩,⟨7,.int 7 315,(.int 15 366)⟩,⟨8,.int 8 317,(.int 16 367)⟩,⟨9,.int 9 319,(.int 17 368)⟩,⟨10,.int 10 321,(.int 18 369)⟩,⟨11,.int 11 323,(.int 19 370)⟩,⟨12,.int 12 325,(.int 1 371)⟩,⟨13,.int 13 327,(.int 4 372)⟩],di 14 [⟨20,.int 20 388,(.int 0 301)⟩,⟨9,.int 9 389,(.int 1 303)⟩,⟨10,.int 10 390,(.int 2 305)⟩,⟨11,.int 11 391,(.int 3 307)⟩,⟨12,.int 12 392,(.int 4 309)⟩,⟨13,.int 13 393,(.int 5 311)⟩,⟨14,.int 14 394,(.int 6 313)⟩,⟨15,.int 15 395,(.int 7 315)⟩,⟨16,.int 16 396,(.int 8 317)⟩,⟨17,.int 17 397,(.int 9 319)⟩,⟨18,.int 18 398,(.int 10 321)⟩,⟨19,.int 19 399,(.int 11 323)⟩,⟨1,.int 1 400,(.int 12 325)⟩,⟨4,.int 4 401,(.int 13 327)⟩]]]
def d3(P:Params):List DictEntry:=d2 P++[er P "PRIM_TID" 387 90,er P "TID_PRIM" 416 91]
def c3(P:Params):List (Nat×Obj):=[(3,di 50 (e P "__name__" 165 m2::d3 P))]
def n4(P:Params):List Obj:=J [
 [tu 0 [],pp,di 7 [em P 428 m2,eq P 430 "KindTable",el P 432 56,eI P 441 105,er P "row" 449 112,er P "put" 464 119,ea P 470 120],tu 0 [],f4 [(58,104),(72,111),(77,118)],cl "KindTable" 423 56 95,fr 97 94 m2],G (mt 45 0) "__init__" "KindTable.__init__" m2 433 58 1 99 ["self","number","row"],G (mt 45 1) "row" "KindTable.row" m2 442 72 2 106 ["self","k"],G (mt 45 2) "put" "KindTable.put" m2 450 77 2 113 ["self","row","found","depth","weight","opened","level","inner","k"],[tn ["depths","index","opens","rows","weights"] 465,di 4 [em P 428 m2,el P 432 56,eI P 441 105,er P "row" 449 112,er P "put" 464 119,ea P 470 120,ed P 472 123,ew P 474 124,eN P 475],ty "KindTable" 122 121 [] 421 429,gd 471 122,gw 473 122,su 122,ib 122],F (st 46) "inner_kinds" m2 478 105 1 127 ["row","sort"],F (st 47) "row_level" m2 486 114 1 134 ["sort"],F (st 48) "row_length" m2 493 118 1 141 ["sort"],F (st 49) "check_kind_row" m2 500 124 2 148 ["kt","row","sort","inner"],F (st 50) "check_named" m2 510 146 2 155 ["kt","row"],F (st 51) "check_args" m2 518 150 2 162 ["kt","args","arg"],F (st 52) "may_stand" m2 527 154 2 169 ["kt","k","sort"],F (st 53) "class_kind" m2 536 159 3 176 ["kt","tid","args"],F (st 54) "prim_kind" m2 545 163 2 183 ["tid","args"],F (st 55) "kind_sort" m2 553 167 2 190 ["kt","k"],F (st 56) "elem_of" m2 561 169 2 197 ["kt","k","row"],F (st 57) "tid_of" m2 570 174 2 204 ["kt","k","row"],F (st 58) "args_of" m2 579 183 2 211 ["kt","k","row"],F (st 59) "is_value" m2 588 188 2 218 ["kt","k"],F (st 60) "is_var" m2 596 192 2 225 ["kt","k","sort"],F (st 61) "close" m2 605 195 4 232 ["kt","k","targs","margs"],F (st 62) "close_in" m2 615 200 5 239 ["kt","k","targs","margs","seen","row","inner","part"],F (st 63) "with_inner" m2 629 215 3 246 ["kt","row","inner","sort"],F (st 64) "box_of" m2 639 224 2 253 ["kt","k"],F (st 65) "pick_arg" m2 647 232 3 260 ["args","place","k"],F (st 66) "close_field" m2 656 236 4 267 ["kt","fref","targs","margs"],F (st 67) "is_int" m2 666 238 1 274 ["k"],[tu 0 [],pp,di 5 [em P 694 m3,eq P 696 "TypeDef",el P 698 247,eI P 713 294,ea P 733 295],tu 0 [],f4 [(249,293)],cl "TypeDef" 689 247 284,fr 286 283 m3],G (mt 75 0) "__init__" "TypeDef.__init__" m3 699 249 8 288 ["self","tid","name","sort","flags","base","params","asm","word"],[tn ["asm","base","bounds","cctor","events","fields","finaliser","flags","home","ifaces","impls","methods","name","params","props","sort","tid","under","variances"] 714,di 4 [em P 694 m3,el P 698 247,eI P 713 294,ea P 733 295,ed P 735 298,ew P 737 299,eN P 738],ty "TypeDef" 297 296 [] 687 695,gd 734 297,gw 736 297,su 297,ib 297]]
def d4(P:Params):List DictEntry:=d3 P++[ei P "ARRAY_TID" 418 5,ei P "NULLABLE_TID" 420 8,er P "KindTable" 477 122,er P "inner_kinds" 485 133,er P "row_level" 492 140,er P "row_length" 499 147,er P "check_kind_row" 509 154,er P "check_named" 517 161,er P "check_args" 526 168,er P "may_stand" 535 175,er P "class_kind" 544 182,er P "prim_kind" 552 189,er P "kind_sort" 560 196,er P "elem_of" 569 203,er P "tid_of" 578 210,er P "args_of" 587 217,er P "is_value" 595 224,er P "is_var" 604 231,er P "close" 614 238,er P "close_in" 628 245,er P "with_inner" 638 252,er P "box_of" 646 259,er P "pick_arg" 655 266,er P "close_field" 665 273,er P "is_int" 672 280,ei P "S_STRUCT" 676 2,ei P "S_ENUM" 678 5,ei P "VA_NONE" 680 0,ei P "T_NULLABLE" 682 8,ei P "T_NULLREF" 684 21,ei P "T_CAST" 686 23,er P "TypeDef" 740 297]
def g4:List Value:=g1++T3 [(56,97),(105,132),(114,139),(118,146),(124,153),(146,160),(150,167),(154,174),(159,181),(163,188),(167,195),(169,202),(174,209),(183,216),(188,223),(192,230),(195,237),(200,244),(215,251),(224,258),(232,265),(236,272),(238,279),(247,286)]
def c4(P:Params):List (Nat×Obj):=[(3,di 82 (e P "__name__" 165 m3::d4 P)),(12,fl g4)]
def n5(P:Params):List Obj:=J [
 [tu 0 [],pp,di 5 [em P 748 m3,eq P 750 "Store",el P 752 273,eI P 759 315,ea P 767 316],tu 0 [],f4 [(275,314)],cl "Store" 743 273 305,fr 307 304 m3],G (mt 76 0) "__init__" "Store.__init__" m3 753 275 1 309 ["self"],[tn ["asms","entry","fields_","kt","methods","names","types"] 760,di 4 [em P 748 m3,el P 752 273,eI P 759 315,ea P 767 316,ed P 769 319,ew P 771 320,eN P 772],ty "Store" 318 317 [] 741 749,gd 768 318,gw 770 318,su 318,ib 318],F (st 77) "type_of" m3 775 283 2 323 ["store","k","tid"],[tu 0 [],pp,di 8 [em P 793 m4,eq P 795 "Diags",el P 797 289,eI P 804 343,er P "put" 814 350,er P "cut" 822 357,er P "numbers" 829 364,ea P 831 365],tu 0 [],f4 [(291,342),(294,349),(297,356),(300,363)],cl "Diags" 788 289 333,fr 335 332 m4],G (mt 79 0) "__init__" "Diags.__init__" m4 798 291 1 337 ["self"],G (mt 79 1) "put" "Diags.put" m4 805 294 4 344 ["self","number","at","words"],G (mt 79 2) "cut" "Diags.cut" m4 815 297 2 351 ["self","count"],G (mt 79 3) "numbers" "Diags.numbers" m4 823 300 1 358 ["self"],[tu 0 [s "rows" 830],di 4 [em P 793 m4,el P 797 289,eI P 804 343,er P "put" 814 350,er P "cut" 822 357,er P "numbers" 829 364,ea P 831 365,ed P 833 368,ew P 835 369,eN P 836],ty "Diags" 367 366 [] 786 794,gd 832 367,gw 834 367,su 367,ib 367,tu 0 [],pp,di 5 [em P 854 m5,eq P 856 "Var",el P 858 306,eI P 870 385,ea P 878 386],tu 0 [],f4 [(308,384)],cl "Var" 849 306 375,fr 377 374 m5],G (mt 84 0) "__init__" "Var.__init__" m5 859 308 6 379 ["self","lid","name","kind","flags","owner"],[tn ["arg","block","flags","kind","lid","name","owner"] 871,di 4 [em P 854 m5,el P 858 306,eI P 870 385,ea P 878 386,ed P 880 389,ew P 882 390,eN P 883],ty "Var" 388 387 [] 847 855,gd 879 388,gw 881 388,su 388,ib 388,tu 0 [],pp,di 5 [em P 893 m5,eq P 895 "Unit",el P 897 316,eI P 906 406,ea P 916 407],tu 0 [],f4 [(318,405)],cl "Unit" 888 316 396,fr 398 395 m5],G (mt 85 0) "__init__" "Unit.__init__" m5 898 318 3 400 ["self","store","asm"],[tn ["asm","consts","diags","fns","inits","of_mid","sinits","store","vars"] 907,di 4 [em P 893 m5,el P 897 316,eI P 906 406,ea P 916 407,ed P 918 410,ew P 920 411,eN P 921],ty "Unit" 409 408 [] 886 894,gd 917 409,gw 919 409,su 409,ib 409]]
def d5(P:Params):List DictEntry:=d4 P++[er P "Store" 774 318,er P "type_of" 783 329,er P "Diags" 838 367,ei P "X_IS" 842 20,ei P "X_AS" 844 21,ei P "S_BLOCK" 846 3,er P "Var" 885 388,er P "Unit" 923 409,ei P "X_HELD" 927 90]
def g5:List Value:=g4++T3 [(273,307),(283,328),(289,335),(306,377),(316,398)]
def c5(P:Params):List (Nat×Obj):=[(3,di 91 (e P "__name__" 165 m6::d5 P)),(12,fl g5)]
def n6(P:Params):List Obj:=J [
 [tu 0 [y "Exception"],pp,di 5 [em P 939 m6,eq P 941 "Thrown",el P 943 332,eI P 953 427,ea P 957 428],tu 0 [],f4 [(334,426)],cl "Thrown" 934 332 417,fr 419 416 m6],G (mt 90 0) "__init__" "Thrown.__init__" m6 944 334 4 421 ["self","item","goal","row"],[tn ["goal","item","row"] 954,di 3 [em P 939 m6,el P 943 332,eI P 953 427,ea P 957 428,ew P 959 431,eN P 960],⟨y "type",none,.cls ⟨"Thrown",[y "Exception"],[r 430,y "Exception",y "BaseException",y "object"],429,"Thrown",true,[],[],false,none,false⟩,([(some (r 414)),none,(some (s "Thrown" 932)),(some (s "Thrown" 940)),(some (b "Exception.__new__")),some bT]:List (Option Value)).toArray⟩,gw 958 430,su 430,ib 430,tu 0 [y "Exception"],pp,di 5 [em P 972 m6,eq P 974 "Unheld",el P 976 338,eI P 984 447,ea P 986 448],tu 0 [],f4 [(340,446)],cl "Unheld" 967 338 437,fr 439 436 m6],G (mt 91 0) "__init__" "Unheld.__init__" m6 977 340 2 441 ["self","item"],[tu 0 [s "item" 985],di 3 [em P 972 m6,el P 976 338,eI P 984 447,ea P 986 448,ew P 988 451,eN P 989],⟨y "type",none,.cls ⟨"Unheld",[y "Exception"],[r 450,y "Exception",y "BaseException",y "object"],449,"Unheld",true,[],[],false,none,false⟩,([(some (r 434)),none,(some (s "Unheld" 965)),(some (s "Unheld" 973)),(some (b "Exception.__new__")),some bT]:List (Option Value)).toArray⟩,gw 987 450,su 450,ib 450,tu 0 [],pp,di 5 [em P 1001 m6,eq P 1003 "Item",el P 1005 342,eI P 1015 467,ea P 1023 468],tu 0 [],f4 [(344,466)],cl "Item" 996 342 457,fr 459 456 m6],G (mt 92 0) "__init__" "Item.__init__" m6 1006 344 4 461 ["self","number","kind","slots"],[tn ["kind","number","rows","slots","special","text","version"] 1016,di 4 [em P 1001 m6,el P 1005 342,eI P 1015 467,ea P 1023 468,ed P 1025 471,ew P 1027 472,eN P 1028],ty "Item" 470 469 [] 994 1002,gd 1024 470,gw 1026 470,su 470,ib 470,tu 0 [],pp,di 6 [em P 1038 m6,eq P 1040 "Special",el P 1042 352,eI P 1050 488,er P "call" 1060 495,ea P 1062 496],tu 0 [],f4 [(354,487),(357,494)],cl "Special" 1033 352 478,fr 480 477 m6],G (mt 93 0) "__init__" "Special.__init__" m6 1043 354 2 482 ["self","kinds"],G (mt 93 1) "call" "Special.call" m6 1051 357 4 489 ["self","ev","mid","args"],[tu 0 [s "kinds" 1061],di 4 [em P 1038 m6,el P 1042 352,eI P 1050 488,er P "call" 1060 495,ea P 1062 496,ed P 1064 499,ew P 1066 500,eN P 1067],ty "Special" 498 497 [] 1031 1039,gd 1063 498,gw 1065 498,su 498,ib 498,tu 0 [],pp,di 5 [em P 1077 m6,eq P 1079 "Act",el P 1081 359,eI P 1093 516,ea P 1104 517],tu 0 [],f4 [(361,515)],cl "Act" 1072 359 506,fr 508 505 m6],G (mt 94 0) "__init__" "Act.__init__" m6 1082 361 6 510 ["self","number","fn","this","targs","margs"],[tn ["caught","entered","fn","held","holes","lids","margs","number","targs","this"] 1094,di 4 [em P 1077 m6,el P 1081 359,eI P 1093 516,ea P 1104 517,ed P 1106 520,ew P 1108 521,eN P 1109],ty "Act" 519 518 [] 1070 1078,gd 1105 519,gw 1107 519,su 519,ib 519]]
def d6(P:Params):List DictEntry:=d5 P++[ei P "MOST_NESTED" 929 870,e P "SAY_NULL" 931 (s "Object reference not set to an instance of an object." 930),er P "Thrown" 964 430,er P "Unheld" 993 450,er P "Item" 1030 470,er P "Special" 1069 498,er P "Act" 1111 519]
def g6:List Value:=g5++T3 [(332,419),(338,439),(342,459),(352,480),(359,508)]
def c6(P:Params):List (Nat×Obj):=[(2,⟨N,none,.dict ([e P "type.__subclasses__.Exception.0" 231 (i 38),e P "type.__subclasses__.Exception.n" 232 (i 3),e P "type.__subclasses__.Exception.1" 961 (i 430),e P "type.__subclasses__.Exception.2" 990 (i 450)]:List DictEntry).toArray 4,([]:List (Option Value)).toArray⟩),(3,di 98 (e P "__name__" 165 m6::d6 P)),(12,fl g6)]
def n7(P:Params):List Obj:=J [
 [tu 0 [],pp,di 5 [em P 1119 m6,eq P 1121 "Guard",el P 1123 372,eI P 1133 537,ea P 1137 538],tu 0 [],f4 [(374,536)],cl "Guard" 1114 372 527,fr 529 526 m6],G (mt 95 0) "__init__" "Guard.__init__" m6 1124 374 4 531 ["self","number","rows","act"],[tn ["act","number","rows"] 1134,di 4 [em P 1119 m6,el P 1123 372,eI P 1133 537,ea P 1137 538,ed P 1139 541,ew P 1141 542,eN P 1142],ty "Guard" 540 539 [] 1112 1120,gd 1138 540,gw 1140 540,su 540,ib 540,tu 0 [],pp,di 5 [em P 1152 m6,eq P 1154 "EvExpr",el P 1156 378,er P "run" 1166 558,ea P 1167 559],tu 0 [],f4 [(380,557)],cl "EvExpr" 1147 378 548,fr 550 547 m6],G (mt 96 0) "run" "EvExpr.run" m6 1157 380 4 552 ["self","ev","act","e"],[tu 0 [],di 4 [em P 1152 m6,el P 1156 378,er P "run" 1166 558,ea P 1167 559,ed P 1169 562,ew P 1171 563,eN P 1172],ty "EvExpr" 561 560 [] 1145 1153,gd 1168 561,gw 1170 561,su 561,ib 561,tu 0 [],pp,di 5 [em P 1182 m6,eq P 1184 "Splits",el P 1186 382,er P "ready" 1195 579,ea P 1196 580],tu 0 [],f4 [(384,578)],cl "Splits" 1177 382 569,fr 571 568 m6],G (mt 97 0) "ready" "Splits.ready" m6 1187 384 3 573 ["self","ev","body"],[tu 0 [],di 4 [em P 1182 m6,el P 1186 382,er P "ready" 1195 579,ea P 1196 580,ed P 1198 583,ew P 1200 584,eN P 1201],ty "Splits" 582 581 [] 1175 1183,gd 1197 582,gw 1199 582,su 582,ib 582,tu 0 [],pp,di 5 [em P 1211 m6,eq P 1213 "Begins",el P 1215 386,er P "begin" 1225 600,ea P 1226 601],tu 0 [],f4 [(388,599)],cl "Begins" 1206 386 590,fr 592 589 m6],G (mt 98 0) "begin" "Begins.begin" m6 1216 388 4 594 ["self","ev","owner","why"],[tu 0 [],di 4 [em P 1211 m6,el P 1215 386,er P "begin" 1225 600,ea P 1226 601,ed P 1228 604,ew P 1230 605,eN P 1231],ty "Begins" 603 602 [] 1204 1212,gd 1227 603,gw 1229 603,su 603,ib 603,tu 0 [],pp,di 6 [em P 1241 m6,eq P 1243 "Calls",el P 1245 390,eI P 1253 621,er P "goal" 1263 628,ea P 1265 629],tu 0 [],f4 [(392,620),(395,627)],cl "Calls" 1236 390 611,fr 613 610 m6],G (mt 99 0) "__init__" "Calls.__init__" m6 1246 392 2 615 ["self","rows"],G (mt 99 1) "goal" "Calls.goal" m6 1254 395 4 622 ["self","ev","k","mref"],[tu 0 [s "rows" 1264],di 4 [em P 1241 m6,el P 1245 390,eI P 1253 621,er P "goal" 1263 628,ea P 1265 629,ed P 1267 632,ew P 1269 633,eN P 1270],ty "Calls" 631 630 [] 1234 1242,gd 1266 631,gw 1268 631,su 631,ib 631]]
def d7(P:Params):List DictEntry:=d6 P++[er P "Guard" 1144 540,er P "EvExpr" 1174 561,er P "Splits" 1203 582,er P "Begins" 1233 603,er P "Calls" 1272 631]
def g7:List Value:=g6++T3 [(372,529),(378,550),(382,571),(386,592),(390,613)]
def c7(P:Params):List (Nat×Obj):=[(3,di 103 (e P "__name__" 165 m6::d7 P)),(12,fl g7)]
def n8(P:Params):List Obj:=J [
 [tu 0 [],pp,di 13 [em P 1280 m6,eq P 1282 "Plot",el P 1284 397,eI P 1293 649,er P "is_a" 1302 656,er P "closed" 1311 663,er P "closed_ref" 1320 670,er P "first" 1328 677,er P "asked" 1336 684,er P "error" 1345 691,er P "type_item" 1353 698,er P "seen_as" 1362 705,ea P 1387 706],tu 0 [],f4 [(399,648),(425,655),(428,662),(431,669),(434,676),(437,683),(440,690),(443,697),(446,704)],cl "Plot" 1275 397 639,fr 641 638 m6],G (mt 100 0) "__init__" "Plot.__init__" m6 1285 399 3 643 ["self","unit","most"],G (mt 100 1) "is_a" "Plot.is_a" m6 1294 425 3 650 ["self","exact","k"],G (mt 100 2) "closed" "Plot.closed" m6 1303 428 3 657 ["self","act","k"],G (mt 100 3) "closed_ref" "Plot.closed_ref" m6 1312 431 3 664 ["self","act","mref"],G (mt 100 4) "first" "Plot.first" m6 1321 434 2 671 ["self","k"],G (mt 100 5) "asked" "Plot.asked" m6 1329 437 2 678 ["self","k"],G (mt 100 6) "error" "Plot.error" m6 1337 440 3 685 ["self","tid","text"],G (mt 100 7) "type_item" "Plot.type_item" m6 1346 443 2 692 ["self","k"],G (mt 100 8) "seen_as" "Plot.seen_as" m6 1354 446 3 699 ["self","k","value"],[tn ["begins","blocks","calls","core","cut_bodies","cuts","depth","exprs","guards","kin","kt","most","nested","places","serial","splits","starts","steps","stmts","store","targets","texts","things","unit"] 1363,di 4 [em P 1280 m6,el P 1284 397,eI P 1293 649,er P "is_a" 1302 656,er P "closed" 1311 663,er P "closed_ref" 1320 670,er P "first" 1328 677,er P "asked" 1336 684,er P "error" 1345 691,er P "type_item" 1353 698,er P "seen_as" 1362 705,ea P 1387 706,ed P 1389 709,ew P 1391 710,eN P 1392],ty "Plot" 708 707 [] 1273 1281,gd 1388 708,gw 1390 708,su 708,ib 708],F (st 101) "count_step" m6 1395 448 1 713 ["ev"],F (st 102) "go_deeper" m6 1402 452 2 720 ["ev","frames","nested"],F (st 103) "next_number" m6 1411 458 1 727 ["ev"],F (st 104) "eval_expr" m6 1418 461 3 734 ["ev","act","e","nested","rule","value"],F (st 105) "kind_in" m6 1430 470 3 741 ["ev","act","k"],F (st 106) "layout_in" m6 1439 472 2 748 ["ev","k"],F (st 107) "is_question" m6 1447 474 2 755 ["ev","k"],F (st 108) "new_item" m6 1455 476 3 762 ["ev","kind","slots","number"],F (st 109) "new_words" m6 1465 480 2 769 ["ev","text","number"],F (st 110) "block_number" m6 1474 484 1 776 ["s"],F (st 111) "block_lids" m6 1481 488 3 783 ["ev","fnid","number","var","key"],F (st 112) "begin_block" m6 1492 497 3 790 ["ev","act","number"],F (st 113) "lay_cells" m6 1501 504 3 797 ["ev","act","number","lid"],F (st 114) "cell_of" m6 1511 507 4 804 ["ev","act","lid","k","cell"],F (st 115) "throw_new" m6 1522 513 3 811 ["ev","tid","text"],F (st 116) "throw_nothing" m6 1531 515 1 818 ["ev"],F (st 117) "throw_item" m6 1538 517 2 825 ["ev","number","at","guard","row"],F (st 118) "row_taking" m6 1549 530 3 832 ["ev","guard","number","place","kind","lid","when","body"],F (st 119) "when_says" m6 1563 541 5 839 ["ev","act","lid","when","number","wall","nested","answer"]]
def d8(P:Params):List DictEntry:=d7 P++[er P "Plot" 1394 708,er P "count_step" 1401 719,er P "go_deeper" 1410 726,er P "next_number" 1417 733,er P "eval_expr" 1429 740,er P "kind_in" 1438 747,er P "layout_in" 1446 754,er P "is_question" 1454 761,er P "new_item" 1464 768,er P "new_words" 1473 775,er P "block_number" 1480 782,er P "block_lids" 1491 789,er P "begin_block" 1500 796,er P "lay_cells" 1510 803,er P "cell_of" 1521 810,er P "throw_new" 1530 817,er P "throw_nothing" 1537 824,er P "throw_item" 1548 831,er P "row_taking" 1562 838,er P "when_says" 1576 845]
def g8:List Value:=g7++T3 [(397,641),(448,718),(452,725),(458,732),(461,739),(470,746),(472,753),(474,760),(476,767),(480,774),(484,781),(488,788),(497,795),(504,802),(507,809),(513,816),(515,823),(517,830),(530,837),(541,844)]
def c8(P:Params):List (Nat×Obj):=[(3,di 123 (e P "__name__" 165 m6::d8 P)),(12,fl g8)]
def n9(P:Params):List Obj:=J [
 F (st 120) "push_guard" m6 1577 553 3 846 ["ev","rows","act","before"],F (st 121) "drop_guards" m6 1587 557 2 853 ["ev","before"],F (st 122) "item_is" m6 1595 559 3 860 ["ev","number","k","item","one"],[tu 0 [(.int 4 1618),(.int 0 1619)]],F (st 130) "plain_kind" m7 1621 575 2 868 ["store","k","t"],F (st 131) "plain_default" m7 1630 586 1 875 ["k"],[tu 0 [],pp,di 5 [em P 1648 m8,eq P 1650 "Shape",el P 1652 596,eI P 1664 895,ea P 1670 896],tu 0 [],f4 [(598,894)],cl "Shape" 1643 596 885,fr 887 884 m8],G (mt 134 0) "__init__" "Shape.__init__" m8 1653 598 6 889 ["self","kinds","slots","statics","skinds","fids"],[tn ["fids","kinds","skinds","slots","statics"] 1665,di 4 [em P 1648 m8,el P 1652 596,eI P 1664 895,ea P 1670 896,ed P 1672 899,ew P 1674 900,eN P 1675],ty "Shape" 898 897 [] 1641 1649,gd 1671 898,gw 1673 898,su 898,ib 898,tu 0 [r 708],pp,di 13 [em P 1685 m8,eq P 1687 "Bed",el P 1689 604,eI P 1698 916,er P "closed" 1707 923,er P "closed_ref" 1716 930,er P "first" 1724 937,er P "asked" 1732 944,er P "error" 1741 951,er P "type_item" 1749 958,er P "seen_as" 1758 965,er P "layout" 1766 972,ea P 1801 973],tu 0 [],f4 [(606,915),(642,922),(645,929),(648,936),(651,943),(654,950),(657,957),(660,964),(663,971)],cl "Bed" 1680 604 906,fr 908 905 m8],G (mt 135 0) "__init__" "Bed.__init__" m8 1690 606 3 910 ["self","unit","most"],G (mt 135 1) "closed" "Bed.closed" m8 1699 642 3 917 ["self","act","k"],G (mt 135 2) "closed_ref" "Bed.closed_ref" m8 1708 645 3 924 ["self","act","mref"],G (mt 135 3) "first" "Bed.first" m8 1717 648 2 931 ["self","k"],G (mt 135 4) "asked" "Bed.asked" m8 1725 651 2 938 ["self","k"],G (mt 135 5) "error" "Bed.error" m8 1733 654 3 945 ["self","tid","text"],G (mt 135 6) "type_item" "Bed.type_item" m8 1742 657 2 952 ["self","k"],G (mt 135 7) "seen_as" "Bed.seen_as" m8 1750 660 3 959 ["self","k","value"],G (mt 135 8) "layout" "Bed.layout" m8 1759 663 2 966 ["self","k"],[tn ["begins","blocks","calls","core","cut_bodies","cuts","defaults","depth","exprs","fails","guards","host","inits","kin","kt","layouts","most","nested","out","places","queue","serial","splits","starts","statics","steps","stmts","store","targets","texts","things","typed","unit","uses"] 1767,di 2 [em P 1685 m8,el P 1689 604,eI P 1698 916,er P "closed" 1707 923,er P "closed_ref" 1716 930,er P "first" 1724 937,er P "asked" 1732 944,er P "error" 1741 951,er P "type_item" 1749 958,er P "seen_as" 1758 965,er P "layout" 1766 972,ea P 1801 973,eN P 1802],⟨y "type",none,.cls ⟨"Bed",[r 708],[r 975,r 708,y "object"],974,"Bed",true,[],[],false,none,false⟩,([(some (r 903)),none,(some (s "Bed" 1678)),(some (s "Bed" 1686)),(some (b "object.__new__")),some bT]:List (Option Value)).toArray⟩,su 975,ib 975],F (st 136) "kept_layout" m8 1805 665 2 978 ["ev","k"],F (st 137) "is_struct" m8 1813 669 2 985 ["ev","k"],F (st 138) "is_composed" m8 1821 671 2 992 ["ev","k"],F (st 139) "default_of" m8 1829 673 2 999 ["ev","k","work","one","waiting","part"]]
def d9(P:Params):List DictEntry:=d8 P++[er P "push_guard" 1586 852,er P "drop_guards" 1594 859,er P "item_is" 1605 866,ei P "V_I4" 1609 1,ei P "V_I8" 1611 2,ei P "V_NINT" 1613 3,ei P "V_REF" 1615 4,ei P "V_TEXT" 1617 8,er P "NULLV" 1620 867,er P "plain_kind" 1629 874,er P "plain_default" 1636 881,ei P "CF_MESSAGE" 1638 1,er P "Shape" 1677 898,er P "Bed" 1804 975,er P "kept_layout" 1812 984,er P "is_struct" 1820 991,er P "is_composed" 1828 998,er P "default_of" 1840 1005]
def g9:List Value:=g8++T3 [(553,851),(557,858),(559,865),(575,873),(586,880),(596,887),(604,908),(665,983),(669,990),(671,997),(673,1004)]
def c9(P:Params):List (Nat×Obj):=[(3,di 141 (e P "__name__" 165 m8::d9 P)),(12,fl g9),(708,ty "Plot" 708 707 [r 975] 1273 1281)]
def n10(P:Params):List Obj:=J [
 [tu 0 [],fl [],fk (fP (st 140) "default_parts" "default_parts"),co [s "default_parts" 1841,s "default_parts" 1842,(s "/claim/cut.py" 1843),i 685,i 2,i 0,i 0,i 3,r 1006,bT,i 181,r 1007,N,N,N,r 1008,i 1844,i 685,(s "/claim/cut.py" 1845)],fo (fR (st 140) "default_parts" "default_parts" (s "framerune.sourcebed" 1639) (r 1009))],F (st 141) "defaults_of" m8 1847 694 2 1011 ["ev","kinds","out","k"],F (st 142) "new_instance" m8 1857 699 2 1018 ["ev","kind"],F (st 143) "error_item" m8 1865 701 3 1025 ["ev","tid","text","kind","number","slot"],F (st 146) "box_value" m9 1881 710 3 1032 ["ev","k","value"],F (st 147) "unbox_value" m9 1890 718 3 1039 ["ev","k","number","inner","item"],F (st 148) "from_reference" m9 1901 734 3 1046 ["ev","k","number"],[tu 0 [r 561],pp,di 5 [em P 1919 m10,eq P 1921 "EvIs",el P 1923 741,er P "run" 1935 1066,ea P 1936 1067],tu 0 [],f4 [(743,1065)],cl "EvIs" 1914 741 1056,fr 1058 1055 m10],G (mt 150 0) "run" "EvIs.run" m10 1924 743 4 1060 ["self","ev","act","e","number","k"],[tu 0 [],di 2 [em P 1919 m10,el P 1923 741,er P "run" 1935 1066,ea P 1936 1067,eN P 1937],⟨y "type",none,.cls ⟨"EvIs",[r 561],[r 1069,r 561,y "object"],1068,"EvIs",true,[],[],false,none,false⟩,([(some (r 1053)),none,(some (s "EvIs" 1912)),(some (s "EvIs" 1920)),(some (b "object.__new__")),some bT]:List (Option Value)).toArray⟩,su 1069,ib 1069],F (st 151) "take_variable" m10 1940 751 5 1072 ["ev","act","lid","k","number","value"],[tu 0 [r 561],pp,di 5 [em P 1959 m10,eq P 1961 "EvAs",el P 1963 756,er P "run" 1975 1092,ea P 1976 1093],tu 0 [],f4 [(758,1091)],cl "EvAs" 1954 756 1082,fr 1084 1081 m10],G (mt 152 0) "run" "EvAs.run" m10 1964 758 4 1086 ["self","ev","act","e","number","k"],[tu 0 [],di 2 [em P 1959 m10,el P 1963 756,er P "run" 1975 1092,ea P 1976 1093,eN P 1977],⟨y "type",none,.cls ⟨"EvAs",[r 561],[r 1095,r 561,y "object"],1094,"EvAs",true,[],[],false,none,false⟩,([(some (r 1079)),none,(some (s "EvAs" 1952)),(some (s "EvAs" 1960)),(some (b "object.__new__")),some bT]:List (Option Value)).toArray⟩,su 1095,ib 1095],F (st 157) "words_for" ZP 1988 768 1 1098 ["count"],[tu 0 [],pp,di 5 [em P 2002 ZP,eq P 2004 "Thing",el P 2006 772,eI P 2016 1118,ea P 2023 1119],tu 0 [],f4 [(774,1117)],cl "Thing" 1997 772 1108,fr 1110 1107 ZP],G (mt 158 0) "__init__" "Thing.__init__" ZP 2007 774 4 1112 ["self","addr","kind","slots"],[tn ["addr","gen","kind","serial","size","slots"] 2017,di 4 [em P 2002 ZP,el P 2006 772,eI P 2016 1118,ea P 2023 1119,ed P 2025 1122,ew P 2027 1123,eN P 2028],ty "Thing" 1121 1120 [] 1995 2003,gd 2024 1121,gw 2026 1121,su 1121,ib 1121,tu 0 [],pp,di 5 [em P 2038 ZP,eq P 2040 "Heap",el P 2042 781,eI P 2051 1139,ea P 2064 1140],tu 0 [],f4 [(783,1138)],cl "Heap" 2033 781 1129,fr 1131 1128 ZP],G (mt 159 0) "__init__" "Heap.__init__" ZP 2043 783 3 1133 ["self","limit","card_bits"],[tn ["at","card_bits","cards","finals","fresh","limit","made","moved","ready","things","top","young_limit"] 2052,di 4 [em P 2038 ZP,el P 2042 781,eI P 2051 1139,ea P 2064 1140,ed P 2066 1143,ew P 2068 1144,eN P 2069],ty "Heap" 1142 1141 [] 2031 2039,gd 2065 1142,gw 2067 1142,su 1142,ib 1142]]
def d10(P:Params):List DictEntry:=d9 P++[er P "default_parts" 1846 1010,er P "defaults_of" 1856 1017,er P "new_instance" 1864 1024,er P "error_item" 1876 1031,e P "SAY_CAST" 1880 (s "Specified cast is not valid." 1879),er P "box_value" 1889 1038,er P "unbox_value" 1900 1045,er P "from_reference" 1909 1052,er P "EvIs" 1939 1069,er P "take_variable" 1951 1078,er P "EvAs" 1979 1095,ei P "FIRST_ADDRESS" 1983 16,ei P "HEAD_WORDS" 1985 2,ei P "LEAST_SIZE" 1987 3,er P "words_for" 1994 1104,er P "Thing" 2030 1121,er P "Heap" 2071 1142]
def g10:List Value:=g9++T3 [(685,1009),(694,1016),(699,1023),(701,1030),(710,1037),(718,1044),(734,1051),(741,1058),(751,1077),(756,1084),(768,1103),(772,1110),(781,1131)]
def c10(P:Params):List (Nat×Obj):=[(3,di 158 (e P "__name__" 165 ZP::d10 P)),(12,fl g10),(561,ty "EvExpr" 561 560 [r 1069,r 1095] 1145 1153)]
def n11(P:Params):List Obj:=J [
 F (st 160) "heap_alloc" ZP 2072 796 3 1147 ["heap","kind","slots","thing"],[tu 0 [],pp,di 5 [em P 2091 m12,eq P 2093 "PlaceHost",el P 2095 806,eI P 2105 1167,ea P 2109 1168],tu 0 [],f4 [(808,1166)],cl "PlaceHost" 2086 806 1157,fr 1159 1156 m12],G (mt 162 0) "__init__" "PlaceHost.__init__" m12 2096 808 4 1161 ["self","heap","frames","statics"],[tn ["frames","heap","statics"] 2106,di 4 [em P 2091 m12,el P 2095 806,eI P 2105 1167,ea P 2109 1168,ed P 2111 1171,ew P 2113 1172,eN P 2114],ty "PlaceHost" 1170 1169 [] 2084 2092,gd 2110 1170,gw 2112 1170,su 1170,ib 1170,tu 0 [(.int 0 2129),(.int 0 2130)],tu 0 [],pp,di 5 [em P 2139 u_,eq P 2141 "Frame",el P 2143 818,eI P 2155 1189,ea P 2171 1190],tu 0 [],f4 [(820,1188)],cl "Frame" 2134 818 1179,fr 1181 1178 u_],G (mt 169 0) "__init__" "Frame.__init__" u_ 2144 820 6 1183 ["self","number","mref","body","args","sort"],[tn ["args","body","caught","caughtv","conts","extra","home","ip","keep","locals_","mref","number","prefix","sort","stack"] 2156,di 4 [em P 2139 u_,el P 2143 818,eI P 2155 1189,ea P 2171 1190,ed P 2173 1193,ew P 2175 1194,eN P 2176],ty "Frame" 1192 1191 [] 2132 2140,gd 2172 1192,gw 2174 1192,su 1192,ib 1192,tu 0 [],pp,di 5 [em P 2186 u_,eq P 2188 "Op",el P 2190 836,er P "run" 2200 1210,ea P 2201 1211],tu 0 [],f4 [(838,1209)],cl "Op" 2181 836 1200,fr 1202 1199 u_],G (mt 170 0) "run" "Op.run" u_ 2191 838 4 1204 ["self","m","f","operand"],[tu 0 [],di 4 [em P 2186 u_,el P 2190 836,er P "run" 2200 1210,ea P 2201 1211,ed P 2203 1214,ew P 2205 1215,eN P 2206],ty "Op" 1213 1212 [] 2179 2187,gd 2202 1213,gw 2204 1213,su 1213,ib 1213,tu 0 [],pp,di 7 [em P 2216 u_,eq P 2218 "Starter",el P 2220 840,er P "need" 2230 1231,er P "done" 2239 1238,er P "failed" 2249 1245,ea P 2250 1246],tu 0 [],f4 [(842,1230),(845,1237),(848,1244)],cl "Starter" 2211 840 1221,fr 1223 1220 u_],G (mt 171 0) "need" "Starter.need" u_ 2221 842 4 1225 ["self","m","kind","why"],G (mt 171 1) "done" "Starter.done" u_ 2231 845 3 1232 ["self","m","kind"],G (mt 171 2) "failed" "Starter.failed" u_ 2240 848 4 1239 ["self","m","kind","addr"],[tu 0 [],di 4 [em P 2216 u_,el P 2220 840,er P "need" 2230 1231,er P "done" 2239 1238,er P "failed" 2249 1245,ea P 2250 1246,ed P 2252 1249,ew P 2254 1250,eN P 2255],ty "Starter" 1248 1247 [] 2209 2217,gd 2251 1248,gw 2253 1248,su 1248,ib 1248,tu 0 [],pp,di 6 [em P 2265 u_,eq P 2267 "KindCloser",el P 2269 850,er P "kind" 2279 1266,er P "ref" 2289 1273,ea P 2290 1274],tu 0 [],f4 [(852,1265),(855,1272)],cl "KindCloser" 2260 850 1256,fr 1258 1255 u_],G (mt 172 0) "kind" "KindCloser.kind" u_ 2270 852 4 1260 ["self","m","f","k"],G (mt 172 1) "ref" "KindCloser.ref" u_ 2280 855 4 1267 ["self","m","f","fref"],[tu 0 [],di 4 [em P 2265 u_,el P 2269 850,er P "kind" 2279 1266,er P "ref" 2289 1273,ea P 2290 1274,ed P 2292 1277,ew P 2294 1278,eN P 2295],ty "KindCloser" 1276 1275 [] 2258 2266,gd 2291 1276,gw 2293 1276,su 1276,ib 1276]]
def d11(P:Params):List DictEntry:=d10 P++[er P "heap_alloc" 2081 1153,er P "PlaceHost" 2116 1170,e P "JP_FALL" 2121 (.int (-1) 2120),e P "JP_STAY" 2124 (.int (-2) 2123),ei P "ST_RUN" 2126 0,ei P "ST_WRONG" 2128 3,er P "LOST" 2131 1175,er P "Frame" 2178 1192,er P "Op" 2208 1213,er P "Starter" 2257 1248,er P "KindCloser" 2297 1276]
def g11:List Value:=g10++T3 [(796,1152),(806,1159),(818,1181),(836,1202),(840,1223),(850,1258)]
def c11(P:Params):List (Nat×Obj):=[(3,di 169 (e P "__name__" 165 u_::d11 P)),(12,fl g11)]
def n12(P:Params):List Obj:=J [
 [tu 0 [r 1276],pp,di 6 [em P 2305 u_,eq P 2307 "FrameCloser",el P 2309 857,er P "kind" 2319 1294,er P "ref" 2329 1301,ea P 2330 1302],tu 0 [],f4 [(859,1293),(862,1300)],cl "FrameCloser" 2300 857 1284,fr 1286 1283 u_],G (mt 173 0) "kind" "FrameCloser.kind" u_ 2310 859 4 1288 ["self","m","f","k"],G (mt 173 1) "ref" "FrameCloser.ref" u_ 2320 862 4 1295 ["self","m","f","fref"],[tu 0 [],di 2 [em P 2305 u_,el P 2309 857,er P "kind" 2319 1294,er P "ref" 2329 1301,ea P 2330 1302,eN P 2331],⟨y "type",none,.cls ⟨"FrameCloser",[r 1276],[r 1304,r 1276,y "object"],1303,"FrameCloser",true,[],[],false,none,false⟩,([(some (r 1281)),none,(some (s "FrameCloser" 2298)),(some (s "FrameCloser" 2306)),(some (b "object.__new__")),some bT]:List (Option Value)).toArray⟩,su 1304,ib 1304,tu 0 [],pp,di 20 [em P 2341 u_,eq P 2343 "Tray",el P 2345 864,eI P 2354 1320,er P "is_a" 2363 1327,er P "slots_of" 2371 1334,er P "kinds_of" 2379 1341,er P "skinds_of" 2387 1348,er P "slot_place" 2395 1355,er P "target" 2404 1362,er P "default" 2412 1369,er P "plain" 2420 1376,er P "closed" 2429 1383,er P "closed_ref" 2438 1390,er P "alloc" 2447 1397,er P "wrong" 2455 1404,er P "pop" 2463 1411,er P "throw_new" 2472 1418,er P "push_call" 2482 1425,ea P 2504 1426],tu 0 [],f4 [(866,1319),(889,1326),(892,1333),(895,1340),(898,1347),(901,1354),(904,1361),(907,1368),(910,1375),(913,1382),(916,1389),(919,1396),(922,1403),(925,1410),(928,1417),(931,1424)],cl "Tray" 2336 864 1310,fr 1312 1309 u_],G (mt 174 0) "__init__" "Tray.__init__" u_ 2346 866 3 1314 ["self","store","heap"],G (mt 174 1) "is_a" "Tray.is_a" u_ 2355 889 3 1321 ["self","exact","k"],G (mt 174 2) "slots_of" "Tray.slots_of" u_ 2364 892 2 1328 ["self","k"],G (mt 174 3) "kinds_of" "Tray.kinds_of" u_ 2372 895 2 1335 ["self","k"],G (mt 174 4) "skinds_of" "Tray.skinds_of" u_ 2380 898 2 1342 ["self","k"],G (mt 174 5) "slot_place" "Tray.slot_place" u_ 2388 901 2 1349 ["self","fref"],G (mt 174 6) "target" "Tray.target" u_ 2396 904 3 1356 ["self","exact","mref"],G (mt 174 7) "default" "Tray.default" u_ 2405 907 2 1363 ["self","k"],G (mt 174 8) "plain" "Tray.plain" u_ 2413 910 2 1370 ["self","k"],G (mt 174 9) "closed" "Tray.closed" u_ 2421 913 3 1377 ["self","f","k"],G (mt 174 10) "closed_ref" "Tray.closed_ref" u_ 2430 916 3 1384 ["self","f","fref"],G (mt 174 11) "alloc" "Tray.alloc" u_ 2439 919 3 1391 ["self","kind","count"],G (mt 174 12) "wrong" "Tray.wrong" u_ 2448 922 2 1398 ["self","code"],G (mt 174 13) "pop" "Tray.pop" u_ 2456 925 2 1405 ["self","f"],G (mt 174 14) "throw_new" "Tray.throw_new" u_ 2464 928 3 1412 ["self","tid","text"],G (mt 174 15) "push_call" "Tray.push_call" u_ 2473 931 4 1419 ["self","mref","args","sort"],[tn ["by_number","calls","closer","defaults","frames","heap","held","inits","kin","kt","ops","places","rows","starter","state","statics","store","targets","thrown","told","unders"] 2483,di 4 [em P 2341 u_,el P 2345 864,eI P 2354 1320,er P "is_a" 2363 1327,er P "slots_of" 2371 1334,er P "kinds_of" 2379 1341,er P "skinds_of" 2387 1348,er P "slot_place" 2395 1355,er P "target" 2404 1362,er P "default" 2412 1369,er P "plain" 2420 1376,er P "closed" 2429 1383,er P "closed_ref" 2438 1390,er P "alloc" 2447 1397,er P "wrong" 2455 1404,er P "pop" 2463 1411,er P "throw_new" 2472 1418,er P "push_call" 2482 1425,ea P 2504 1426,ed P 2506 1429,ew P 2508 1430,eN P 2509],ty "Tray" 1428 1427 [] 2334 2342,gd 2505 1428,gw 2507 1428,su 1428,ib 1428],F (st 175) "note_thrown" u_ 2512 933 2 1433 ["m","tid"],F (st 176) "told_row" u_ 2520 937 2 1440 ["m","k","row"],F (st 177) "told_default" u_ 2529 942 2 1447 ["m","k","found"]]
def d12(P:Params):List DictEntry:=d11 P++[er P "FrameCloser" 2333 1304,er P "Tray" 2511 1428,er P "note_thrown" 2519 1439,er P "told_row" 2528 1446,er P "told_default" 2537 1453]
def g12:List Value:=g11++T3 [(857,1286),(864,1312),(933,1438),(937,1445),(942,1452)]
def c12(P:Params):List (Nat×Obj):=[(3,di 174 (e P "__name__" 165 u_::d12 P)),(12,fl g12),(1276,ty "KindCloser" 1276 1275 [r 1304] 2258 2266)]
def n13(P:Params):List Obj:=J [
 F (st 178) "targs_of" u_ 2538 947 2 1454 ["m","f"],F (st 179) "closed_kind" u_ 2546 949 3 1461 ["m","f","k"],F (st 180) "closed_field" u_ 2555 951 3 1468 ["m","f","fref"],F (st 181) "tell_wrong" u_ 2564 953 2 1475 ["m","code","mid","ip","f"],F (st 182) "pop_value" u_ 2575 964 2 1482 ["m","f"],F (st 183) "first_slots" u_ 2583 969 3 1489 ["m","kind","count","sort","out","k"],F (st 188) "is_of" ZO 2603 988 3 1496 ["m","value","k","thing"],F (st 189) "cast_top" ZO 2613 991 3 1503 ["m","f","k","value"],[tu 0 [r 1213],pp,di 5 [em P 2630 ZO,eq P 2632 "OpCast",el P 2634 999,er P "run" 2644 1523,ea P 2645 1524],tu 0 [],f4 [(1001,1522)],cl "OpCast" 2625 999 1513,fr 1515 1512 ZO],G (mt 190 0) "run" "OpCast.run" ZO 2635 1001 4 1517 ["self","m","f","operand"],[tu 0 [],di 2 [em P 2630 ZO,el P 2634 999,er P "run" 2644 1523,ea P 2645 1524,eN P 2646],⟨y "type",none,.cls ⟨"OpCast",[r 1213],[r 1526,r 1213,y "object"],1525,"OpCast",true,[],[],false,none,false⟩,([(some (r 1510)),none,(some (s "OpCast" 2623)),(some (s "OpCast" 2631)),(some (b "object.__new__")),some bT]:List (Option Value)).toArray⟩,su 1526,ib 1526,tu 0 [r 1213],pp,di 5 [em P 2656 ZO,eq P 2658 "OpIsInstance",el P 2660 1003,er P "run" 2671 1542,ea P 2672 1543],tu 0 [],f4 [(1005,1541)],cl "OpIsInstance" 2651 1003 1532,fr 1534 1531 ZO],G (mt 191 0) "run" "OpIsInstance.run" ZO 2661 1005 4 1536 ["self","m","f","operand","value"],[tu 0 [],di 2 [em P 2656 ZO,el P 2660 1003,er P "run" 2671 1542,ea P 2672 1543,eN P 2673],⟨y "type",none,.cls ⟨"OpIsInstance",[r 1213],[r 1545,r 1213,y "object"],1544,"OpIsInstance",true,[],[],false,none,false⟩,([(some (r 1529)),none,(some (s "OpIsInstance" 2649)),(some (s "OpIsInstance" 2657)),(some (b "object.__new__")),some bT]:List (Option Value)).toArray⟩,su 1545,ib 1545],F (st 192) "install_m_casts" ZO 2676 1013 1 1548 ["m"],[tu 0 [r 561],pp,di 5 [em P 2692 m15,eq P 2694 "EvHeld",el P 2696 1017,er P "run" 2706 1568,ea P 2707 1569],tu 0 [],f4 [(1019,1567)],cl "EvHeld" 2687 1017 1558,fr 1560 1557 m15],G (mt 194 0) "run" "EvHeld.run" m15 2697 1019 4 1562 ["self","ev","act","e"],[tu 0 [],di 2 [em P 2692 m15,el P 2696 1017,er P "run" 2706 1568,ea P 2707 1569,eN P 2708],⟨y "type",none,.cls ⟨"EvHeld",[r 561],[r 1571,r 561,y "object"],1570,"EvHeld",true,[],[],false,none,false⟩,([(some (r 1555)),none,(some (s "EvHeld" 2685)),(some (s "EvHeld" 2693)),(some (b "object.__new__")),some bT]:List (Option Value)).toArray⟩,su 1571,ib 1571,tn ["i4","e","u4","f","s","g","h","?i4","?e","?s","?u1","?h","o","a","b","i","v","t","a[]","b[]","o[]","i4[]","u4[]","u1","bool"] 2713]]
def d13(P:Params):List DictEntry:=d12 P++[er P "targs_of" 2545 1460,er P "closed_kind" 2554 1467,er P "closed_field" 2563 1474,er P "tell_wrong" 2574 1481,er P "pop_value" 2582 1488,er P "first_slots" 2594 1495,ei P "OP_CASTCLASS" 2596 116,ei P "OP_ISINST" 2598 117,e P "TEXT_CAST" 2602 (s "Specified cast is not valid." 2601),er P "is_of" 2612 1502,er P "cast_top" 2622 1509,er P "OpCast" 2648 1526,er P "OpIsInstance" 2675 1545,er P "install_m_casts" 2682 1554,er P "EvHeld" 2710 1571,er P "_law_NAMES" 2738 1574]
def g13:List Value:=g12++T3 [(947,1459),(949,1466),(951,1473),(953,1480),(964,1487),(969,1494),(988,1501),(991,1508),(999,1515),(1003,1534),(1013,1553),(1017,1560)]
def c13(P:Params):List (Nat×Obj):=[(3,di 190 (e P "__name__" 165 U_::d13 P)),(12,fl g13),(561,ty "EvExpr" 561 560 [r 1069,r 1095,r 1571] 1145 1153),(1213,ty "Op" 1213 1212 [r 1526,r 1545] 2179 2187)]
def n14(P:Params):List Obj:=J [
 [tu 0 [s "b" 2739,s "a" 2740,(.int 1 2741)],tu 0 [s "b" 2742,s "i" 2743,(.int 1 2744)],tu 0 [s "a" 2745,s "i" 2746,(.int 0 2747)],tu 0 [s "s" 2748,s "i" 2749,(.int 1 2750)],tu 0 [s "s" 2751,s "v" 2752,(.int 1 2753)],tu 0 [s "e" 2754,s "v" 2755,(.int 1 2756)],tu 0 [s "i4" 2757,s "v" 2758,(.int 1 2759)],tu 0 [(s "i4[]" 2760),(s "u4[]" 2761),(.int 1 2762)],tu 0 [(s "u4[]" 2763),(s "i4[]" 2764),(.int 0 2765)],tu 0 [(s "b[]" 2766),(s "a[]" 2767),(.int 1 2768)],tu 0 [(s "a[]" 2769),(s "o[]" 2770),(.int 1 2771)],tu 0 [(s "b[]" 2772),(s "o[]" 2773),(.int 0 2774)],tu 0 [s "t" 2775,s "i" 2776,(.int 0 2777)],tu 0 [s "h" 2778,s "v" 2779,(.int 0 2780)],tu 0 [r 1575,r 1576,r 1577,r 1578,r 1579,r 1580,r 1581,r 1582,r 1583,r 1584,r 1585,r 1586,r 1587,r 1588],tu 0 [(.int 0 2782),(.int 1 2783),(.int (-1) 2785),(.int 7 2786),(.int 127 2787),(.int 128 2788),(.int 255 2789),(.int 256 2790),(.int 32767 2791),(.int 65535 2792),(.int 2147483647 2793),(.int 2147483648 2794),(.int 4294967295 2795),(.int 300 2796),(.int (-300) 2798),(.int (-2147483648) 2800)],tu 0 [(.int 0 2802),(.int 0 2803),(.int 2 2804),(.int 10 2805),(.int 1 2806),(.int 4 2807),(.int 10 2808),(.int 1 2809),(.int 5 2810),(.int 3 2811),(.int 2 2812),(.int 4 2813),(.int 7 2814),(.int 31 2815)]],F (st 200) "_law_any" U_ 2817 1026 1 1592 ["w","at"],F (st 201) "_law_refers" U_ 2825 1034 1 1599 ["name"],F (st 202) "_law_plain" U_ 2832 1036 2 1606 ["w","name"],F (st 203) "_law_value" U_ 2840 1038 3 1613 ["w","name","z","spans","low","many"],F (st 204) "_law_none" U_ 2852 1048 1 1620 ["name"],F (st 205) "_law_source" U_ 2859 1054 3 1627 ["w","name","value"],F (st 206) "_law_tagged" U_ 2868 1062 3 1634 ["w","name","value","maybe"],F (st 207) "_law_goes" U_ 2878 1069 3 1641 ["w","i","name","exact"],F (st 208) "_law_from" U_ 2888 1074 3 1648 ["w","name","i","exact"],F (st 209) "_law_boxed" U_ 2898 1085 3 1655 ["w","name","value","thing"],F (st 210) "_law_written" U_ 2908 1098 3 1662 ["w","name","by","kt"],F (st 211) "_law_asked" U_ 2918 1110 3 1669 ["w","name","by"],F (st 212) "_law_op" U_ 2927 1114 4 1676 ["w","code","operand","i","m","f","jump"],F (st 213) "_law_held" U_ 2940 1127 4 1683 ["w","name","value","by"],F (st 214) "_law_is" U_ 2950 1129 6 1690 ["w","e","i","name","by","with_name","ev","lid","yes","put","want"],F (st 215) "_law_as" U_ 2967 1149 5 1697 ["w","e","i","name","by","ev","yes","want","put"],F (st 216) "_law_tried" U_ 2982 1160 3 1704 ["w","name","i","left"],F (st 217) "_law_cast" U_ 2992 1165 4 1711 ["w","i","name","by","due","value","told","got","thrown","put"],F (st 218) "_law_reference" U_ 3008 1174 2 1718 ["w","x","many"],F (st 219) "_law_aim" U_ 3017 1179 3 1725 ["w","i","y","exact","z","beside"],F (st 220) "_law_deed" U_ 3029 1192 1 1732 ["w","o","x","y","u","by","i","name","value","e","aim"],F (st 221) "_law_kinds" U_ 3046 1222 1 1739 ["kt","kinds","name","tid"],F (st 222) "_law_types" U_ 3056 1236 3 1746 ["w","store","ev","kinds","tid","name","sort"],F (st 223) "_law_kin" U_ 3069 1248 2 1753 ["w","flips","kinds","place","exact","name","held"],F (st 224) "_law_world" U_ 3082 1259 1 1760 ["script","store","m","ev","kinds","w","head","targs","margs","name","thing"],F (st 225) "_law_settled" U_ 3099 1289 1 1767 ["w","ev","m","i","name","item","thing","value"],F (st 226) "law" U_ 3113 1306 1 1774 ["script","w","maybe","first","name","value","aim","e","turn"]]
def d14(P:Params):List DictEntry:=d13 P++[er P "_law_PAIRS" 2781 1589,er P "_law_EDGES" 2801 1590,er P "_law_FIRST" 2816 1591,er P "_law_any" 2824 1598,er P "_law_refers" 2831 1605,er P "_law_plain" 2839 1612,er P "_law_value" 2851 1619,er P "_law_none" 2858 1626,er P "_law_source" 2867 1633,er P "_law_tagged" 2877 1640,er P "_law_goes" 2887 1647,er P "_law_from" 2897 1654,er P "_law_boxed" 2907 1661,er P "_law_written" 2917 1668,er P "_law_asked" 2926 1675,er P "_law_op" 2939 1682,er P "_law_held" 2949 1689,er P "_law_is" 2966 1696,er P "_law_as" 2981 1703,er P "_law_tried" 2991 1710,er P "_law_cast" 3007 1717,er P "_law_reference" 3016 1724,er P "_law_aim" 3028 1731,er P "_law_deed" 3045 1738,er P "_law_kinds" 3055 1745,er P "_law_types" 3068 1752,er P "_law_kin" 3081 1759,er P "_law_world" 3098 1766,er P "_law_settled" 3112 1773,er P "law" 3127 1780]
def g14:List Value:=g13++T3 [(1026,1597),(1034,1604),(1036,1611),(1038,1618),(1048,1625),(1054,1632),(1062,1639),(1069,1646),(1074,1653),(1085,1660),(1098,1667),(1110,1674),(1114,1681),(1127,1688),(1129,1695),(1149,1702),(1160,1709),(1165,1716),(1174,1723),(1179,1730),(1192,1737),(1222,1744),(1236,1751),(1248,1758),(1259,1765),(1289,1772),(1306,1779)]
def c14(P:Params):List (Nat×Obj):=[(3,di 220 (e P "__name__" 165 U_::d14 P)),(12,fl g14)]
def t0(P:Params):BT:=grow .nil 0 (n0 P)
def t1(P:Params):BT:=sets (grow (t0 P) 15 (n1 P)) (c1 P)
def t2(P:Params):BT:=sets (grow (t1 P) 90 (n2 P)) (c2 P)
def t3(P:Params):BT:=sets (grow (t2 P) 90 (n3 P)) (c3 P)
def t4(P:Params):BT:=sets (grow (t3 P) 92 (n4 P)) (c4 P)
def t5(P:Params):BT:=sets (grow (t4 P) 302 (n5 P)) (c5 P)
def t6(P:Params):BT:=sets (grow (t5 P) 414 (n6 P)) (c6 P)
def t7(P:Params):BT:=sets (grow (t6 P) 524 (n7 P)) (c7 P)
def t8(P:Params):BT:=sets (grow (t7 P) 636 (n8 P)) (c8 P)
def t9(P:Params):BT:=sets (grow (t8 P) 846 (n9 P)) (c9 P)
def t10(P:Params):BT:=sets (grow (t9 P) 1006 (n10 P)) (c10 P)
def t11(P:Params):BT:=sets (grow (t10 P) 1147 (n11 P)) (c11 P)
def t12(P:Params):BT:=sets (grow (t11 P) 1281 (n12 P)) (c12 P)
def t13(P:Params):BT:=sets (grow (t12 P) 1454 (n13 P)) (c13 P)
def YP(P:Params):BT:=sets (grow (t13 P) 1575 (n14 P)) (c14 P)
def env:Env:={scope:=pw.main.scope,locals:=mainNs,globals:=mainNs,cells:=[],code:=.ref 13,frame:=some 14}
def bd:List Stmt:=behindTheImports pw
def B:List Frame:=[topFrame ⟨0,0,0,0⟩]
def d_(k n:Nat):List Stmt:=(bd.drop k).take n
noncomputable def at_(t:Params->BT)(n toks:Nat)(w:World)(os:OsState):SharedT:=⟨t w.params,n,{},#[],{},toks,os⟩
def p1(w:World)(os:OsState):segRunT treeTable pw w 11 (some (.ref 6)) 1 1157 (at_ t0 15 187 w os) (piecesOf (d_ 0 11) env (.body bd env) ⟨0,0,0,0⟩ B)=some (.next,at_ t1 90 299 w os,.body bd env,⟨20,0,21,8⟩):=by
 rw[xA,vx];kernel_rfl
def p2(w:World)(os:OsState):segRunT treeTable pw w 11 (some (.ref 6)) 1 271 (at_ t1 90 299 w os) (piecesOf (d_ 11 30) env (.body bd env) ⟨20,0,21,8⟩ B)=some (.next,at_ t2 90 359 w os,.body bd env,⟨51,0,51,13⟩):=by
 rw[xA,vx];kernel_rfl
def p3(w:World)(os:OsState):segRunT treeTable pw w 11 (some (.ref 6)) 1 413 (at_ t2 90 359 w os) (piecesOf (d_ 41 2) env (.body bd env) ⟨51,0,51,13⟩ B)=some (.next,at_ t3 92 417 w os,.body bd env,⟨53,0,53,8⟩):=by
 refine byRow2 (P:=λw=>segRunT treeTable pw w 11 (some (.ref 6)) 1 413 (at_ t2 90 359 w os) (piecesOf (d_ 41 2) env (.body bd env) ⟨51,0,51,13⟩ B)=some (.next,at_ t3 92 417 w os,.body bd env,⟨53,0,53,8⟩)) "special-get-raises" ?_ ?_ w
 all_goals (intro w;rw[xA,vx];kernel_rfl)
def p4(w:World)(os:OsState):segRunT treeTable pw w 11 (some (.ref 6)) 1 1306 (at_ t3 92 417 w os) (piecesOf (d_ 43 33) env (.body bd env) ⟨53,0,53,8⟩ B)=some (.next,at_ t4 302 741 w os,.body bd env,⟨247,0,272,21⟩):=by
 rw[xA,vx];kernel_rfl
def p5(w:World)(os:OsState):segRunT treeTable pw w 11 (some (.ref 6)) 1 1103 (at_ t4 302 741 w os) (piecesOf (d_ 76 12) env (.body bd env) ⟨247,0,272,21⟩ B)=some (.next,at_ t5 414 928 w os,.body bd env,⟨329,0,329,6⟩):=by
 rw[xA,vx];kernel_rfl
def p6(w:World)(os:OsState):segRunT treeTable pw w 11 (some (.ref 6)) 1 1200 (at_ t5 414 928 w os) (piecesOf (d_ 88 7) env (.body bd env) ⟨329,0,329,6⟩ B)=some (.next,at_ t6 524 1112 w os,.body bd env,⟨359,0,371,24⟩):=by
 rw[xA,vx];kernel_rfl
def p7(w:World)(os:OsState):segRunT treeTable pw w 11 (some (.ref 6)) 1 1151 (at_ t6 524 1112 w os) (piecesOf (d_ 95 5) env (.body bd env) ⟨359,0,371,24⟩ B)=some (.next,at_ t7 636 1273 w os,.body bd env,⟨390,0,396,48⟩):=by
 rw[xA,vx];kernel_rfl
def p8(w:World)(os:OsState):segRunT treeTable pw w 11 (some (.ref 6)) 1 1108 (at_ t7 636 1273 w os) (piecesOf (d_ 100 20) env (.body bd env) ⟨390,0,396,48⟩ B)=some (.next,at_ t8 846 1577 w os,.body bd env,⟨541,0,552,22⟩):=by
 rw[xA,vx];kernel_rfl
def p9(w:World)(os:OsState):segRunT treeTable pw w 11 (some (.ref 6)) 1 1133 (at_ t8 846 1577 w os) (piecesOf (d_ 120 20) env (.body bd env) ⟨541,0,552,22⟩ B)=some (.next,at_ t9 1006 1841 w os,.body bd env,⟨673,0,684,25⟩):=by
 rw[xA,vx];kernel_rfl
def p10(w:World)(os:OsState):segRunT treeTable pw w 11 (some (.ref 6)) 1 1303 (at_ t9 1006 1841 w os) (piecesOf (d_ 140 20) env (.body bd env) ⟨673,0,684,25⟩ B)=some (.next,at_ t10 1147 2072 w os,.body bd env,⟨781,0,795,21⟩):=by
 rw[xA,vx];kernel_rfl
def p11(w:World)(os:OsState):segRunT treeTable pw w 11 (some (.ref 6)) 1 1345 (at_ t10 1147 2072 w os) (piecesOf (d_ 160 13) env (.body bd env) ⟨781,0,795,21⟩ B)=some (.next,at_ t11 1281 2298 w os,.body bd env,⟨850,0,856,19⟩):=by
 rw[xA,vx];kernel_rfl
def p12(w:World)(os:OsState):segRunT treeTable pw w 11 (some (.ref 6)) 1 1104 (at_ t11 1281 2298 w os) (piecesOf (d_ 173 5) env (.body bd env) ⟨850,0,856,19⟩ B)=some (.next,at_ t12 1454 2538 w os,.body bd env,⟨942,0,946,36⟩):=by
 rw[xA,vx];kernel_rfl
def p13(w:World)(os:OsState):segRunT treeTable pw w 11 (some (.ref 6)) 1 1111 (at_ t12 1454 2538 w os) (piecesOf (d_ 178 19) env (.body bd env) ⟨942,0,946,36⟩ B)=some (.next,at_ t13 1575 2739 w os,.body bd env,⟨1022,0,1022,10⟩):=by
 rw[xA,vx];kernel_rfl
def p14(w:World)(os:OsState):segRunT treeTable pw w 11 (some (.ref 6)) 1 1051 (at_ t13 1575 2739 w os) (piecesOf (d_ 197 30) env (.body bd env) ⟨1022,0,1022,10⟩ B)=some (.next,at_ YP 1781 3128 w os,.body bd env,⟨1306,0,1318,26⟩):=by
 rw[xA,vx];kernel_rfl
end Hd
namespace Hd
open PySem.Spec PySem.Calls
def ZZ:bd=d_ 0 11++(d_ 11 30++(d_ 41 2++(d_ 43 33++(d_ 76 12++(d_ 88 7++(d_ 95 5++(d_ 100 20++(d_ 120 20++(d_ 140 20++(d_ 160 13++(d_ 173 5++(d_ 178 19++(d_ 197 30++[]))))))))))))):=by kernel_rfl
def ag9(w:World)(os:OsState):topRun treeTable pw w 11 (some (.ref 6)) 2 (at_ YP 1781 3128 w os).abs (restOf [] env (.body bd env) ⟨1306,0,1318,26⟩ B)=some (at_ YP 1781 3128 w os).abs:=by kernel_rfl
def M14:Nat:=1051+2
def r14(w:World)(os:OsState):topRun treeTable pw w 11 (some (.ref 6)) M14 (at_ t13 1575 2739 w os).abs (restOf (d_ 197 30++[]) env (.body bd env) ⟨1022,0,1022,10⟩ B)=some (at_ YP 1781 3128 w os).abs:=
 piece_app (n:=1051) (N:=2) (segRun_of (p14 w os)) (ag9 w os)
def M13:Nat:=1111+M14
def r13(w:World)(os:OsState):topRun treeTable pw w 11 (some (.ref 6)) M13 (at_ t12 1454 2538 w os).abs (restOf (d_ 178 19++(d_ 197 30++[])) env (.body bd env) ⟨942,0,946,36⟩ B)=some (at_ YP 1781 3128 w os).abs:=
 piece_app (n:=1111) (N:=M14) (segRun_of (p13 w os)) (r14 w os)
def M12:Nat:=1104+M13
def r12(w:World)(os:OsState):topRun treeTable pw w 11 (some (.ref 6)) M12 (at_ t11 1281 2298 w os).abs (restOf (d_ 173 5++(d_ 178 19++(d_ 197 30++[]))) env (.body bd env) ⟨850,0,856,19⟩ B)=some (at_ YP 1781 3128 w os).abs:=
 piece_app (n:=1104) (N:=M13) (segRun_of (p12 w os)) (r13 w os)
def M11:Nat:=1345+M12
def r11(w:World)(os:OsState):topRun treeTable pw w 11 (some (.ref 6)) M11 (at_ t10 1147 2072 w os).abs (restOf (d_ 160 13++(d_ 173 5++(d_ 178 19++(d_ 197 30++[])))) env (.body bd env) ⟨781,0,795,21⟩ B)=some (at_ YP 1781 3128 w os).abs:=
 piece_app (n:=1345) (N:=M12) (segRun_of (p11 w os)) (r12 w os)
def M10:Nat:=1303+M11
def r10(w:World)(os:OsState):topRun treeTable pw w 11 (some (.ref 6)) M10 (at_ t9 1006 1841 w os).abs (restOf (d_ 140 20++(d_ 160 13++(d_ 173 5++(d_ 178 19++(d_ 197 30++[]))))) env (.body bd env) ⟨673,0,684,25⟩ B)=some (at_ YP 1781 3128 w os).abs:=
 piece_app (n:=1303) (N:=M11) (segRun_of (p10 w os)) (r11 w os)
def M9:Nat:=1133+M10
def r9(w:World)(os:OsState):topRun treeTable pw w 11 (some (.ref 6)) M9 (at_ t8 846 1577 w os).abs (restOf (d_ 120 20++(d_ 140 20++(d_ 160 13++(d_ 173 5++(d_ 178 19++(d_ 197 30++[])))))) env (.body bd env) ⟨541,0,552,22⟩ B)=some (at_ YP 1781 3128 w os).abs:=
 piece_app (n:=1133) (N:=M10) (segRun_of (p9 w os)) (r10 w os)
def M8:Nat:=1108+M9
def r8(w:World)(os:OsState):topRun treeTable pw w 11 (some (.ref 6)) M8 (at_ t7 636 1273 w os).abs (restOf (d_ 100 20++(d_ 120 20++(d_ 140 20++(d_ 160 13++(d_ 173 5++(d_ 178 19++(d_ 197 30++[]))))))) env (.body bd env) ⟨390,0,396,48⟩ B)=some (at_ YP 1781 3128 w os).abs:=
 piece_app (n:=1108) (N:=M9) (segRun_of (p8 w os)) (r9 w os)
def M7:Nat:=1151+M8
def r7(w:World)(os:OsState):topRun treeTable pw w 11 (some (.ref 6)) M7 (at_ t6 524 1112 w os).abs (restOf (d_ 95 5++(d_ 100 20++(d_ 120 20++(d_ 140 20++(d_ 160 13++(d_ 173 5++(d_ 178 19++(d_ 197 30++[])))))))) env (.body bd env) ⟨359,0,371,24⟩ B)=some (at_ YP 1781 3128 w os).abs:=
 piece_app (n:=1151) (N:=M8) (segRun_of (p7 w os)) (r8 w os)
def M6:Nat:=1200+M7
def r6(w:World)(os:OsState):topRun treeTable pw w 11 (some (.ref 6)) M6 (at_ t5 414 928 w os).abs (restOf (d_ 88 7++(d_ 95 5++(d_ 100 20++(d_ 120 20++(d_ 140 20++(d_ 160 13++(d_ 173 5++(d_ 178 19++(d_ 197 30++[]))))))))) env (.body bd env) ⟨329,0,329,6⟩ B)=some (at_ YP 1781 3128 w os).abs:=
 piece_app (n:=1200) (N:=M7) (segRun_of (p6 w os)) (r7 w os)
def M5:Nat:=1103+M6
def r5(w:World)(os:OsState):topRun treeTable pw w 11 (some (.ref 6)) M5 (at_ t4 302 741 w os).abs (restOf (d_ 76 12++(d_ 88 7++(d_ 95 5++(d_ 100 20++(d_ 120 20++(d_ 140 20++(d_ 160 13++(d_ 173 5++(d_ 178 19++(d_ 197 30++[])))))))))) env (.body bd env) ⟨247,0,272,21⟩ B)=some (at_ YP 1781 3128 w os).abs:=
 piece_app (n:=1103) (N:=M6) (segRun_of (p5 w os)) (r6 w os)
def M4:Nat:=1306+M5
def r4(w:World)(os:OsState):topRun treeTable pw w 11 (some (.ref 6)) M4 (at_ t3 92 417 w os).abs (restOf (d_ 43 33++(d_ 76 12++(d_ 88 7++(d_ 95 5++(d_ 100 20++(d_ 120 20++(d_ 140 20++(d_ 160 13++(d_ 173 5++(d_ 178 19++(d_ 197 30++[]))))))))))) env (.body bd env) ⟨53,0,53,8⟩ B)=some (at_ YP 1781 3128 w os).abs:=
 piece_app (n:=1306) (N:=M5) (segRun_of (p4 w os)) (r5 w os)
def M3:Nat:=413+M4
def r3(w:World)(os:OsState):topRun treeTable pw w 11 (some (.ref 6)) M3 (at_ t2 90 359 w os).abs (restOf (d_ 41 2++(d_ 43 33++(d_ 76 12++(d_ 88 7++(d_ 95 5++(d_ 100 20++(d_ 120 20++(d_ 140 20++(d_ 160 13++(d_ 173 5++(d_ 178 19++(d_ 197 30++[])))))))))))) env (.body bd env) ⟨51,0,51,13⟩ B)=some (at_ YP 1781 3128 w os).abs:=
 piece_app (n:=413) (N:=M4) (segRun_of (p3 w os)) (r4 w os)
def M2:Nat:=271+M3
def r2(w:World)(os:OsState):topRun treeTable pw w 11 (some (.ref 6)) M2 (at_ t1 90 299 w os).abs (restOf (d_ 11 30++(d_ 41 2++(d_ 43 33++(d_ 76 12++(d_ 88 7++(d_ 95 5++(d_ 100 20++(d_ 120 20++(d_ 140 20++(d_ 160 13++(d_ 173 5++(d_ 178 19++(d_ 197 30++[]))))))))))))) env (.body bd env) ⟨20,0,21,8⟩ B)=some (at_ YP 1781 3128 w os).abs:=
 piece_app (n:=271) (N:=M3) (segRun_of (p2 w os)) (r3 w os)
def M1:Nat:=1157+M2
def r1(w:World)(os:OsState):topRun treeTable pw w 11 (some (.ref 6)) M1 (at_ t0 15 187 w os).abs (restOf (d_ 0 11++(d_ 11 30++(d_ 41 2++(d_ 43 33++(d_ 76 12++(d_ 88 7++(d_ 95 5++(d_ 100 20++(d_ 120 20++(d_ 140 20++(d_ 160 13++(d_ 173 5++(d_ 178 19++(d_ 197 30++[])))))))))))))) env (.body bd env) ⟨0,0,0,0⟩ B)=some (at_ YP 1781 3128 w os).abs:=
 piece_app (n:=1157) (N:=M2) (segRun_of (p1 w os)) (r2 w os)
def ad2(w:World)(os:OsState):topRun treeTable pw w 11 (some (.ref 6)) M1 (at_ t0 15 187 w os).abs (restOf bd env (.body bd env) ⟨0,0,0,0⟩ B)=some (at_ YP 1781 3128 w os).abs:=by
 have h:=r1 w os
 rw[<-ZZ] at h
 exact h
def ac7(w:World)(os:OsState):segRun treeTable pw w 11 (some (.ref 6)) 1 1 (at_ t0 15 187 w os).abs (blockOf bd env (.body bd env) ⟨0,0,0,0⟩ B)=some (.next,(at_ t0 15 187 w os).abs,.body bd env,⟨0,0,0,0⟩):=by kernel_rfl
def af5(w:World)(os:OsState):topGo treeTable pw w 11 (some (.ref 6)) 12 ⟨boot_heap w.params,#[],boot_drawn,boot_toks,os⟩ (topStub pw)=some ((at_ t0 15 187 w os).abs,⟨denote treeTable (.body bd env),.body bd env,⟨0,0,0,0⟩,B⟩):=by
 rw[Fast.te15667345088766844465,Fast.te11892475500146522536,vx];kernel_rfl
def Mt:Nat:=12+(1+M1)
def af4(w:World)(os:OsState):topRun treeTable pw w 11 (some (.ref 6)) Mt ⟨boot_heap w.params,#[],boot_drawn,boot_toks,os⟩ (topStub pw)=some (at_ YP 1781 3128 w os).abs:=
 go_top (n:=12) (N:=1+M1) (af5 w os) (piece_block (n:=1) (N:=M1) (ac7 w os) (ad2 w os))
def q:Program:={pw with main:={pw.main with body:=[st 226]}}
noncomputable def loose:List Str:=(["_wall","LF_NOTYPE","LF_ENUM","W_SLOT","W_EMPTY","RuneError","BadKind","LoadFault","RunBound","LeftOut","VOID","BOOL","CHAR","I1","U1","I2","U2","I4","U4","I8","U8","NINT","OBJECT","STRING","NULLK","PRIM_END","R_PRIM","R_CLASS","R_VALUE","R_ARRAY","R_BYREF","R_VAR","R_MVAR","R_BOXED","R_ROREF","R_FTN","R_RAW","DEEPEST_KIND","HEAVIEST_KIND","PRIM_TID","TID_PRIM","ARRAY_TID","NULLABLE_TID","KindTable","inner_kinds","row_level","row_length","check_kind_row","check_named","check_args","may_stand","class_kind","prim_kind","kind_sort","elem_of","tid_of","args_of","is_value","is_var","close","close_in","with_inner","box_of","pick_arg","close_field","is_int","S_STRUCT","S_ENUM","VA_NONE","T_NULLABLE","T_NULLREF","T_CAST","TypeDef","Store","type_of","Diags","X_IS","X_AS","S_BLOCK","Var","Unit","X_HELD","MOST_NESTED","SAY_NULL","Thrown","Unheld","Item","Special","Act","Guard","EvExpr","Splits","Begins","Calls","Plot","count_step","go_deeper","next_number","eval_expr","kind_in","layout_in","is_question","new_item","new_words","block_number","block_lids","begin_block","lay_cells","cell_of","throw_new","throw_nothing","throw_item","row_taking","when_says","push_guard","drop_guards","item_is","V_I4","V_I8","V_NINT","V_REF","V_TEXT","NULLV","plain_kind","plain_default","CF_MESSAGE","Shape","Bed","kept_layout","is_struct","is_composed","default_of","default_parts","defaults_of","new_instance","error_item","SAY_CAST","box_value","unbox_value","from_reference","EvIs","take_variable","EvAs","FIRST_ADDRESS","HEAD_WORDS","LEAST_SIZE","words_for","Thing","Heap","heap_alloc","PlaceHost","JP_FALL","JP_STAY","ST_RUN","ST_WRONG","LOST","Frame","Op","Starter","KindCloser","FrameCloser","Tray","note_thrown","told_row","told_default","targs_of","closed_kind","closed_field","tell_wrong","pop_value","first_slots","OP_CASTCLASS","OP_ISINST","TEXT_CAST","is_of","cast_top","OpCast","OpIsInstance","install_m_casts","EvHeld","_law_NAMES","_law_PAIRS","_law_EDGES","_law_FIRST","_law_any","_law_refers","_law_plain","_law_value","_law_none","_law_source","_law_tagged","_law_goes","_law_from","_law_boxed","_law_written","_law_asked","_law_op","_law_held","_law_is","_law_as","_law_tried","_law_cast","_law_reference","_law_aim","_law_deed","_law_kinds","_law_types","_law_kin","_law_world","_law_settled"]:List String).map Str.ofString
def H1(P:Params):Heap:=absHeap (YP P) 1781 {}
def Yf(s:Shared):Heap×Nat:=(s.heap,s.toks)
def Ya(w:World):Heap×Nat:=(H1 w.params,3128)
def Xt(s:Shared):Bool:=xlAt q [] s && recOk (RowW.records PySem.Challenge.rw_up0021_01.row.toRowW) s
def open_(w:World):(fencedOpening treeTable pw w 20000).map (λs=>(s.heap,s.gens,s.drawn,s.toks))=some (boot_heap w.params,#[],boot_drawn,boot_toks):=
 boot_open (by kernel_rfl) (by decide) (λs=>by rfl) w
def ad0(w:World):((boot_heap w.params).isNs mainGlobals && (#[]:Array GenState).size == 0,(boot_heap w.params).objs.size,(boot_heap w.params).nsMap mainGlobals "__annotations__")=(true,11,some (.ref 6)):=by kernel_rfl
def ad9(w:World)(os:OsState):(staticsOk (importedModules pw.main.body) (boot_heap w.params) (H1 w.params) && namesBound pw (H1 w.params) && gensDone ⟨H1 w.params,#[],{},3128,os⟩ && laidKept (boot_heap w.params) (H1 w.params))=true:=by kernel_rfl
def ad8(w:World)(os:OsState):openSeen q loose (importedModules pw.main.body) Xt true ⟨H1 w.params,#[],{},3128,os⟩=openGood q loose:=by
 rw[Fast.te4187177175401517315];kernel_rfl
def ah6(w:World)(os:OsState):(at_ YP 1781 3128 w os).abs=⟨H1 w.params,#[],{},3128,os⟩:=by kernel_rfl
def ad1(w:World)(os:OsState):topRun treeTable pw w 11 (some (.ref 6)) Mt ⟨boot_heap w.params,#[],boot_drawn,boot_toks,os⟩ (topStub pw)=some ⟨H1 w.params,#[],{},3128,os⟩:=
 (af4 w os).trans (bl some (ah6 w os))
def ac0(w:World)(os:OsState):((staticsOk (importedModules pw.main.body) (boot_heap w.params) (H1 w.params) && namesBound pw (H1 w.params) && gensDone ⟨H1 w.params,#[],{},3128,os⟩ && laidKept (boot_heap w.params) (H1 w.params)),
    openSeen q loose (importedModules pw.main.body) Xt true ⟨H1 w.params,#[],{},3128,os⟩,Yf ⟨H1 w.params,#[],{},3128,os⟩)=(true,openGood q loose,Ya w):=by
 rw[ad9,ad8]
 exact bl (λz=>(true,openGood q loose,z)) (rfl:Yf ⟨H1 w.params,#[],{},3128,os⟩=Ya w)
def ae0:LeftO pw q loose Xt Yf Ya 20000:=
 LeftO.of_pieces (p:=pw) (q:=q) (loose:=loose) (Xt:=Xt) (Yf:=Yf) (Ya:=Ya) (N:=20000) (g0:=true) (H₀:=boot_heap) (H₁:=H1) (gs₀:=#[]) (gs₁:=#[]) (d₀:=boot_drawn) (d₁:={}) (k₀:=boot_toks) (k₁:=3128) (m₀:=11) (ann:=some (.ref 6)) (M:=Mt)
  open_ ad0 ad1 (by decide +kernel) (λw=>funext λos=>ac0 w os)
end Hd
end
section
open PySem PySem.W PySem.W.X PyProof.Rows PySem.Calls PySem.Spec
open Hd
def dl:DefRec:={name:=Str.ofString "law",params:=C_ (st 226),body:=bodyOf (st 226),scope:=n_ (st 226),pos:=⟨1306,0,1318,26⟩}
def RZ:defOf q PySem.Challenge.rw_up0021_01.row.name=some (dl,[]):=by kernel_rfl
def Yi:PySem.Challenge.rw_up0021_01.row.prog.theDef PySem.Challenge.rw_up0021_01.row.name=some (dl.params,dl.body,dl.scope):=by kernel_rfl
def Yj:kwWritten? dl.params.kwonlyargs dl.params.kw_defaults=some []:=by kernel_rfl
def X2:(chainsOk q && opensWell PySem.Challenge.rw_up0021_01.row.prog && (frees PySem.Challenge.rw_up0021_01.row.toRowW && PySem.Challenge.rw_up0021_01.row.within.isEmpty))=true:=by kernel_rfl
section
open TablesWhole
abbrev wH(m:Module):List Stmt->Bool:=wSs holds m.scope ⟨m.scope,[],[],[],none⟩ m.scope
abbrev wG(m:Module):List Str:=wSs gather m.scope ⟨m.scope,[],[],[],none⟩ m.scope m.body
theorem BQ{m}(b):∀a,wH m (a++b)=(wH m a && wH m b)
 | []=>rfl
 | s::a=>(bl (wS holds m.scope ⟨m.scope,[],[],[],none⟩ m.scope s && ·) (BQ b a)).trans (Bool.and_assoc ..).symm
def Qa{p:Program}(k:Nat)(h0:wG p.main=[])(h3:noTwice p.main.scope=true)(h1:wH p.main (p.main.body.take k)=true)(h2:wH p.main (p.main.body.drop k)=true)(e1:p.modules=[])(e2:p.parses=[])(e3:p.harvested=[]):p.tablesWhole=true:=by
 unfold Program.tablesWhole wProgram
 rw[e1,e2,e3]
 show(((true && (noTwice p.main.scope && (wSs holds p.main.scope ⟨p.main.scope,[],wG p.main,[],none⟩ p.main.scope p.main.body && true)))) && true)=true
 rw[h0,h3,<-List.take_append_drop k p.main.body]
 show(((true && (true && (wH p.main (_++_) && true)))) && true)=true
 rw[BQ,h1,h2]
 rfl
abbrev mP:=PySem.Challenge.pw_up0021_01.main
def Xq:wG mP=[]:=by kernel_rfl
def Xn:noTwice mP.scope=true:=by kernel_rfl
def Xp:wH mP (mP.body.take 100)=true:=by kernel_rfl
def Xo:wH mP (mP.body.drop 100)=true:=by kernel_rfl
end
def RY(Mj:PySem.Challenge.rw_up0021_01.wellSaid=true)
  (walk:WalkX q loose (XL q []) Yf Ya PySem.Challenge.rw_up0021_01.row.toRowW dl [] λf vs=>PySem.call f vs):PySem.Challenge.rw_up0021_01.Holds:=by
 refine holds_law Mj λk1=>?_
 have hw:PySem.Challenge.rw_up0021_01.row.toRowW.promised:=by w_witness2
 exact holds_openX (q:=q) (loose:=loose) (Xt:=Xt) (XP:=XL q []) (Yf:=Yf) (Ya:=Ya) (N:=20000) ae0
  (λs e=>xl_of s (Bool.and_eq_true_iff.mp e).1) XL.keeps RZ Yi Yj (λs e=>recFacts_of (Bool.and_eq_true_iff.mp e).2) (by rfl) k1 X2 ⟨rfl,rfl,rfl,rfl,rfl,Qa 100 Xq Xn Xp Xo rfl rfl rfl⟩ hw walk
end
section

variable{C A T:Prop}
def bC{P:Bool->Prop}(b:Bool)(true:P true)(false:P false):P b:=by cases b <;> assumption
def oC{α:Type _}{P:Option α->Prop}(o:Option α)(none:P none)(some:∀v,P (some v)):P o:=by
 cases o
 ·exact none
 ·exact some _
def lC{α:Type _}{P:List α->Prop}(l:List α)(nil:P [])(cons:∀a l,P (a::l)):P l:=by
 cases l
 ·exact nil
 ·exact cons _ _
def nC{P:Nat->Prop}(n:Nat)(zero:P 0)(succ:∀n,P (n+1)):P n:=by
 cases n
 ·exact zero
 ·exact succ _
def bT(h:false=true):C:=nomatch h
def bF(h:true=false):C:=nomatch h
def oN{α:Type _}{x:α}(h:(none:Option α)=some x):C:=nomatch h
def oS{α:Type _}{x:α}(h:some x=(none:Option α)):C:=nomatch h
def oI{α:Type _}{x y:α}(h:some x=some y):x=y:=j1 h
def Px{α:Type _}(f:α->Nat){a b:α}(h:a=b)(k:Nat.beq (f a) (f b)=false):C:=by
 subst h
 rw[mz] at k
 cases k
def bS{B:Prop}(h:A/\B)(k:A->B->T):T:=by obtain⟨a1,b1⟩:=h;exact k a1 b1
def bV{α:Sort _}{A:α->Prop}(h:∃x,A x)(k:∀x,A x->T):T:=by obtain⟨x,a1⟩:=h;exact k _ a1
def nJ{B:Prop}(h:A/\B/\C)(k:A->B->C->T):T:=by obtain⟨a1,b1,c1⟩:=h;exact k a1 b1 c1
def aH{α:Sort _}{A B:α->Prop}(h:∃x,A x/\B x)(k:∀x,A x->B x->T):T:=by obtain⟨x,a1,b1⟩:=h;exact k _ a1 b1
def xE{α β:Sort _}{A:α->β->Prop}(h:∃x y,A x y)(k:∀x y,A x y->T):T:=by obtain⟨x,y,a1⟩:=h;exact k _ _ a1
def Gk{B D:Prop}(h:A/\B/\C/\D)(k:A->B->C->D->T):T:=by obtain⟨a1,b1,c1,d1⟩:=h;exact k a1 b1 c1 d1
def lj{α:Sort _}{A B C:α->Prop}(h:∃x,A x/\B x/\C x)(k:∀x,A x->B x->C x->T):T:=by obtain⟨x,a1,b1,c1⟩:=h;exact k _ a1 b1 c1
def iR{α β:Sort _}{A B:α->β->Prop}(h:∃x y,A x y/\B x y)(k:∀x y,A x y->B x y->T):T:=by obtain⟨x,y,a1,b1⟩:=h;exact k _ _ a1 b1
def Xg{B D E:Prop}(h:A/\B/\C/\D/\E)(k:A->B->C->D->E->T):T:=by obtain⟨a1,b1,c1,d1,e1⟩:=h;exact k a1 b1 c1 d1 e1
def Uo{α:Sort _}{A B C D:α->Prop}(h:∃x,A x/\B x/\C x/\D x)(k:∀x,A x->B x->C x->D x->T):T:=by obtain⟨x,a1,b1,c1,d1⟩:=h;exact k _ a1 b1 c1 d1
def eC{α β:Sort _}{A B C:α->β->Prop}(h:∃x y,A x y/\B x y/\C x y)(k:∀x y,A x y->B x y->C x y->T):T:=by obtain⟨x,y,a1,b1,c1⟩:=h;exact k _ _ a1 b1 c1
def J9{α β γ:Sort _}{A B:α->β->γ->Prop}(h:∃x y z,A x y z/\B x y z)(k:∀x y z,A x y z->B x y z->T):T:=by obtain⟨x,y,z,a1,b1⟩:=h;exact k _ _ _ a1 b1
def Wl{α:Sort _}{A B C D E:α->Prop}(h:∃x,A x/\B x/\C x/\D x/\E x)(k:∀x,A x->B x->C x->D x->E x->T):T:=by obtain⟨x,a1,b1,c1,d1,e1⟩:=h;exact k _ a1 b1 c1 d1 e1
def Gs{α β:Sort _}{A B C D:α->β->Prop}(h:∃x y,A x y/\B x y/\C x y/\D x y)(k:∀x y,A x y->B x y->C x y->D x y->T):T:=by obtain⟨x,y,a1,b1,c1,d1⟩:=h;exact k _ _ a1 b1 c1 d1
def mE{α β γ:Sort _}{A B C:α->β->γ->Prop}(h:∃x y z,A x y z/\B x y z/\C x y z)(k:∀x y z,A x y z->B x y z->C x y z->T):T:=by obtain⟨x,y,z,a1,b1,c1⟩:=h;exact k _ _ _ a1 b1 c1
def TA{α β γ δ:Sort _}{A B:α->β->γ->δ->Prop}(h:∃x y z u,A x y z u/\B x y z u)(k:∀x y z u,A x y z u->B x y z u->T):T:=by obtain⟨x,y,z,u,a1,b1⟩:=h;exact k _ _ _ _ a1 b1
def Un{α β:Sort _}{A B C D E:α->β->Prop}(h:∃x y,A x y/\B x y/\C x y/\D x y/\E x y)(k:∀x y,A x y->B x y->C x y->D x y->E x y->T):T:=by obtain⟨x,y,a1,b1,c1,d1,e1⟩:=h;exact k _ _ a1 b1 c1 d1 e1
def BF{α β γ:Sort _}{A B C D:α->β->γ->Prop}(h:∃x y z,A x y z/\B x y z/\C x y z/\D x y z)(k:∀x y z,A x y z->B x y z->C x y z->D x y z->T):T:=by obtain⟨x,y,z,a1,b1,c1,d1⟩:=h;exact k _ _ _ a1 b1 c1 d1
def PS{α β γ δ:Sort _}{A B C:α->β->γ->δ->Prop}(h:∃x y z u,A x y z u/\B x y z u/\C x y z u)(k:∀x y z u,A x y z u->B x y z u->C x y z u->T):T:=by obtain⟨x,y,z,u,a1,b1,c1⟩:=h;exact k _ _ _ _ a1 b1 c1
def Um{α β γ:Sort _}{A B C D E:α->β->γ->Prop}(h:∃x y z,A x y z/\B x y z/\C x y z/\D x y z/\E x y z)(k:∀x y z,A x y z->B x y z->C x y z->D x y z->E x y z->T):T:=by obtain⟨x,y,z,a1,b1,c1,d1,e1⟩:=h;exact k _ _ _ a1 b1 c1 d1 e1
def li{α β γ δ:Sort _}{A B C D:α->β->γ->δ->Prop}(h:∃x y z u,A x y z u/\B x y z u/\C x y z u/\D x y z u)(k:∀x y z u,A x y z u->B x y z u->C x y z u->D x y z u->T):T:=by obtain⟨x,y,z,u,a1,b1,c1,d1⟩:=h;exact k _ _ _ _ a1 b1 c1 d1
@[elab_as_elim]theorem UO{P:Nat->Prop}{n:Nat}(h:n < 5)(h0:P 0)(h1:P 1)(h2:P 2)(h3:P 3)(h4:P 4):P n:=match n,h with
 | 0,_=>h0
 | 1,_=>h1
 | 2,_=>h2
 | 3,_=>h3
 | 4,_=>h4
def dc{α:Type _}{l:List α}{n:Nat}(h:l.length=n+1)(k:∀a t,l=a::t->t.length=n->C):C:=by
 rcases l with _|⟨a,t⟩
 ·exact nomatch h
 ·exact k a t rfl (Nat.succ.inj h)
end
section
inductive aA where
 | int (i:Int)
 | str (s:Str)
 | tup (l:List aA)
mutual
def aA.beq:aA->aA->Bool
 | .int a,.int b=>decide (a=b)
 | .str a,.str b=>decide (a=b)
 | .tup a,.tup b=>aA.ZG a b
 | _,_=>false
def aA.ZG:List aA->List aA->Bool
 | [],[]=>true
 | a::x,b::y=>aA.beq a b && aA.ZG x y
 | _,_=>false
end
mutual
theorem aA.eq_of_beq:∀{a b:aA},aA.beq a b=true->a=b
 | .int a,.int b,h=>by rw[mB (p:=a=b) h]
 | .str a,.str b,h=>by rw[mB (p:=a=b) h]
 | .tup a,.tup b,h=>by rw[aA.YH (a:=a) (b:=b) h]
 | .int _,.str _,h| .int _,.tup _,h| .str _,.int _,h| .str _,.tup _,h| .tup _,.int _,h| .tup _,.str _,h=>by exact bT h
theorem aA.YH:∀{a b:List aA},aA.ZG a b=true->a=b
 | [],[],_=>rfl
 | a::x,b::y,h=>by
  have h':(aA.beq a b && aA.ZG x y)=true:=h
  rw[s5] at h'
  rw[aA.eq_of_beq h'.1,aA.YH h'.2]
 | [],_::_,h|_::_,[],h=>by exact bT h
end
mutual
theorem aA.Zi:∀a:aA,aA.beq a a=true
 | .int a=>gJ rfl
 | .str a=>gJ rfl
 | .tup a=>aA.Y1 a
theorem aA.Y1:∀a:List aA,aA.ZG a a=true
 | []=>rfl
 | a::x=>by
  show(aA.beq a a && aA.ZG x x)=true
  rw[aA.Zi a,aA.Y1 x];rfl
end
instance:DecidableEq aA:=λa b=>match h:aA.beq a b with
 | true=>.isTrue (aA.eq_of_beq h)
 | false=>.isFalse λe=>by rw[e,aA.Zi] at h;exact bF h
mutual
def aA.hash(P:Params):aA->Int
 | .int i=>hashInt i
 | .str s=>PyData.keyHash P s
 | .tup l=>reduceHash (Builtin.Tuple.tupleHashOf (aA.hashes P l))
def aA.hashes(P:Params):List aA->List Int
 | []=>[]
 | a::l=>aA.hash P a::aA.hashes P l
end
mutual
def aA.draws:aA->Nat
 | .int _=>1
 | .str _=>1
 | .tup l=>aA.L_ l+1
def aA.L_:List aA->Nat
 | []=>0
 | a::l=>aA.draws a+aA.L_ l
end
inductive Ty where
 | int
 | str
 | tup (f:Nat->Ty)
def dY(T:Ty)(k:aA)(v:Value):Prop:=(∃i t,T=.int/\k=.int i/\v=.int i t)\/(∃x t,T=.str/\k=.str x/\v=.str x t)
inductive bz(R:Ty->aA->Value->Prop):(Nat->Ty)->List aA->List Value->Prop
 | nil {f}:bz R f [] []
 | cons {f k v l vs}:R (f 0) k v->bz R (λi=>f (i+1)) l vs->bz R f (k::l) (v::vs)
def bB(h:Heap):Nat->Ty->aA->Value->Prop
 | 0,T,k,v=>dY T k v
 | n+1,T,k,v=>dY T k v\/∃f l a o items m,T=.tup f/\k=.tup l/\v=.ref a/\h.get? a=some o/\o.cls=.type "tuple"/\o.data=.seq items m/\bz (bB h n) f l items.toList
@[elab_as_elim]theorem dY.el{P:Ty->aA->Value->Prop}{T k v}(x:dY T k v)(h:∀i t,P .int (.int i) (.int i t))(h':∀x t,P .str (.str x) (.str x t)):P T k v:=by
 rcases x with ⟨i,t,rfl,rfl,rfl⟩|⟨x,t,rfl,rfl,rfl⟩
 ·exact h i t
 ·exact h' x t
def dY.no{C:Prop}{T k a}(x:dY T k (.ref a)):C:=by
 rcases x with ⟨_,_,_,_,e⟩|⟨_,_,_,_,e⟩ <;> exact Px Value.ctorIdx e rfl
def dY.nt{C:Prop}{f k v}(x:dY (.tup f) k v):C:=by
 rcases x with ⟨_,_,e,_⟩|⟨_,_,e,_⟩ <;> exact nomatch e
def uM{T T' k k' v}(h:dY T k v)(h':dY T' k' v):k=k':=by
 rcases h with ⟨i,t,_,rfl,rfl⟩|⟨i,t,_,rfl,rfl⟩ <;> rcases h' with ⟨j,u,_,rfl,e⟩|⟨j,u,_,rfl,e⟩ <;> cases e <;> rfl
theorem bB.ref{h:Heap}{n T k a}{C:Prop}(x:bB h (n+1) T k (.ref a))(c:∀f l o items m,k=.tup l->h.get? a=some o->o.data=.seq items m->bz (bB h n) f l items.toList->C):C:=by
 rcases x with x|⟨f,l,b,o,items,m,_,e,e',ho,_,hd,hi⟩
 ·exact x.no
 ·exact c f l o items m e (nF e'▸ho) hd hi
@[elab_as_elim]theorem bB.el{h:Heap}{n:Nat}{P:Ty->aA->Value->Prop}{T k v}(x:bB h (n+1) T k v)(c:dY T k v->P T k v)(c':∀f l a o items m,h.get? a=some o->o.cls=.type "tuple"->o.data=.seq items m->bz (bB h n) f l items.toList->P (.tup f) (.tup l) (.ref a)):P T k v:=by
 rcases x with x|⟨f,l,a,o,items,m,rfl,rfl,rfl,ho,hc,hd,hi⟩
 ·exact c x
 ·exact c' f l a o items m ho hc hd hi
def qj{h:Heap}{n:Nat}(ih:∀{T T' k k' v},bB h n T k v->bB h n T' k' v->k=k'){f l vs}(x:bz (bB h n) f l vs):∀{f' l'},bz (bB h n) f' l' vs->l=l':=by
 induction x with
 | nil=>intro f' l' y;cases y;rfl
 | cons a b ih2=>intro f' l' y;cases y with|cons a' b'=>rw[ih a a',ih2 b']
def xR{h:Heap}{a:Addr}{o o':Obj}{xs ys:Array Value}{m m':Nat}(e:h.get? a=some o)(e':h.get? a=some o')(d:o.data=.seq xs m)(d':o'.data=.seq ys m'):xs=ys:=by
 rw[j1 (e.symm.trans e'),d'] at d
 injection d with d _
 exact d.symm
def bB.inj{h:Heap}{n}:∀{T T' k k' v},bB h n T k v->bB h n T' k' v->k=k':=by
 induction n with
 | zero=>exact uM
 | succ n ih=>
  intro T T' k k' v x
  refine bB.el x (λx y=>?_) λf l a o items m ho _ hd hi y=>y.ref λf' l' o' ac1 m' e G_ Q_ YL=>?_
  ·revert x;exact bB.el y (λy x=>uM x y) λ_ _ _ _ _ _ _ _ _ _ x=>x.no
  ·rw[e,qj ih hi (xR ho G_ hd Q_▸YL)]
def bz.imp{R R':Ty->aA->Value->Prop}(h:∀T k v,R T k v->R' T k v){f l vs}(x:bz R f l vs):bz R' f l vs:=by
 induction x with
 | nil=>exact .nil
 | cons a b ih=>exact .cons (h _ _ _ a) ih
def bB.heap{h h':Heap}(hh:∀a o items m,h.get? a=some o->o.data=.seq items m->h'.get? a=some o){n}:∀{T k v},bB h n T k v->bB h' n T k v:=by
 induction n with
 | zero=>exact λx=>x
 | succ n ih=>exact λx=>bB.el x (λx=>.inl x) λf l a o items m ho hc hd hi=>.inr ⟨f,l,a,o,items,m,rfl,rfl,rfl,hh _ _ _ _ ho hd,hc,hd,hi.imp λ_ _ _=>ih⟩
section
variable{prog:Program}{w:World}{A:Around}{E:Value->Shared->Prop}{s:Shared}{n:Nat}
def qr{T k v s}{Q:Int->Shared->Prop}(x:dY T k v):Q (k.hash w.params) {s with toks:=s.toks+k.draws}->wpAny (model prog w) A (pyHash v) Q E s:=
 dY.el x (λ_ _=>wpAny_pyHash_int) λ_ _=>wpAny_pyHash_str
def bz.ae3{R f l}(x:bz R f l []):l=[]:=by cases x;rfl
def bz.ae2{R f l v vs}{C:Prop}(x:bz R f l (v::vs))(c:∀k ks,l=k::ks->R (f 0) k v->bz R (λi=>f (i+1)) ks vs->C):C:=by
 cases x with|cons a b=>exact c _ _ rfl a b
def DK:∀{T:Ty} {k:aA} {v:Value} {A:Around} {E:Value->Shared->Prop} {s:Shared} {Q:Int->Shared->Prop},A.units+n<=cLine->bB s.heap n T k v->Q (k.hash w.params) {s with toks:=s.toks+k.draws}->
  wpAny (model prog w) A (pyHash v) Q E s:=by
 induction n with
 | zero=>exact λ_ x=>qr x
 | succ n ih=>
  intro T k v A E s Q hu x
  refine bB.el x (λx=>qr x) λf l a o items m ho hc hd hi q=>?_
  have hT:s.TypeIs (.ref a) "tuple":=⟨o,ho,hc⟩
  unfold pyHash
  first|unfold pyHashByItsType|skip
  first|refine bX (wpAny_cRoomFor_or (.inr (by lia)) ?_)|skip
  refine bX (wpAny_specialOf hT F.slot_tuple_hash.lookup ?_)
  show wpAny _ _ (if(some (Value.builtin "tuple.__hash__") == some Value.none)=true then _ else _) Q E s
  rw[if_neg (by rw[beq_builtin_none];exact Bool.false_ne_true)]
  refine bX (wpAny_specialOf hT F.slot_tuple_hash.lookup ?_)
  show wpAny _ _ (callSpecialIfBoundUnlessNone? (.ref a) "__hash__" _ >>= _) Q E s
  refine bX (wpAny_callSpecialIfBoundUnlessNone?_slot hT F.slot_tuple_hash (wpAny_call_entry F.slot_tuple_hash hT F.entry_tuple_hash ?_ (F.args_tuple_hash_1 _)))
  show wpAny _ _ (Builtin.Tuple.tupleItemsOf (.ref a) >>= _) _ _ s
  refine bX (wpAny_tupleItemsOf ho hd ?_)
  refine bX ?_
  rw[<-Array.forIn_toList]
  refine wpAny_forIn_list _
   (λrest (b:Array Int) s'=>∃left f' t,bz (bB s.heap n) f' left rest/\b.toList++aA.hashes w.params left=aA.hashes w.params l/\t+aA.L_ left=aA.L_ l/\s'={s with toks:=s.toks+t})
   _ (λx rest b s' h=>?_) (λb s' h=>?_) _ _ ⟨l,f,0,hi,rfl,eM _,rfl⟩
  ·refine BF h λleft f' t hl hb ht hs=>?_
   subst hs
   refine hl.ae2 λk ks e h1 Ze=>?_
   subst e
   refine bX (ih (show A.in1.units+n<=cLine by rw[units_in1];lia) h1 ?_)
   have fin:∃left f' t',bz (bB s.heap n) f' left rest/\(b.push (k.hash w.params)).toList++aA.hashes w.params left=aA.hashes w.params l/\t'+aA.L_ left=aA.L_ l/\({s with toks:=s.toks+t+k.draws}:Shared)={s with toks:=s.toks+t'}:=
    ⟨ks,_,t+k.draws,Ze,by rw[Array.toList_push,gK];exact hb,(Nat.add_assoc ..).trans ht,by rw[Nat.add_assoc]⟩
   first
    | exact dF fin
    | exact bX (dF (dF fin))
  ·refine BF h λleft f' t hl hb ht hs=>?_
   rw[hl.ae3,show aA.hashes w.params []=[] from rfl,gN] at hb
   rw[hl.ae3] at ht
   have ht:t=aA.L_ l:=ht
   show wpAny _ _ (retInt (Builtin.Tuple.tupleHashOf b.toList)) _ _ _
   rw[hs,hb,ht]
   refine wpAny_ret_mkInt ?_
   show wpAny _ _ (if(decide (-(2:Int) ^ 63<=Builtin.Tuple.tupleHashOf (aA.hashes w.params l)) && decide (Builtin.Tuple.tupleHashOf (aA.hashes w.params l) < 2 ^ 63))=true then _ else _) Q E _
   have q':Q (reduceHash (Builtin.Tuple.tupleHashOf (aA.hashes w.params l))) {s with toks:=s.toks+aA.L_ l+1}:=q
   unfold reduceHash at q'
   by_cases hr:(decide (-(2:Int) ^ 63<=Builtin.Tuple.tupleHashOf (aA.hashes w.params l)) && decide (Builtin.Tuple.tupleHashOf (aA.hashes w.params l) < 2 ^ 63))=true
   ·rw[if_pos hr]
    rw[if_pos hr] at q'
    exact dF q'
   ·rw[if_neg hr]
    rw[if_neg hr] at q'
    exact bX (wpAny_rule (dF q'))
def oU{d:Nat}{T k v s}{Q:Bool->Shared->Prop}(x:dY T k v)(q:Q true s):wpAny (model prog w) A (eqIsQuiet d v) Q E s:=by
 rw[eqIsQuiet_byValue d (dY.el (P:=λ_ _ v=>carriedByValue v=true) x (λ_ _=>rfl) λ_ _=>rfl)]
 exact dF q
def z0:∀{d:Nat} {T:Ty} {k:aA} {v:Value} {A:Around} {E:Value->Shared->Prop} {s:Shared} {Q:Bool->Shared->Prop},n<=d->bB s.heap n T k v->Q true s->
  wpAny (model prog w) A (eqIsQuiet d v) Q E s:=by
 induction n with
 | zero=>exact λ_ x q=>oU x q
 | succ n ih=>
  intro d T k v A E s Q Q_ x q
  refine bB.el x (λx=>oU x q) λf l a o items m ho hc hd hi=>?_
  have hT:s.TypeIs (.ref a) "tuple":=⟨o,ho,hc⟩
  induction d using nC with
  | zero=>exact absurd Q_ (Nat.not_succ_le_zero _)
  | succ d=>
  unfold eqIsQuiet
  refine bX (wpAny_specialOf hT F.slot_tuple_eq.lookup ?_)
  show wpAny _ _ (isInstance (.ref a) (.type "tuple") >>= _) _ _ s
  refine bX (wpAny_isInstance hT isSubtype_tuple_tuple ?_)
  simp only [Bool.not_true,zs,if_false]
  refine bX (wpAny_seqItems ho hd ?_)
  refine bX ?_
  show wpAny _ _ (forIn items _ _) _ _ s
  rw[<-Array.forIn_toList]
  refine wpAny_forIn_list _ (λrest r s'=>r.1=none/\s'=s/\∃f' left,bz (bB s.heap n) f' left rest) _ (λv rest r s' h=>?_) (λr s' h=>?_) _ _ ⟨rfl,rfl,_,_,hi⟩
  ·refine nJ h λhr hs hl=>xE hl λf' left hl=>hl.ae2 λk ks _ h1 Ze=>?_
   rw[hs]
   refine bX (ih (Nat.le_of_succ_le_succ Q_) h1 ?_)
   simp only [Bool.not_true,zs,if_false]
   exact dF ⟨rfl,rfl,_,_,Ze⟩
  ·refine nJ h λhr hs _=>?_
   obtain⟨r1,r2⟩:=r
   have hr:r1=none:=hr
   rw[hr,hs]
   exact dF q
def Wi(R:Ty->aA->Value->Prop)(b:Bool):List (Value×Value)->Bool->Prop
 | [],r=>r=b
 | z::l,r=>∃T k k' r',R T k z.1/\R T k' z.2/\Wi R b l r'/\r=(decide (k=k') && r')
def Ez(k k':aA)(l l':List aA):decide (k::l=k'::l')=(decide (k=k') && decide (l=l')):=by
 by_cases h:k=k'
 ·subst h
  by_cases e:l=l'
  ·subst e;rw[gJ rfl,gJ rfl,gJ rfl];rfl
  ·rw[jZ e,jZ λh=>e (List.cons.inj h).2,Bool.and_false]
 ·rw[jZ h,jZ λe=>h (List.cons.inj e).1];rfl
def Ot{R:Ty->aA->Value->Prop}{f x xs}(hx:bz R f x xs){b}:∀{y ys},bz R f y ys->(b=true↔xs.length=ys.length)->Wi R b (List.zip xs ys) (decide (x=y)):=by
 induction hx with
 | nil=>
  intro y ys hy hb
  cases hy with
  | nil=>exact(hb.mpr rfl).symm
  | cons _ _=>exact(Bool.eq_false_iff.mpr λe=>nomatch hb.mp e).symm
 | cons a _ ih=>
  intro y ys hy hb
  cases hy with
  | nil=>exact(Bool.eq_false_iff.mpr λe=>nomatch hb.mp e).symm
  | cons a' h'=>exact⟨_,_,_,_,a,a',ih h' ⟨λe=>Nat.succ.inj (hb.mp e),λe=>hb.mpr (bl Nat.succ e)⟩,Ez ..⟩
def ui{f:Nat->Ty}{x y:List aA}{a b:Addr}{A:Around}{P:Fin->Shared->Prop}{oa ob:Obj}{xs ys:Array Value}{na nb:Nat}
  (hoa:s.heap.get? a=some oa) (Zj:oa.data=.seq xs na) (hia:bz (bB s.heap n) f x xs.toList)
  (hob:s.heap.get? b=some ob) (hcb:ob.cls=.type "tuple") (hdb:ob.data=.seq ys nb) (hib:bz (bB s.heap n) f y ys.toList)
  (ih:∀{T k k' v v'} {Q:Bool->Shared->Prop},bB s.heap n T k v->bB s.heap n T k' v'->Q (decide (k=k')) s->wpAny (model prog w) A (eqBool v v') Q E s)
  (h:P (.done (.ret (.bool (decide (x=y))))) s):wpAny (model prog w) A (Builtin.«tuple.__eq__» ⟨[.ref a,.ref b],[]⟩) P E s:=by
 show wpAny _ _ (isInstance (.ref b) (.type "tuple") >>= _) _ _ s
 refine bX (wpAny_isInstance ⟨ob,hob,hcb⟩ isSubtype_tuple_tuple ?_)
 simp only [Bool.not_true,zs,if_false]
 refine bX (wpAny_tupleItemsOf hoa Zj ?_)
 refine bX (wpAny_tupleItemsOf hob hdb ?_)
 refine bX ?_
 refine wpAny_forIn_list _ (λrest r s'=>r.1=none/\s'=s/\Wi (bB s.heap n) (xs.size == ys.size) rest (decide (x=y)))
  _ (λz rest r s' h'=>?_) (λr s' h'=>?_) _ _ ⟨rfl,rfl,Ot hia hib cS⟩
 ·refine nJ h' λhr hs hz=>li hz λT k k' r' h1 h2 hl e=>?_
  rw[hs]
  obtain⟨u,v⟩:=z
  refine bX (ih h1 h2 ?_)
  by_cases hk:k=k'
  ·rw[gJ hk] at e ⊢
   simp only [Bool.not_true,zs,if_false]
   exact dF ⟨rfl,rfl,by rw[e];exact hl⟩
  ·rw[jZ hk] at e ⊢
   simp only [Bool.not_false,if_true]
   rw[e] at h
   exact bX (dF (dF (dF h)))
 ·refine nJ h' λhr hs hz=>?_
  obtain⟨r1,r2⟩:=r
  have hr:r1=none:=hr
  have hz:decide (x=y)=(xs.size == ys.size):=hz
  rw[hz] at h
  rw[hr,hs]
  exact dF h
def yP{T k k' v v'}{Q:Bool->Shared->Prop}(x:dY T k v):dY T k' v'->Q (decide (k=k')) s->wpAny (model prog w) A (eqBool v v') Q E s:=by
 refine dY.el x (λi t y q=>?_) λx t y q=>?_
 ·rcases y with ⟨j,u,_,rfl,rfl⟩|⟨_,_,e,_⟩
  ·refine wpAny_eqBool_int ?_
   rw[show(i == j)=decide (aA.int i=aA.int j) from decide_eq_decide.mpr ⟨bl _,λe=>by injection e⟩]
   exact q
  ·exact nomatch e
 ·rcases y with ⟨_,_,e,_⟩|⟨y,u,_,rfl,rfl⟩
  ·exact nomatch e
  ·refine wpAny_eqBool_str ?_
   rw[show decide (x=y)=decide (aA.str x=aA.str y) from decide_eq_decide.mpr ⟨bl _,λe=>by injection e⟩]
   exact q
def Ny:∀{T:Ty} {k k':aA} {v v':Value} {A:Around} {E:Value->Shared->Prop} {s:Shared} {Q:Bool->Shared->Prop},A.units+n<=cLine->bB s.heap n T k v->bB s.heap n T k' v'->Q (decide (k=k')) s->
  wpAny (model prog w) A (eqBool v v') Q E s:=by
 induction n with
 | zero=>exact λ_ x y q=>yP x y q
 | succ n ih=>
  intro T k k' v v' A E s Q hu x
  refine bB.el x (λx y q=>?_) λf l a o items m ho hc hd hi y q=>?_
  ·revert x q;exact bB.el y (λy x q=>yP x y q) λ_ _ _ _ _ _ _ _ _ _ x _=>x.nt
  rcases y with y|⟨f',l',b,o',ac1,m',e,e1,e2,G_,hc',Q_,YL⟩
  ·exact y.nt
  rw[<-(show f=f' by injection e)] at YL
  rw[e1] at q
  rw[e2]
  unfold eqBool
  try with_reducible refine wpAny_holding ?_
  show wpAny _ _ (if(Value.ref a == Value.ref b)=true then _ else _) Q E s
  rw[show decide (aA.tup l=aA.tup l')=decide (l=l') from decide_eq_decide.mpr ⟨λe=>by injection e,bl _⟩] at q
  by_cases hab:(Value.ref a == Value.ref b)=true
  ·rw[if_pos hab]
   rw[<-nF (eq_of_beq hab)] at G_
   rw[gJ (qj bB.inj hi (xR ho G_ hd Q_▸YL))] at q
   exact bX (wpAny_rule (dF q))
  ·rw[if_neg hab]
   have hTa:s.TypeIs (.ref a) "tuple":=⟨o,ho,hc⟩
   have hTb:s.TypeIs (.ref b) "tuple":=⟨o',G_,hc'⟩
   exact bX (wpAny_richCompare_same_room (op:=.Eq) hTa hTb F.slot_tuple_eq
    (wpAny_call_entry F.slot_tuple_eq hTa F.entry_tuple_eq (ui ho hd hi G_ hc' Q_ YL (λx y q=>ih (by rw[units_in1];omega) x y q) ⟨_,rfl,nofun,wpAny_truthy_bool q⟩) (F.args_tuple_eq_2 _ _)) (by omega))
end
def qS(prog:Program)(w:World)(f:Nat->Ty):HeapKind prog w aA where
 is:=λh k a=>bB h 3 (.tup f) k (.ref a)
 hash:=aA.hash w.params
 draws:=aA.draws
 room:=λA=>A.units+3<=cLine
 inj:=λx y=>bB.inj x y
 keeps:=λx ho hd hs=>x.heap λb o' items m G_ Q_=>(hs.2 b (λe=>by
  subst e
  obtain rfl:=j1 (G_.symm.trans ho)
  rw[hd] at Q_;exact nomatch Q_)).trans G_
 pyHash:=λhu hk h=>DK hu hk h
 eqBool:=λhu hx hy h=>Ny hu hx hy h
 quiet:=λhk h=>z0 (by decide) hk h
end
section
open PySem PySem.W PyProof.Rows PySem.Calls PySem.Builtin PySem.Builtin.ObjectAttr
structure Ue(bm:List Value):Prop where
 e:bm.contains (.type "Exception")=true
 b:bm.contains (.type "BaseException")=true
 a:bm.contains (.type "AttributeError")=false
 n:bm.contains (.type "NameError")=false
def FX:ExcBaseFacts "Exception" "Exception.__new__" "Exception.__init__" [.type "Exception",.type "BaseException",.type "object"]:=PySem.F.excBase_Exception
section
variable{prog:Program}{w:World}{A:Around}{E:Value->Shared->Prop}{R:Result->Shared->Prop}{h:Heap}{g:Array GenState}{d:Drawn}{t:Nat}{os:OsState}
variable{nm q:Str}{C N:Addr}{bs bm:List Value}{Zh:Bool}{sn:List Str}{sub:List Value}{ab:Bool}{col:Option Bool}{dd:Option Addr}{k0 k1 k2 k3 k5:Option Value}
def Q0(B:Ue bm){rest:List Value}(hC:h.get? C=some (excClassObj nm q C N bs bm Zh sn sub ab col dd k0 k1 k2 k3 k5 "Exception.__new__"))
  (hq:R (.ok (.ret (.ref (h.objs.size+1)))) ⟨(h.push {cls:=.type "tuple",data:=.seq rest.toArray}).push
   {cls:=.ref C,data:=.fields #[.ref h.objs.size,.none,.none,.none,.bool false,.none]},g,d,t,os⟩) (Zr:rest.length<=sizeLine):
  codeAny (model prog w) A (.builtin "Exception.__new__" ⟨.ref C::rest,[]⟩) R ⟨h,g,d,t,os⟩:=by
 have ai0:=FX.ends
 have hcB:(Value.ref C::bm).contains (.type "Exception")=true:=by rw[Br,B.e,Bool.or_true]
 have hcA:(Value.ref C::bm).contains (.type "AttributeError")=false:=by rw[Br,B.a];rfl
 have hcN:(Value.ref C::bm).contains (.type "NameError")=false:=by rw[Br,B.n];rfl
 refine codeAny_builtinAt FX.entry ?_
 unfold Builtin.«BaseException.__new__»
 refine PySem.wpAt_bind ?_
 show PySem.wpAt _ _ _ (stack >>= _) _ _ _
 refine PySem.wpAt_bind (PySem.wpAt_stack λp below=>PySem.wpAt_of_wpAny ?_)
 wp_walk
 refine PySem.wpAt_of_wpAny ?_
 rw[FX.owner]
 repeat (first|with_reducible refine wpAny_madeHere_exc FX.canon hC ?_|with_reducible refine zr hC ?_|(with_reducible refine wpAny_isSubtype_exc hC ?_;first|rewrite[hcB]|rewrite[hcA]|rewrite[hcN])|wp_step)
 show R _ _
 rw[Heap.size_push]
 exact hq
abbrev r_(C a:Addr):Obj:={cls:=.ref C,data:=.fields #[.ref a,.none,.none,.none,.bool false,.none]}
def ti(B:Ue bm){rest:List Value}{init:Value}{Q:Fin->Shared->Prop}(hC:h.get? C=some (excClassObj nm q C N bs bm Zh sn sub ab col dd k0 k1 k2 k3 k5 "Exception.__new__"))
  (hi:Looks (model prog w) h (typeLookup (.ref C) "__init__") (some init)) (hb:∀self,Looks (model prog w) h (bindSpecial init self) (init,[self]))
  (hq:wpAny (model prog w) A (call init (.ref (h.objs.size+1)::rest)) (λr s'=>r=.none/\Q (.done (.ret (.ref (h.objs.size+1)))) s') E ⟨(h.push {cls:=.type "tuple",data:=.seq rest.toArray}).push (r_ C h.objs.size),g,d,t,os⟩) (Zr:rest.length<=sizeLine):
  wpAny (model prog w) A (Builtin.«type.__call__» ⟨.ref C::rest,[]⟩) Q E ⟨h,g,d,t,os⟩:=by
 repeat (first|with_reducible refine zr hC ?_|with_reducible refine wpAny_madeBy_exc hC ?_|wp_step)
 refine codeAny_call_builtin_code (Code.quiet_builtin _ FX.quiet) (wpAny_check_new_subU FX B.e .base hC ?_)
 refine Q0 B hC ?_ Zr
 show wpAny _ _ _ _ _ _
 have k:∀b o,h.get? b=some o->((h.push {cls:=.type "tuple",data:=.seq rest.toArray}).push (r_ C h.objs.size)).get? b=some o:=λb o e=>s9 _ (s9 _ e)
 have R3:=s9 {cls:=.ref C,data:=.fields #[.ref h.objs.size,.none,.none,.none,.bool false,.none]}
  (s9 {cls:=.type "tuple",data:=.seq rest.toArray} hC)
 have YT:((h.push {cls:=.type "tuple",data:=.seq rest.toArray}).push
   {cls:=.ref C,data:=.fields #[.ref h.objs.size,.none,.none,.none,.bool false,.none]}).get? (h.objs.size+1)=some
   {cls:=.ref C,data:=.fields #[.ref h.objs.size,.none,.none,.none,.bool false,.none]}:=by heap_get
 have hcC:(Value.ref C::bm).contains (.ref C)=true:=by simp
 have i1:=hi.keeps k
 have b1:=(hb (.ref (h.objs.size+1))).keeps k
 unfold isInstance
 repeat (first|with_reducible refine zr YT ?_|(with_reducible refine wpAny_isSubtype_exc R3 ?_;rw[hcC])|wp_step)
 show wpAny _ _ (typeLookup (.ref C) _) _ _ _
 refine i1.at ?_
 refine wpAny_holding (bX (b1.at ?_))
 refine bX (wpAny_mono hq (λr s' hr=>?_) λ_ _ x=>x)
 refine bS hr λJ_ hQ=>?_;obtain rfl:=J_
 wp_walk
 exact hQ
def MT(B:Ue bm){rest:List Value}{init:Value}{Q:Value->Shared->Prop}(hC:h.get? C=some (excClassObj nm q C N bs bm Zh sn sub ab col dd k0 k1 k2 k3 k5 "Exception.__new__"))
  (hi:Looks (model prog w) h (typeLookup (.ref C) "__init__") (some init)) (hb:∀self,Looks (model prog w) h (bindSpecial init self) (init,[self]))
  (hq:wpAny (model prog w) (A.under (.builtin "type.__call__" ⟨.ref C::rest,[]⟩)) (call init (.ref (h.objs.size+1)::rest)) (λr s'=>r=.none/\Q (.ref (h.objs.size+1)) s') E ⟨(h.push {cls:=.type "tuple",data:=.seq rest.toArray}).push (r_ C h.objs.size),g,d,t,os⟩) (Zr:rest.length<=sizeLine):
  wpAny (model prog w) A (call (.ref C) rest) Q E ⟨h,g,d,t,os⟩:=by
 have f1:=tc_lookup
 have f2:=tc_bind (.ref C)
 have hT:(⟨h,g,d,t,os⟩:Shared).TypeIs (.ref C) "type":=⟨_,hC,rfl⟩
 refine wpAny_call (codeAny_of_tree ?_)
 show wpAny _ _ (callAny (.ref C) _) _ _ _
 repeat (any_goals (first|assumption|with_reducible refine zr hC ?_|wp_step))
 refine⟨rfl,?_⟩
 exact codeAny_call_builtin_at (Code.quiet_builtin _ (by decide +kernel)) entry_typeCall (wpAny_check_type_call_sub hC (ti B hC hi hb (wpAny_mono hq (λ_ _ x=>x) λ_ _ x=>x) Zr))
end
def qY(l:List Value):Bool:=List.rec false (λv r g=>match v with
 | .ref _=>g
 | .type n=>n == "Exception" && r == [.type "BaseException",.type "object"]
 | _=>false) l
def vY(self:Value)(l:List Value):qY l=true->refuseLoop self "__setattr__" l=pure ():=by
 induction l with
 | nil=>exact nofun
 | cons v r ih=>
  intro h
  induction v using Value.casesOn with
  | ref a=>rw[refuseLoop_ref];exact ih h
  | type n=>
   have h:(n == "Exception" && r == [.type "BaseException",.type "object"])=true:=h
   rw[s5] at h
   rw[cS.mp h.1,cS.mp h.2]
   exact PySem.F.store_Exception.passes self
  | _=>exact bT h
def IV(l:List Value):qY l=true->l.contains (.type "object")=true:=by
 induction l with
 | nil=>exact nofun
 | cons v r ih=>
  intro h
  induction v using Value.casesOn with
  | ref a=>rw[Br,ih h,Bool.or_true]
  | type n=>
   have h:(n == "Exception" && r == [.type "BaseException",.type "object"])=true:=h
   rw[s5] at h
   rw[cS.mp h.2];exact List.elem_eq_true_of_mem (.tail _ (.tail _ (.head _)))
  | _=>exact bT h
def kU(K:Frag)(C:Addr):Bool:=(clsIn K C).any λcd=>qY cd.mro
section
variable{prog:Program}{w:World}{A:Around}{K:Frag}{C x:Addr}{s:Shared}{h₀:Heap}{L:Addr}{m:Str->Option Value}{news:List (Addr×Obj)}{R:Result->Shared->Prop}
def qa{ox:Obj}{od:Option Obj}{name:Str}{tk:Tok}{v:Value}{r:Option Value}(X:K.In s.heap)(I:InstAt s.heap x ox C od)(hp:kU K C=true)(ht:takerIn K C name=some r)
  (h:∀b,wpAny (model prog w) A.in1 (match r with|some a=>setByDescriptor a (.ref x) v|none=>storeInOwnDict (.ref x) (.ref C) (.str name tk) name v b)
   (λfin s'=>match fin with| .done f=>R (.ok f) s'| .again c'=>c'.quiet=true/\codeAny (model prog w) A c' R s') (λe s'=>R (.error e) s') s):
  codeAny (model prog w) A (.call (.builtin "object.__setattr__") ⟨[.ref x,.str name tk,v],[]⟩) R s:=by
 have SF:=PySem.F.store_object
 refine aH (any_some hp) λcd hc ho=>?_
 have ne:cd.mro.isEmpty=false:=by induction q:cd.mro using lC with|nil=>rw[q] at ho;exact bT ho|cons _ _=>rfl
 have sub:Looks (model prog w) s.heap (isInstance (.ref x) (.type "object")) true:=I.type.andThen (looks_mroIn X (by unfold mroIn;rw[hc,Option.bind_some,if_neg (by rw[ne];decide),IV _ ho]))
 refine codeAny_call_builtin SF.slot.plain SF.entry (@check_slot (model prog w) _ _ s "object.__setattr__" "object" "__setattr__" (.ref x) [.str name tk,v] [] _ SF.kind SF.split sub (SF.args (.ref x) (.str name tk) v) ?_)
 refine aH (cU ht) λattr ha hr=>?_
 have hm:Looks (model prog w) s.heap (mroOf (.ref C)) cd.mro:=(looks_clsIn X hc).andThen .now
 have L3:Looks (model prog w) s.heap (storeTaker? attr) r:=by
  rcases attr with _|a
  ·obtain rfl:=oI hr;exact .now
  ·refine aH (fp hr) λb hb X_=>?_;obtain rfl:=X_
   refine(looks_takesIn X hb).andThen ?_
   induction b using bC <;> exact .now
 rw[osa_eq,refuse_eq]
 refine bX (bX (I.type.here (bX (hm.here ?_))))
 rw[vY _ _ ho]
 refine dF (bX (I.type.here (bX ((looks_findIn X ha).here (bX (L3.here ?_))))))
 exact h _
def wh{name:Str}{od:Obj}(hl:(lookIn name od).isSome=true):∃(es:Array DictEntry) (n:Nat),od.data=.dict es n/\(!es.any (·.key.isStr name) && es.any (·.refKey))=false:=by
 unfold lookIn at hl
 generalize od.data=d at hl ⊢
 induction d using Data.casesOn with
 | dict es n=>
  refine⟨es,n,rfl,?_⟩
  rw[<-Array.any_toList,<-Array.any_toList]
  by_cases h:es.toList.any (λx:DictEntry=>x.key.isStr name)=true
  ·rw[h];rfl
  ·have hl:(match es.toList.find? (λx:DictEntry=>x.key.isStr name) with
    | some e=>some (some e.val)
    | none=>if es.toList.any (·.refKey) then none else some none).isSome=true:=hl
   rw[List.find?_eq_none.mpr λx hx hk=>h (List.any_eq_true.mpr ⟨x,hx,hk⟩)] at hl
   by_cases k:es.toList.any (λx:DictEntry=>x.refKey)=true
   ·exact bT (by rwa [k] at hl)
   ·rw[Bool.eq_false_iff.mpr k,Bool.and_false]
 | _=>exact bT hl
def tA{A':Around}{Q:Fin->Shared->Prop}{E:Value->Shared->Prop}{od ZH:Obj}{dx:Addr}{name:Str}{tk:Tok}{v:Value}{pre post:List (Addr×Obj)}{es:List DictEntry}{n:Nat}(F:Fr h₀ L s.heap m)(N:News h₀ L s.heap (pre++(dx,od)::post))
  (hl:(lookIn name od).isSome=true) (h1:∀p∈pre,p.1≠dx) (h2:∀p∈post,p.1≠dx)
  (e:Obj.putName name (PyData.keyHash w.params name) (.str name s.toks) v od=ZH) (e':ZH.data=.dict es.toArray n) (hz:es.length<=1000)
  (h:∀h',Fr h₀ L h' m->News h₀ L h' (pre++(dx,ZH)::post)->Q (.done (.ret .none)) {s with heap:=h',toks:=s.toks+1}):
  wpAny (model prog w) A' (storeInDict dx (.str name tk) name v) Q E s:=by
 refine bS (news_upd (f:=Obj.putName name (PyData.keyHash w.params name) (.str name s.toks) v) F N h1 h2 e (by obtain⟨_,_,dd,_⟩:=ZH;subst e';rfl)) λU1 U2=>?_
 have D':=(U2 _ (j0 _ (.head _))).1
 refine iR (wh hl) λWZ X5 q c=>?_
 refine bX (dF (bX ?_))
 unfold nsSet
 refine bX (bX (wpAny_askSetting (dF (bX (wpAny_mkText (bX (wpAny_loadPart (N _ (j0 _ (.head _))).1 ?_)))))))
 rw[q]
 dsimp only
 rw[aRefKeyMayBeTheName_at,c]
 refine wpAny_updatePart (N _ (j0 _ (.head _))).1 ?_
 refine bX (wpAny_lookBehind D' (by rw[e'];exact pastItsLine_dict (by rw[iJ];exact dK hz (by decide))) ?_)
 exact dF (h _ U1 U2)
def zH{A:Around}{E:Value->Shared->Prop}{Q:Unit->Shared->Prop}{ox od ZH:Obj}{dx:Addr}{name:Str}{v:Value}{pre post:List (Addr×Obj)}{es:List DictEntry}{n:Nat}(F:Fr h₀ L s.heap m)(N:News h₀ L s.heap (pre++(dx,od)::post))(X:K.In s.heap)
  (I:InstAt s.heap x ox C (some od)) (hd:ox.dict=some dx) (hs:findIn K (.ref C) "__setattr__" =some (some (.builtin "object.__setattr__"))) (hp:kU K C=true) (ht:takerIn K C name=some none) (hh:hasDictIn K C=true)
  (hl:(lookIn name od).isSome=true) (h1:∀p∈pre,p.1≠dx) (h2:∀p∈post,p.1≠dx)
  (e:Obj.putName name (PyData.keyHash w.params name) (.str name (s.toks+1)) v od=ZH) (e':ZH.data=.dict es.toArray n) (hz:es.length<=1000)
  (h:∀h',Fr h₀ L h' m->News h₀ L h' (pre++(dx,ZH)::post)->Q () {s with heap:=h',toks:=s.toks+2}):wpAny (model prog w) A (setAttr (.ref x) name v) Q E s:=by
 refine set_plain X I hs (qa (s:={s with toks:=s.toks+1}) X I hp ht λb=>?_)
 refine aH (any_some hh) λcd hc Q_=>?_
 obtain⟨hx,hcl,hn,_⟩:=I
 obtain⟨oc,odi,oda,osl⟩:=ox
 dsimp only at hcl hd
 subst hcl hd
 refine bX (dF (bX (bX (wpAny_loadPart hx (bX (looks_clsIn X hc _ _ _ _ (λ_ _ e=>e) ?_))))))
 rw[Q_]
 refine dF (a:=some dx) ?_
 exact tA (s:={s with toks:=s.toks+1}) F N hl h1 h2 e e' hz h
@[elab_as_elim]theorem MN{P:Obj->Prop}{c:Value}{o:Obj}(h:o.cls=c)(h':o.dict=none)(k:∀d s,P ⟨c,none,d,s⟩):P o:=by
 obtain⟨a,b,d,s⟩:=o
 dsimp only at h h'
 subst h h'
 exact k d s
def Ce{A:Around}{E:Value->Shared->Prop}{Q:Unit->Shared->Prop}{ox ZH:Obj}{name:Str}{v:Value}{pre post:List (Addr×Obj)}{es:List DictEntry}{n:Nat}(F:Fr h₀ L s.heap m)(N:News h₀ L s.heap (pre++(x,ox)::post))(X:K.In s.heap)
  (hcl:ox.cls=.ref C) (hn:notCls ox=true) (hd:ox.dict=none) (hf:∀d,({ox with dict:=some d}:Obj).isFreed=false) (hs:findIn K (.ref C) "__setattr__" =some (some (.builtin "object.__setattr__"))) (hp:kU K C=true) (ht:takerIn K C name=some none) (hh:hasDictIn K C=true)
  (h1:∀p∈pre,p.1≠x) (h2:∀p∈post,p.1≠x)
  (e:Obj.putName name (PyData.keyHash w.params name) (.str name (s.toks+1)) v emptyDict=ZH) (e':ZH.data=.dict es.toArray n) (hz:es.length<=1000)
  (h:∀h' d,(∀z∈pre++(x,ox)::post,z.1 < d)->Fr h₀ L h' m->News h₀ L h' ((d,ZH)::(pre++(x,{ox with dict:=some d})::post))->Q () {s with heap:=h',toks:=s.toks+2}):wpAny (model prog w) A (setAttr (.ref x) name v) Q E s:=by
 revert N hn hf h
 refine MN hcl hd λoda osl N hn hf h=>?_
 have hx:=(N _ (j0 _ (.head _))).1
 have I:InstAt s.heap x _ C none:=⟨hx,rfl,hn,trivial⟩
 refine set_plain X I hs (qa (s:={s with toks:=s.toks+1}) X I hp ht λb=>?_)
 refine aH (any_some hh) λcd hc Q_=>?_
 have F1:=F.push emptyDict
 have N1:=N.push F emptyDict
 have YF:x < s.heap.objs.size:=my hx
 refine bS (news_upd (pre:=(s.heap.objs.size,emptyDict)::pre) (f:=λo=>{o with dict:=some s.heap.objs.size}) F1 N1 (λp hp=>(dL.mp hp).elim (λq=>by rw[q];exact Nat.ne_of_gt YF) (h1 p)) h2 rfl (hf _)) λF2 N2=>?_
 have hx1:=s9 emptyDict hx
 have fresh:∀z∈pre++(x,_)::post,z.1 < s.heap.objs.size:=λz hz=>my (N z hz).1
 have hnc:∀c,oda≠.cls c:=λc q=>by rw[q] at hn;exact bT hn
 refine bX (dF (bX (bX (wpAny_loadPart hx (bX (looks_clsIn X hc _ _ _ _ (λ_ _ e=>e) ?_))))))
 rw[Q_]
 have go:wpAny (model prog w) A.in1 (do
   let d<-alloc emptyDict
   update x λo=>{o with dict:=some d}
   dictMade (.ref C) x d) (λa s'=>wpAny (model prog w) A.in1 (match a with
    | some d=>storeInDict d (Value.str name s.toks) name v
    | none=>noDictFor (Value.ref x) (Value.ref C) name b) (λfin s'=>match fin with
     | .done f=>(match (.ok f:Result) with| .ok (.ret _)=>Q () s'| .ok _=>False| .error e=>E e s')
     | .again c'=>c'.quiet=true/\codeAny (model prog w) A c' (λr s'=>match r with| .ok (.ret _)=>Q () s'| .ok _=>False| .error e=>E e s') s') (λe s'=>E e s') s') (λe s'=>E e s') {s with toks:=s.toks+1}:=by
  refine bX (wpAny_alloc (bX (wpAny_update hx1 (dF ?_))))
  refine tA (s:={s with heap:=_,toks:=s.toks+1}) (pre:=[]) (post:=pre++(x,{cls:=.ref C,dict:=some s.heap.objs.size,data:=oda,slots:=osl})::post) F2 N2 rfl (λ_ h=>nomatch h) (λp hp=>?_) e e' hz λh' F' N'=>h h' _ fresh F' N'
  refine λq=>?_
  refine(sY.mp hp).elim (λhp=>?_) λhp=>(dL.mp hp).elim (λhp=>?_) λhp=>?_
  ·exact absurd q (Nat.ne_of_lt (my (N p (j5 _ hp)).1))
  ·rw[hp] at q;exact absurd q (Nat.ne_of_lt YF)
  ·exact absurd q (Nat.ne_of_lt (my (N p (j0 _ (.tail _ hp))).1))
 clear h fresh N2 F2 hx1 N1 hx N hf hn
 induction oda using Data.casesOn with
 | cls c=>exact absurd rfl (hnc c)
 | _=>exact go
end
section
variable{prog:Program}{w:World}{A:Around}{K:Frag}{C x:Addr}{s:Shared}{E:Value->Shared->Prop}{Q:Value->Shared->Prop}
def IJ:builtinKind "BaseException.__getattribute__" =some .slot:=by decide +kernel
def Eg:splitId "BaseException.__getattribute__" =some ("BaseException","__getattribute__"):=by decide +kernel
def Eh:plainId "BaseException.__getattribute__" =true:=by decide +kernel
def IK(self:Value):bindSpecial (.builtin "BaseException.__getattribute__") self=pure (.builtin "BaseException.__getattribute__",[self]):=by kernel_rfl
def Vm{ox:Obj}{od:Option Obj}{name:Str}{v:Value}{expr:Bool}(X:K.In s.heap)(I:InstAt s.heap x ox C od)(hga:findIn K (.ref C) "__getattribute__" =some (some (.builtin "BaseException.__getattribute__")))(hgt:findIn K (.ref C) "__getattr__" =some none)
  (hb:mroIn K C (.type "BaseException")=some true) (hf:findObj K C od name=some (.value v)) (hh:handedIn v=true) (h:Q v {s with toks:=s.toks+1}):wpAny (model prog w) A (getAttr (.ref x) name expr) Q E s:=by
 obtain⟨hp,g,d,t,os⟩:=s
 have L0:=I.type (M:=model prog w)
 have L1:=looks_findIn (M:=model prog w) X hga
 have L2:=looks_findIn (M:=model prog w) X hgt
 have L3:=looks_find (M:=model prog w) X I hf
 have L4:Looks (model prog w) hp (isInstance (.ref x) (.type "BaseException")) true:=L0.andThen (looks_mroIn X hb)
 have f3:=IK (.ref x)
 have hx0:(expr && onTheHeap (Value.builtin "BaseException.__getattribute__"))=false:=by induction expr using bC <;> rfl
 have hx2:(Value.builtin "BaseException.__getattribute__" == Value.builtin "object.__getattribute__")=false:=by decide +kernel
 have hx1:(onTheHeap (Value.ref C) && Value.builtin "BaseException.__getattribute__" == Value.builtin "object.__getattribute__")=false:=by rw[hx2];rfl
 unfold getAttr
 refine bX (wpAny_mkText ?_)
 unfold getAttrBy
 refine wpAny_holding (bX (L0.at (bX (L1.at ?_))))
 dsimp only
 rw[hx1]
 unfold getAttrByItsOwn
 repeat (any_goals (first|assumption|with_reducible refine L0.at ?_|with_reducible refine L1.at ?_|with_reducible refine L2.at ?_|wp_step))
 refine codeAny_call_builtin Eh PySem.F.entry_bexc_ga (@check_slot (model prog w) _ _ _ "BaseException.__getattribute__" "BaseException" "__getattribute__" (.ref x) [.str name t] [] _ IJ Eg L4 (PySem.F.args_bexc_ga _ _) ?_)
 repeat (any_goals (first|assumption|with_reducible refine L0.at ?_|with_reducible refine L3.at ?_|wp_step))
 show wpAny _ _ (handedOut v) _ _ _
 rw[handedOut_of hh]
 exact dF h
end
inductive LE(K:Frag)(C:Addr):Prop
 | mk (nm q N bs bm Zh sn sub ab col dd k0 k1 k2 k3 k5) (h:K.lookup C=some (excClassObj nm q C N bs bm Zh sn sub ab col dd k0 k1 k2 k3 k5 "Exception.__new__")) (B:Ue bm):LE K C
structure A6(K:Frag)(C f:Addr):Prop where
 at_:LE K C
 find:findIn K (.ref C) "__init__" =some (some (.ref f))
 fn:isFn K (.ref f)=true
 keep:keepIn K (.ref C)=true
 ga:findIn K (.ref C) "__getattribute__" =some (some (.builtin "BaseException.__getattribute__"))
 gt:findIn K (.ref C) "__getattr__" =some none
 base:mroIn K C (.type "BaseException")=some true
 sa:findIn K (.ref C) "__setattr__" =some (some (.builtin "object.__setattr__"))
 over:kU K C=true
 dict:hasDictIn K C=true
end
section
section
variable{α:Type}{C:Prop}
abbrev ob(o:Option α)(f:α->Bool):Bool:=Option.rec false f o
def oi(o:Option α)(f:α->Bool)(y:Bool):Bool:=Option.rec y f o
def bb(b x:Bool):Bool:=Bool.rec false x b
def bi(b x y:Bool):Bool:=Bool.rec y x b
def ay{o:Option α}{f:α->Bool}(h:ob o f=true)(k:∀x,o=some x->f x=true->C):C:=match o with
 | .none=>nomatch h
 | some x=>k x rfl h
def bq{o:Option α}{f:α->Bool}{y:Bool}(h:oi o f y=true)(k:∀x,o=some x->f x=true->C)(k':o=.none->y=true->C):C:=match o with
 | .none=>k' rfl h
 | some x=>k x rfl h
def ag{b x:Bool}(h:bb b x=true)(k:b=true->x=true->C):C:=match b with
 | true=>k rfl h
 | false=>nomatch h
def bH{b x y:Bool}(h:bi b x y=true)(k:b=true->x=true->C)(k':b=false->y=true->C):C:=match b with
 | true=>k rfl h
 | false=>k' rfl h
end
def aj{α:Type}{x:α}{C:Prop}(h:(Option.none:Option α)=some x):C:=nomatch h
def ff{C:Prop}(h:false=true):C:=nomatch h
def ae{α:Type}{P:α->Prop}:∀p∈([]:List α),P p:=λ_ h=>nomatch h
noncomputable def hU:List Nat->Nat
 | []=>0
 | c::r=>match Nat.ble c 126 with
  | true=>Nat.succ c+128 * hU r
  | false=>128 * (2 ^ c * (2 * hU r+1))
def code(s:Str):Nat:=hU s.cps.toList
theorem xH:∀(c d x y:Nat),2 ^ c * (2 * x+1)=2 ^ d * (2 * y+1)->c=d/\x=y
 | 0,0,x,y,h=>by simp at h;lia
 | 0,d+1,x,y,h=>by
  exfalso
  rw[Nat.pow_zero,Nat.one_mul,Nat.pow_succ,Nat.mul_comm (2 ^ d) 2,Nat.mul_assoc] at h
  lia
 | c+1,0,x,y,h=>by
  exfalso
  rw[Nat.pow_zero,Nat.one_mul,Nat.pow_succ,Nat.mul_comm (2 ^ c) 2,Nat.mul_assoc] at h
  lia
 | c+1,d+1,x,y,h=>by
  rw[Nat.pow_succ,Nat.pow_succ,Nat.mul_comm (2 ^ c) 2,Nat.mul_assoc,Nat.mul_comm (2 ^ d) 2,Nat.mul_assoc] at h
  have:=xH c d x y (by lia)
  lia
theorem qv:∀a b:List Nat,hU a=hU b->a=b
 | [],[],_=>rfl
 | [],c::r,h=>by
  have h2:2 ^ c * (2 * hU r+1)≠0:=Nat.mul_ne_zero (by have:=Nat.two_pow_pos c;lia) (by lia)
  have h':0=hU (c::r):=h
  rw[hU] at h'
  split at h' <;> lia
 | c::r,[],h=>by
  have h2:2 ^ c * (2 * hU r+1)≠0:=Nat.mul_ne_zero (by have:=Nat.two_pow_pos c;lia) (by lia)
  have h':hU (c::r)=0:=h
  rw[hU] at h'
  split at h' <;> lia
 | c::r,d::q,h=>by
  rw[hU,hU] at h
  have ih:=qv r q
  split at h
  ·rename_i hc
   have hc':=fu hc
   split at h
   ·rename_i hd
    have Q_:=fu hd
    obtain rfl:c=d:=by lia
    rw[ih (by lia)]
   ·lia
  ·split at h
   ·rename_i hd
    have Q_:=fu hd
    lia
   ·refine bS (xH c d _ _ (Nat.eq_of_mul_eq_mul_left (by decide:0 < 128) h)) λJ_ e=>?_;obtain rfl:=J_
    rw[ih e]
def gi{a b:Str}:code a=code b↔a=b:=by
 constructor
 ·intro h
  have:=qv _ _ h
  cases a;cases b
  simp only [Str.mk.injEq]
  exact Array.toList_inj.mp this
 ·rintro rfl;rfl
def fN{a b:Str}(h:a≠b):code a≠code b:=λe=>h (gi.mp e)
inductive SE where
 | lit (i:Int)
 | at (n:Nat)
 | add (a b:SE)
 | sub (a b:SE)
 | mul (a b:SE)
 | fdiv (a b:SE)
 | mod (a b:SE)
 | wrap (a:SE)
noncomputable def SE.ev(ν:Nat->Int):SE->Int
 | .lit i=>i
 | .at n=>ν n
 | .add a b=>a.ev ν+b.ev ν
 | .sub a b=>a.ev ν - b.ev ν
 | .mul a b=>a.ev ν * b.ev ν
 | .fdiv a b=>(a.ev ν).fdiv (b.ev ν)
 | .mod a b=>(a.ev ν).fmod (b.ev ν)
 | .wrap a=>if a.ev ν > 2147483647 then a.ev ν - 4294967296 else a.ev ν
inductive V where
 | none
 | bool (b:Bool)
 | int (i:Int)
 | sym (e:SE)
 | any
 | clo (k:Int)
 | b_ (n:Nat)
 | Y8 (l:List (Int×V))
 | rng (a b:SE)
 | str (s:Str)
 | tup (l:List V)
 | ref (k:Nat)
 | glob (a:Addr)
 | bi (id:String)
 | ty (n:String)
 | fls (l:List V)
 | fin (C:Addr) (l:List (Nat×V))
 | pat (n:Nat)
def V.S_(m:Nat)(v:V):Bool:=V.rec (motive_1:=λ_=>Bool) (motive_2:=λ_=>Bool) (motive_3:=λ_=>Bool) (motive_4:=λ_=>Bool) (motive_5:=λ_=>Bool) (motive_6:=λ_=>Bool)
 true (λ_=>true) (λ_=>true) (λ_=>true) true (λ_=>true) (λ_=>true) (λ_ f=>f) (λ_ _=>true) (λ_=>true) (λ_ f=>f) (λk=>Nat.blt k m) (λ_=>true) (λ_=>true) (λ_=>true) (λ_ f=>f) (λ_ _ f=>f) (λ_=>false)
 true (λ_ _ f g=>bb f g) true (λ_ _ f g=>bb f g) true (λ_ _ f g=>bb f g) (λ_ _ f=>f) (λ_ _ f=>f) v
abbrev V.h_(v:V):Bool:=v.S_ 0
def iM{α:Type}(a b:List α):Prop:=∃r,b=a++r
abbrev Ro:=List (Addr×Addr)
abbrev fh:=List (Addr×Obj)
structure Sg where
 ν:Nat->Int
 ω:Nat->V
 γ:Nat->List V
 δ:Nat->Int->Option V
 β:Nat->Bool
 z:Nat->Nat
 clo:Int->Int->Prop
 π:Nat->Ro->fh->Nat->fh->Prop
 cω:∀n,(ω n).h_=true
 cγ:∀g v,v∈γ g->v.h_=true
 cδ:∀g x v,δ g x=some v->v.h_=true
 πm:∀{n ρ Y9 I I' k x},π n ρ I k x->(∀p,ρ[k]? =some p->Y9[k]? =some p)->(∀y∈I,y∈I')->π n Y9 I' k x
inductive KD where
 | int (e:SE)
 | str (s:Str)
 | tup (l:List KD)
mutual
def KD.ev(ν:Nat->Int):KD->aA
 | .int e=>.int (e.ev ν)
 | .str s=>.str s
 | .tup l=>.tup (KD.Z7 ν l)
def KD.Z7(ν:Nat->Int):List KD->List aA
 | []=>[]
 | a::l=>KD.ev ν a::KD.Z7 ν l
end
mutual
def aA.toV:aA->V
 | .int i=>.int i
 | .str s=>.str s
 | .tup l=>.tup (aA.Zy l)
def aA.Zy:List aA->List V
 | []=>[]
 | a::l=>aA.toV a::aA.Zy l
end
inductive AO where
 | gone
 | t_ (n:Nat)
 | lst (l:List V)
 | v_ (g:Nat) (post:List V)
 | di (l:List (SE×V)) (g:Option Nat)
 | dc (l:List (Int×V×Option Bool))
 | ds (l:List (Nat×V))
 | dt (t:Nat) (l:List (KD×Option Nat×V))
 | inst (C:Addr) (l:List (Nat×V))
 | exc (C:Addr) (l:List (Nat×V))
abbrev cL:=List (Nat×V)
abbrev Hp:=List AO
abbrev PC:=List (Nat×Bool)
structure Sy where
 pc:PC
 H:Hp
structure Cx where
 w:World
 K:Frag
 σ:Sg
 mg:Str->Option Value
 mb:Str->Option Value
structure Pt where
 ρ:Ro
 I:fh
 τ:Nat->Value->Prop
structure Le(p q:Pt):Prop where
 ρ:iM p.ρ q.ρ
 I:∀x∈p.I,x∈q.I
 τ:q.τ=p.τ
def iM.refl{α:Type}(l:List α):iM l l:=⟨[],(gN l).symm⟩
def iM.trans{α:Type}{x y z:List α}(h:iM x y)(k:iM y z):iM x z:=match h,k with
 | ⟨r,e⟩,⟨r',e'⟩=>⟨r++r',by rw[e',e,gK]⟩
def iM.get{α:Type}{a b:List α}(h:iM a b){k:Nat}{x:α}(e:a[k]? =some x):b[k]? =some x:=match h with
 | ⟨r,e'⟩=>by rw[e',qI (oD e).1];exact e
theorem Le.refl(p:Pt):Le p p:=⟨iM.refl _,λ_ h=>h,rfl⟩
theorem Le.trans{p q r:Pt}(h:Le p q)(k:Le q r):Le p r:=⟨h.ρ.trans k.ρ,λx hx=>k.I x (h.I x hx),k.τ.trans h.τ⟩
abbrev cJ(vs:List Value)(n:Nat):Obj:={cls:=.type "list",data:=.seq vs.toArray n}
abbrev lu(vs:List Value)(n:Nat):Obj:={cls:=.type "tuple",data:=.seq vs.toArray n}
def nB(c:Cx)(p:Pt)(a:Addr)(o:Obj):Prop:=(a,o)∈p.I\/c.K.lookup a=some o
mutual
inductive RV(c:Cx)(p:Pt):V->Value->Prop
 | none:RV c p .none .none
 | bool (b):RV c p (.bool b) (.bool b)
 | int (i t):RV c p (.int i) (.int i t)
 | sym (e t):RV c p (.sym e) (.int (e.ev c.σ.ν) t)
 | any {u}:handedIn u=true->RV c p .any u
 | clo {k i} (t):c.σ.clo k i->RV c p (.clo k) (.int i t)
 | b_ {n u}:RV c p (c.σ.ω n) u->RV c p (.b_ n) u
 | rng {a b x t u v}:nB c p x {cls:=.type "range",dict:=none,data:=.fields #[.int (a.ev c.σ.ν) t,.int (b.ev c.σ.ν) u,.int 1 v],slots:=#[]}->RV c p (.rng a b) (.ref x)
 | Y8 {l a es n}:nB c p a (dictOf es n)->(a == sysModules)=false->vw c p l es->(l.map (·.1)).Nodup->RV c p (.Y8 l) (.ref a)
 | str (s t):RV c p (.str s) (.str s t)
 | tup {l a items n}:nB c p a (lu items n)->bG c p l items->RV c p (.tup l) (.ref a)
 | ref {k a d}:p.ρ[k]? =some (a,d)->RV c p (.ref k) (.ref a)
 | glob {a o}:c.K.lookup a=some o->RV c p (.glob a) (.ref a)
 | bi (id):handedIn (.builtin id)=true->RV c p (.bi id) (.builtin id)
 | ty (n):RV c p (.ty n) (.type n)
 | fls {l a items n}:nB c p a (cJ items n)->bG c p l items->RV c p (.fls l) (.ref a)
 | fin {C l a d es n}:nB c p a (instObj C d)->nB c p d (dictOf es n)->RA c p l es->RV c p (.fin C l) (.ref a)
 | pat {n u}:p.τ n u->handedIn u=true->RV c p (.pat n) u
inductive bG(c:Cx)(p:Pt):List V->List Value->Prop
 | nil:bG c p [] []
 | cons {v x l r}:RV c p v x->bG c p l r->bG c p (v::l) (x::r)
inductive vw(c:Cx)(p:Pt):List (Int×V)->List DictEntry->Prop
 | nil:vw c p [] []
 | cons {i t v u l es}:RV c p v u->vw c p l es->vw c p ((i,v)::l) (⟨hashInt i,.int i t,u⟩::es)
inductive RA(c:Cx)(p:Pt):List (Nat×V)->List DictEntry->Prop
 | nil:RA c p [] []
 | cons {x t v u l es}:RV c p v u->RA c p l es->RA c p ((code x,v)::l) (⟨PyData.keyHash c.w.params x,.str x t,u⟩::es)
end
variable{c:Cx}{p q:Pt}
def nB.mono{a:Addr}{o:Obj}(h:nB c p a o)(l:Le p q):nB c q a o:=h.imp (l.I _) id
theorem RV.mono(l:Le p q){v x}(h:RV c p v x):RV c q v x:=
 RV.rec (motive_1:=λv u _=>RV c q v u) (motive_2:=λl us _=>bG c q l us) (motive_3:=λl es _=>vw c q l es) (motive_4:=λl es _=>RA c q l es)
  .none .bool .int .sym .any .clo (λ_ h=>.b_ h) (λh=>.rng (h.mono l)) (λh lo _ n ih=>.Y8 (h.mono l) lo ih n) .str (λh _ ih=>.tup (h.mono l) ih) (λh=>.ref (l.ρ.get h)) .glob .bi .ty (λh _ ih=>.fls (h.mono l) ih) (λh h2 _ ih=>.fin (h.mono l) (h2.mono l) ih) (λh h2=>.pat (l.τ▸h) h2)
  .nil (λ_ _ h1 h2=>.cons h1 h2) .nil (λ_ _ h1 h2=>.cons h1 h2) .nil (λ_ _ h1 h2=>.cons h1 h2) h
def Tp(c:Cx)(p:Pt)(us:List Value):List V->Prop
 | []=>us=[]
 | v::l=>∃u r,us=u::r/\RV c p v u/\bG c p l r
def bG.inv{l us}(h:bG c p l us):Tp c p us l:=bG.casesOn (motive_2:=λl us _=>Tp c p us l) h rfl λh r=>⟨_,_,rfl,h,r⟩
def Tq(c:Cx)(p:Pt)(es:List DictEntry):List (Int×V)->Prop
 | []=>es=[]
 | x::l=>∃t u r,es=⟨hashInt x.1,.int x.1 t,u⟩::r/\RV c p x.2 u/\vw c p l r
def vw.inv{l es}(h:vw c p l es):Tq c p es l:=vw.casesOn (motive_3:=λl es _=>Tq c p es l) h rfl λh r=>⟨_,_,_,rfl,h,r⟩
def Xb(c:Cx)(p:Pt)(es:List DictEntry):List (Nat×V)->Prop
 | []=>es=[]
 | x::l=>∃y t u r,x.1=code y/\es=⟨PyData.keyHash c.w.params y,.str y t,u⟩::r/\RV c p x.2 u/\RA c p l r
def RA.inv{l es}(h:RA c p l es):Xb c p es l:=RA.casesOn (motive_4:=λl es _=>Xb c p es l) h rfl λh r=>⟨_,_,_,_,rfl,rfl,h,r⟩
theorem bG.mono(l:Le p q){v}:∀{x},bG c p v x->bG c q v x:=by
 induction v with
 | nil=>intro x h;rw[h.inv];exact .nil
 | cons v r ih=>intro x h;refine eC h.inv λu r e h t=>?_;rw[e];exact .cons (h.mono l) (ih t)
theorem RA.mono(l:Le p q){v}:∀{x},RA c p v x->RA c q v x:=by
 induction v with
 | nil=>intro x h;rw[h.inv];exact .nil
 | cons v r ih=>intro x h;refine li h.inv λy t u r e e' h t=>?_;obtain⟨v1,v2⟩:=v;subst e;rw[e'];exact .cons (h.mono l) (ih t)
def Wc(c:Cx)(p:Pt)(u:Value):V->Prop
 | .none=>u=.none
 | .bool b=>u=.bool b
 | .int i=>∃t,u=.int i t
 | .sym e=>∃t,u=.int (e.ev c.σ.ν) t
 | .any=>handedIn u=true
 | .clo k=>∃i t,c.σ.clo k i/\u=.int i t
 | .b_ n=>RV c p (c.σ.ω n) u
 | .rng a b=>∃x t t' v,u=.ref x/\nB c p x {cls:=.type "range",dict:=none,data:=.fields #[.int (a.ev c.σ.ν) t,.int (b.ev c.σ.ν) t',.int 1 v],slots:=#[]}
 | .Y8 l=>∃a es n,u=.ref a/\nB c p a (dictOf es n)/\(a == sysModules)=false/\vw c p l es/\(l.map (·.1)).Nodup
 | .str s=>∃t,u=.str s t
 | .tup l=>∃a items n,u=.ref a/\nB c p a (lu items n)/\bG c p l items
 | .ref k=>∃a d,u=.ref a/\p.ρ[k]? =some (a,d)
 | .glob a=>u=.ref a/\∃o,c.K.lookup a=some o
 | .bi id=>u=.builtin id/\handedIn u=true
 | .ty n=>u=.type n
 | .fls l=>∃a items n,u=.ref a/\nB c p a (cJ items n)/\bG c p l items
 | .fin C l=>∃a d es n,u=.ref a/\nB c p a (instObj C d)/\nB c p d (dictOf es n)/\RA c p l es
 | .pat n=>p.τ n u/\handedIn u=true
def RV.inv{v u}(h:RV c p v u):Wc c p u v:=
 RV.casesOn (motive_1:=λv u _=>Wc c p u v) h rfl (λ_=>rfl) (λ_ t=>⟨t,rfl⟩) (λ_ t=>⟨t,rfl⟩) (λh=>h) (λt h=>⟨_,t,h,rfl⟩) (λh=>h) (λh=>⟨_,_,_,_,rfl,h⟩) (λh h2 h3 h4=>⟨_,_,_,rfl,h,h2,h3,h4⟩) (λ_ t=>⟨t,rfl⟩) (λh h2=>⟨_,_,_,rfl,h,h2⟩)
  (λh=>⟨_,_,rfl,h⟩) (λh=>⟨rfl,_,h⟩) (λ_ h=>⟨rfl,h⟩) (λ_=>rfl) (λh h2=>⟨_,_,_,rfl,h,h2⟩) (λh h2 h3=>⟨_,_,_,_,rfl,h,h2,h3⟩) λh h2=>⟨h,h2⟩
def RV.handed{v u}(h:RV c p v u):handedIn u=true:=
 RV.rec (motive_1:=λv u _=>handedIn u=true) (motive_2:=λl us _=>True) (motive_3:=λl es _=>True) (motive_4:=λl es _=>True)
  rfl (λ_=>rfl) (λ_ _=>rfl) (λ_ _=>rfl) (λh=>h) (λ_ _=>rfl) (λ_ h=>h) (λ_=>rfl) (λ_ _ _ _ _=>rfl) (λ_ _=>rfl) (λ_ _ _=>rfl) (λ_=>rfl) (λ_=>rfl) (λ_ h=>h) (λ_=>rfl) (λ_ _ _=>rfl) (λ_ _ _ _=>rfl) (λ_ h=>h)
  .intro (λ_ _ _ _=>.intro) .intro (λ_ _ _ _=>.intro) .intro (λ_ _ _ _=>.intro) h
end
section
variable{c:Cx}{p q:Pt}{kx:Nat->Sy->Bool}
def cB(σ:Sg):List (SE×V)->Option Nat->Int->Option V
 | [],.none,_=>.none
 | [],some g,x=>σ.δ g x
 | (e,v)::r,g,x=>if e.ev σ.ν=x then some v else cB σ r g x
def eL(σ:Sg):Option Nat->Bool
 | .none=>true
 | some n=>σ.β n
def dD(σ:Sg):List (KD×Option Nat×V)->aA->Option V
 | [],_=>.none
 | (k,c,v)::r,x=>if k.ev σ.ν=x/\eL σ c=true then some v else dD σ r x
def cZ:List (Int×V×Option Bool)->Int->Option (V×Option Bool)
 | [],_=>.none
 | (k,v)::r,x=>if k=x then some v else cZ r x
def look{α:Type}(x:Nat):List (Nat×α)->Option α
 | []=>.none
 | (y,v)::r=>if y=x then some v else look x r
def put{α:Type}(x:Nat)(v:α):List (Nat×α)->List (Nat×α)
 | []=>[(x,v)]
 | (y,u)::r=>if y=x then(y,v)::r else(y,u)::put x v r
def au(c:Cx)(p:Pt)(x:Option V)(y:Option Value):Prop:=match x,y with
 | some v,some u=>RV c p v u
 | .none,.none=>True
 | _,_=>False
def bE(c:Cx)(p:Pt)(x:Option (V×Option Bool))(y:Option Value):Prop:=match x with
 | .none=>y=.none
 | some (v,some true)=>au c p (some v) y
 | some (_,some false)=>y=.none
 | some (v,.none)=>y=.none\/au c p (some v) y
theorem au.mono(l:Le p q):∀{x y},au c p x y->au c q x y
 | some _,some _,h=>RV.mono l h
 | .none,.none,h=>h
 | some _,.none,h=>h
 | .none,some _,h=>h
theorem bE.mono(l:Le p q):∀{x y},bE c p x y->bE c q x y
 | .none,_,h=>h
 | some (_,some true),_,h=>au.mono l h
 | some (_,some false),_,h=>h
 | some (_,.none),_,h=>h.imp id (au.mono l)
abbrev PW:=PySem.Challenge.pw_up0021_01
def gz(σ:Sg):Option Nat->Nat
 | .none=>0
 | some g=>σ.z g
def BO:Nat->Nat->Ty
 | 0,_=>.int
 | 1,_=>.str
 | _,2=>.tup λ_=>.int
 | _,_=>.int
def yQ:Ty->aA->Bool
 | .int,.int _=>true
 | .str,.str _=>true
 | _,_=>false
noncomputable def pV(R:Ty->aA->Bool):(Nat->Ty)->List aA->Bool
 | _,[]=>true
 | f,k::l=>R (f 0) k && pV R (λi=>f (i+1)) l
def zy:Nat->Ty->aA->Bool
 | 0,T,k=>yQ T k
 | n+1,T,k=>match T,k with
  | .tup f,.tup l=>pV (zy n) f l
  | T,k=>yQ T k
def eF(p:Pt)(k:Nat)(f:Addr->Addr->Prop):Prop:=∃a d,p.ρ[k]? =some (a,d)/\f a d
def eF.gt{k a d f}(h:eF p k f)(e:p.ρ[k]? =some (a,d)):f a d:=h.elim λx h=>h.elim λy h=>by
 have q:=fI (oI (e.symm.trans h.1))
 rw[q.1,q.2];exact h.2
def eF.mono{k f g}(l:Le p q)(h:eF p k f)(w:∀a d,f a d->g a d):eF q k g:=h.elim λa h=>h.elim λd h=>⟨a,d,l.ρ.get h.1,w a d h.2⟩
def LX(c:Cx)(p:Pt)(l:List V)(x:fh)(a:Addr):Prop:=∃vs n,bG c p l vs/\x=[(a,cJ vs n)]
theorem LX.mono{l x a}(m:Le p q)(h:LX c p l x a):LX c q l x a:=h.elim λvs h=>h.elim λn h=>⟨vs,n,h.1.mono m,h.2⟩
def IX(c:Cx)(p:Pt)(C:Addr)(l:List (Nat×V))(x:fh)(a d:Addr):Prop:=∃es n,RA c p l es/\x=[(a,instObj C d),(d,dictOf es n)]
theorem IX.mono{C l x a d}(m:Le p q)(h:IX c p C l x a d):IX c q C l x a d:=h.elim λes h=>h.elim λn h=>⟨es,n,h.1.mono m,h.2⟩
inductive EX(c:Cx)(p:Pt)(C:Addr)(l:List (Nat×V))(x:fh)(a:Addr):Prop
 | mk (es:List DictEntry) (oe:Obj) (vs:Array Value) (dl:fh) (hR:RA c p l es) (hc:oe.cls=.ref C) (hd:oe.data=.fields vs) (h0:∃t,vs[0]? =some t) (ZW:(oe.dict=none/\es=[]/\dl=[])\/∃d n,oe.dict=some d/\dl=[(d,dictOf es n)])
  (hx:(vs[1]? =some .none/\x=(a,oe)::dl)\/∃T oT ts,vs[1]? =some (.ref T)/\oT.data=.fields ts/\(∃f,ts[3]? =some f)/\x=(a,oe)::(T,oT)::dl):EX c p C l x a
theorem EX.mono{C l x a}(m:Le p q)(h:EX c p C l x a):EX c q C l x a:=h.casesOn λes oe vs dl hR hc hd h0 ZW hx=>⟨es,oe,vs,dl,hR.mono m,hc,hd,h0,ZW,hx⟩
def DX{κ:Type}(x:fh)(a:Addr)(F:Obj->List κ->Prop)(n:Nat)(G:List κ->Prop):Prop:=(a == sysModules)=false/\∃o xs,x=[(a,o)]/\F o xs/\xs.length<=n/\G xs
def DX.imp{κ:Type}{x a F n}{G G':List κ->Prop}(h:DX x a F n G)(g:∀xs,G xs->G' xs):DX x a F n G':=⟨h.1,h.2.elim λo h=>h.elim λxs h=>⟨o,xs,h.1,h.2.1,h.2.2.1,g xs h.2.2.2⟩⟩
def JY(w:World)(t:Nat)(o:Obj)(xs:List (aA×Addr×Value)):Prop:=o.ExactDict/\(xs.map (·.1)).Nodup/\∃es ep,o.data=.dict es ep/\es.toList=xs.map (entryOfKey (qS PW w (BO t)))
def RO(c:Cx)(p:Pt)(k:Nat)(x:fh):AO->Prop
 | .gone=>x=[]
 | .t_ n=>c.σ.π n p.ρ p.I k x
 | .lst l=>eF p k λa _=>LX c p l x a
 | .v_ g post=>eF p k λa _=>LX c p (c.σ.γ g++post) x a
 | .inst C l=>eF p k λa d=>IX c p C l x a d
 | .exc C l=>eF p k λa _=>EX c p C l x a
 | .di l g=>eF p k λa _=>DX x a (Obj.IsDictOf (intKind PW c.w)) (l.length+gz c.σ g) λxs=>∀x,au c p (cB c.σ l g x) (valueAt xs x)
 | .dc l=>eF p k λa _=>DX x a (Obj.IsDictOf (intKind PW c.w)) l.length λxs=>∀x,bE c p (cZ l x) (valueAt xs x)
 | .ds l=>eF p k λa _=>DX x a (Obj.IsDictOf (strKind PW c.w)) l.length λxs=>∀x,au c p (look (code x) l) (valueAt xs x)
 | .dt t l=>eF p k λa _=>DX x a (JY c.w t) l.length λxs=>(∀x∈xs,RV c p x.1.toV (.ref x.2.1)/\zy 3 (.tup (BO t)) x.1=true)/\∀x,au c p (dD c.σ l x) ((atKey xs x).map (·.2))
theorem RO.mono(l:Le p q){k x}{o}(h:RO c p k x o):RO c q k x o:=match o with
 | .gone=>h
 | .t_ _=>c.σ.πm h (λ_ e=>l.ρ.get e) l.I
 | .lst _| .v_ _ _=>eF.mono l h λ_ _ h=>h.mono l
 | .inst _ _=>eF.mono l h λ_ _ h=>h.mono l
 | .exc _ _=>eF.mono l h λ_ _ h=>h.mono l
 | .di _ _| .ds _=>eF.mono l h λ_ _ h=>h.imp λ_ h x=>(h x).mono l
 | .dc _=>eF.mono l h λ_ _ h=>h.imp λ_ h x=>(h x).mono l
 | .dt _ _=>eF.mono l h λ_ _ h=>h.imp λ_ h=>⟨λx hx=>⟨(h.1 x hx).1.mono l,(h.1 x hx).2⟩,λx=>(h.2 x).mono l⟩
def RH(c:Cx)(p:Pt):Nat->List AO->fh->Prop
 | _,[],e=>e=[]
 | k,o::r,e=>∃x y,e=x++y/\RO c p k x o/\RH c p (k+1) r y
theorem RH.mono(l:Le p q){H}:∀{k e},RH c p k H e->RH c q k H e:=by
 induction H with
 | nil=>exact λh=>h
 | cons o r ih=>exact λh=>h.elim λx h=>h.elim λy h=>⟨x,y,h.1,h.2.1.mono l,ih h.2.2⟩
structure We(c:Cx)(p:Pt)(k j:Nat)(H:Hp)(o:AO)(pre x post:fh):Prop where
 o:RO c p (k+j) x o
 put:∀q,Le p q->∀o' x',RO c q (k+j) x' o'->RH c q k (H.set j o') (pre++(x'++post))
def RH.split{C:Prop}{j:Nat}{o:AO}:∀{H k e},RH c p k H e->H[j]? =some o->(∀pre x post,e=pre++(x++post)->We c p k j H o pre x post->C)->C:=by
 induction j generalizing C with
 | zero=>
  intro H k e h ej K
  rcases H with _|⟨o',r⟩
  ·exact oN ej
  ·obtain rfl:=Eq.symm (oI ej)
   refine eC h λx y e h h'=>?_
   exact K [] x y e ⟨h,λq l o' x' r=>⟨x',y,rfl,r,h'.mono l⟩⟩
 | succ j ih=>
  intro H k e h ej K
  rcases H with _|⟨o',r⟩
  ·exact oN ej
  ·refine eC h λx y e h h'=>?_
   exact ih h' ej λpre z post e1 P=>K (x++pre) z post (by rw[e,e1,gK]) ⟨(Nat.succ_add_eq_add_succ k j)▸P.1,λq l o' x' r=>⟨x,pre++(x'++post),gK ..,h.mono l,P.2 q l o' x' ((Nat.succ_add_eq_add_succ k j).symm▸r)⟩⟩
def aX{α:Type}(x y:Nat)(v:α)(r):look x ((y,v)::r)=if y=x then some v else look x r:=rfl
def tN{α:Type}(x y:Nat)(v u:α)(r):put x v ((y,u)::r)=if y=x then(y,v)::r else(y,u)::put x v r:=rfl
theorem dC{α:Type}(x z:Nat)(v:α):∀l,look z (put x v l)=if x=z then some v else look z l
 | []=>rfl
 | (y,u)::r=>by
  rw[tN,aX]
  by_cases h:y=x
  ·rw[if_pos h,aX,h]
   by_cases q:x=z
   ·rw[if_pos q,if_pos q]
   ·rw[if_neg q,if_neg q,if_neg q]
  ·rw[if_neg h,aX,dC x z v r]
   by_cases q:y=z
   ·rw[if_pos q,if_neg λe=>h (q.trans e.symm),if_pos q]
   ·rw[if_neg q,if_neg q]
def RL(c:Cx)(p:Pt)(loc:cL)(m:Str->Option Value):Prop:=∀x v,look (code x) loc=some v->∃u,m x=some u/\RV c p v u
theorem RL.mono{loc m}(h:RL c p loc m)(l:Le p q):RL c q loc m:=λx v e=>let⟨u,a,b⟩:=h x v e;⟨u,a,b.mono l⟩
def RL.set{loc m}(h:RL c p loc m){x:Str}{v:V}{u:Value}(hv:RV c p v u):RL c p (put (code x) v loc) (λy=>if y=x then some u else m y):=by
 intro y v' e
 rw[dC] at e
 by_cases q:x=y
 ·rw[if_pos (bl code q)] at e
  obtain rfl:=oI e
  exact⟨u,if_pos q.symm,hv⟩
 ·rw[if_neg (fN q)] at e
  have⟨u',a,b⟩:=h y v' e
  exact⟨u',(if_neg (Ne.symm q)).trans a,b⟩
abbrev Mo(c:Cx):Model:=model PySem.Challenge.pw_up0021_01 c.w
abbrev jy(l:List Env):List Addr:=l.filterMap (·.frame)
structure jz(A:Around)(n:Nat):Prop where
 depth:A.depth+2 * n+2<=recursionLimit
 units:A.units+20 * n+20<=cLine
 handled:0 < n->A.handled=none
structure Act(c:Cx) where
 base:Heap
 h₀:Heap
 outer:List Env
 env:Env
 fl:List Env
 X:fh
 cv:List (Nat×V)
 p₀:Pt
 gens:Array GenState
 os:OsState
 KX:c.K.In base
 G:base.Ns mainGlobals c.mg
 Bn:base.Ns builtinsNs c.mb
 NL:base.NoLimit
 st:base.StaysIn h₀
 ff:h₀.FunFrames base outer
 hk:env.scope.kind=.function
 hg:env.globals=mainGlobals
 hb:env.builtins=builtinsNs
 hfl:(fl=env::outer/\env.frame=some env.locals)\/fl=outer
variable{names:List (Str×NameKind)×List (Nat×V)}{n:Nat}
inductive St(a:Act c)(p:Pt)(m:Str->Option Value)(H:List AO)(h:Heap):Prop where
 | mk (g:Heap) (own:fh) (tn:KtsTurn (jy a.outer) a.h₀ g) (fr:Fr g a.env.locals h m) (news:News g a.env.locals h (own++(a.X++p.I))) (nd:((own++(a.X++p.I)).map (·.1)).Nodup) (rh:RH c p 0 H own) (len:p.ρ.length=H.length)
structure aK(a:Act c)(p:Pt)(m:Str->Option Value)(Y:Sy)(s:Shared):Prop where
 st:St a p m Y.H s.heap
 le:Le a.p₀ p
 cv:∀x v,look (code x) a.cv=some v->∃cc o u,a.env.cells.lookup x=some cc/\(cc,o)∈a.X/\o.data=.cell (some u)/\RV c p v u
 pc:∀x∈Y.pc,c.σ.β x.1=x.2
 ge:s.gens=a.gens
 os:s.os=a.os
inductive aN(a:Act c)(p:Pt)(loc:cL)(Y:Sy)(s:Shared):Prop where
 | mk (m:Str->Option Value) (S:aK a p m Y s) (rl:RL c p loc m)
def gX(j:Nat)(H:Hp):Prop:=∃C l,H[j]? =some (.exc C l)
structure Fd(a:Act c) where
 fe:Env
 o:List Env
 L:Addr
 fl:a.fl=fe::o
 hfe:fe.frame=some L
 hf:a.env.frame=some L
structure Rn(kx:Nat->Sy->Bool)(c:Cx)(names:List (Str×NameKind)×List (Nat×V))(n:Nat) extends Act c where
 A:Around
 E:Value->Shared->Prop
 fd:Fd toAct
 hA:A.frames=some fl
 hn:env.scope.names=names.1
 hv:cv=names.2
 room:jz A n
 err:∀q m Y s j e,aK toAct q m Y s->RV c q (.ref j) e->gX j Y.H->kx j Y=true->E e s
abbrev KV:=V->Sy->Bool
abbrev Wf:=List V->Sy->Bool
abbrev KB:=Bool->Sy->Bool
def jc(a:Act c)(p:Pt)(loc:cL)(k:KV)(G:Value->Shared->Prop):Prop:=∀q u v Y s,Le p q->aN a q loc Y s->RV c q v u->k v Y=true->G u s
def Tr(a:Act c)(p:Pt)(loc:cL)(k:Wf)(G:List Value->Shared->Prop):Prop:=∀q u v Y s,Le p q->aN a q loc Y s->bG c q v u->k v Y=true->G u s
def mu(a:Act c)(p:Pt)(loc:cL)(k:KB)(G:Bool->Shared->Prop):Prop:=∀q b Y s,Le p q->aN a q loc Y s->k b Y=true->G b s
section
variable{a:Act c}{loc:cL}
def aK.el{m Y s}{T:Prop}(S:aK a p m Y s)(k:∀g own,KtsTurn (jy a.outer) a.h₀ g->Fr g a.env.locals s.heap m->News g a.env.locals s.heap (own++(a.X++p.I))->((own++(a.X++p.I)).map (·.1)).Nodup->RH c p 0 Y.H own->p.ρ.length=Y.H.length->Le a.p₀ p->(∀x v,look (code x) a.cv=some v->∃cc o u,a.env.cells.lookup x=some cc/\(cc,o)∈a.X/\o.data=.cell (some u)/\RV c p v u)->(∀x∈Y.pc,c.σ.β x.1=x.2)->s.gens=a.gens->s.os=a.os->T):T:=S.st.casesOn λg o x1 x2 x3 x4 x5 x6=>k g o x1 x2 x3 x4 x5 x6 S.le S.cv S.pc S.ge S.os
theorem aN.el{Y s}{T:Prop}(S:aN a p loc Y s)(k:∀m g own,KtsTurn (jy a.outer) a.h₀ g->Fr g a.env.locals s.heap m->News g a.env.locals s.heap (own++(a.X++p.I))->((own++(a.X++p.I)).map (·.1)).Nodup->RH c p 0 Y.H own->p.ρ.length=Y.H.length->Le a.p₀ p->(∀x v,look (code x) a.cv=some v->∃cc o u,a.env.cells.lookup x=some cc/\(cc,o)∈a.X/\o.data=.cell (some u)/\RV c p v u)->(∀x∈Y.pc,c.σ.β x.1=x.2)->s.gens=a.gens->s.os=a.os->RL c p loc m->T):T:=S.casesOn λm S r=>S.el λg o x1 x2 x3 x4 x5 x6 y1 y2 y3 y4 y5=>k m g o x1 x2 x3 x4 x5 x6 y1 y2 y3 y4 y5 r
def jc.le{k G}(P:jc a p loc k G)(l:Le p q):jc a q loc k G:=λ_ _ _ _ _ m=>P _ _ _ _ _ (l.trans m)
def mu.le{k G}(P:mu a p loc k G)(l:Le p q):mu a q loc k G:=λ_ _ _ _ m=>P _ _ _ _ (l.trans m)
def jc.here{k G Y s v u}(P:jc a p loc k G)(S:aN a p loc Y s)(h:RV c p v u)(q:k v Y=true):G u s:=P _ _ _ _ _ (Le.refl _) S h q
theorem aN.toks{Y s}(S:aN a p loc Y s)(n:Nat):aN a p loc Y {s with toks:=n}:=match S with
 | ⟨m,S,r⟩=>⟨m,⟨S.1,S.2,S.3,S.4,S.5,S.6⟩,r⟩
theorem jc.toks{k G Y s v u}(P:jc a p loc k G)(S:aN a p loc Y s)(h:RV c p v u)(q:k v Y=true)(n:Nat):G u {s with toks:=n}:=P _ _ _ _ _ (Le.refl _) (S.toks n) h q
end
abbrev CE:=cL->Sy->KV->Bool
abbrev PI:=cL->Sy->Wf->Bool
abbrev CB:=cL->Sy->KB->Bool
abbrev cu:=List (Str×NameKind)×List (Nat×V)
def TE(r:Rn kx c names n)(e:Expr)(loc:cL)(Y:Sy)(k:KV):Prop:=
 ∀p s G,aN r.toAct p loc Y s->jc r.toAct p loc k G->wpAny (Mo c) r.A (eval e r.env) G r.E s
def Yz(r:Rn kx c names n)(pos:Pos)(es:List Expr)(loc:cL)(Y:Sy)(k:Wf):Prop:=
 ∀p s G,aN r.toAct p loc Y s->Tr r.toAct p loc k G->wpAny (Mo c) r.A (spliced (backTo pos (starEach es r.env))) G r.E s
def TB(r:Rn kx c names n)(e:Expr)(loc:cL)(Y:Sy)(k:KB):Prop:=
 ∀p s G,aN r.toAct p loc Y s->mu r.toAct p loc k G->wpAny (Mo c) r.A (isTrue e r.env (eval e r.env)) G r.E s
def b6(kx:Nat->Sy->Bool)(c:Cx)(names:cu)(n:Nat)(e:Expr)(f:CE):Prop:=∀(r:Rn kx c names n) loc Y k,f loc Y k=true->TE r e loc Y k
def Pi(kx:Nat->Sy->Bool)(c:Cx)(names:cu)(n:Nat)(es:List Expr)(f:PI):Prop:=∀(r:Rn kx c names n) pos loc Y k,f loc Y k=true->Yz r pos es loc Y k
def jW(kx:Nat->Sy->Bool)(c:Cx)(names:cu)(n:Nat)(e:Expr)(f:CB):Prop:=∀(r:Rn kx c names n) loc Y k,f loc Y k=true->TB r e loc Y k
end
section
variable{c:Cx}{p q:Pt}{kx:Nat->Sy->Bool}{names:cu}{n:Nat}
def lk{α:Type}(x:Nat):List (Nat×α)->Option α
 | []=>.none
 | y::r=>Bool.rec (lk x r) (some y.2) (Nat.beq y.1 x)
def yv{α:Type}(x:Nat)(y:Nat×α)(r):lk x (y::r)=Bool.rec (lk x r) (some y.2) (Nat.beq y.1 x):=rfl
def sC{a b:Nat}(h:a≠b):Nat.beq a b=false:=match e:Nat.beq a b with
 | false=>rfl
 | true=>absurd (cf e) h
theorem mi{α:Type}(x:Nat):∀l:List (Nat×α),lk x l=look x l
 | []=>rfl
 | (y,v)::r=>by
  rw[aX]
  by_cases h:y=x
  ·rw[if_pos h,yv,h,mz]
  ·rw[if_neg h,yv,sC h];exact mi x r
def kd(x:Nat):List (Str×NameKind)->Option NameKind
 | []=>.none
 | y::r=>Bool.rec (kd x r) (some y.2) (Nat.beq (code y.1) x)
def yz(x:Nat)(y:Str×NameKind)(r):kd x (y::r)=Bool.rec (kd x r) (some y.2) (Nat.beq (code y.1) x):=rfl
theorem mj(x:Str):∀l,kd (code x) l=l.lookup x
 | []=>rfl
 | (y,k)::r=>by
  rw[vy]
  by_cases h:y=x
  ·rw[yz,h,mz,beq_self_eq_true]
  ·rw[yz,sC (fN h),pG.mpr (Ne.symm h)];exact mj x r
def jD(k:NameKind):Bool:=match k with
 | .local=>true
 | _=>false
def KH(k:NameKind):Bool:=match k with
 | .globalImplicit=>true
 | _=>false
def uu(k:NameKind):Bool:=match k with
 | .cell=>true
 | _=>false
def gf{k}(h:jD k=true):k=.local:=by cases k <;> first|rfl|exact bT h
def DV{k}(h:KH k=true):k=.globalImplicit:=by cases k <;> first|rfl|exact bT h
def ut{k}(h:uu k=true):k=.cell:=by cases k <;> first|rfl|exact bT h
def xu(c:Cx)(x:Str)(v:V):Prop:=∃u,(c.mg x=some u\/(c.mg x=.none/\c.mb x=some u))/\∀p,RV c p v u
def OD:Nat:=code "__debug__"
def HJ{x:Str}(h:(Nat.beq (code x) OD).not=true):(x == ("__debug__" :Str))=false:=
 pG.mpr λe=>by rw[e,OD,mz] at h;exact bT h
def Act.Zz(a:Act c){g:Heap}(tn:KtsTurn (jy a.outer) a.h₀ g):a.base.StaysIn g:=λb o e=>tn.other b o (a.st b o e) λhm=>by rw[(a.ff.mem hm).1] at e;exact oN e
def aN.fr{a:Act c}{loc Y s}{C:Prop}(S:aN a p loc Y s)(k:∀g m own,a.base.StaysIn s.heap->Fr g a.env.locals s.heap m->News g a.env.locals s.heap (own++(a.X++p.I))->RL c p loc m->C):C:=match S with
 | ⟨m,⟨⟨g,own,tn,F,N,_,_,_⟩,_,_,_,_,_⟩,r⟩=>k g m own (λb o e=>F.keep b o (a.Zz tn b o e)) F N r
def EZ(gl:List (Nat×V))(names:cu)(x:Str):CE:=λloc Y k=>bb (Nat.beq (code x) OD).not (ob (kd (code x) names.1) λkn=>bi (jD kn) (ob (lk (code x) loc) λv=>k v Y) (bi (KH kn) (ob (lk (code x) gl) λv=>k v Y) (bb (uu kn) (ob (lk (code x) names.2) λv=>k v Y))))
def u6{gl}(g:∀x v,lk (code x) gl=some v->xu c x v)(x:Str)(pos:Pos):b6 kx c names n (.Name x pos) (EZ gl names x):=
 λr loc Y k h p s G S P=>ag h λh1 h=>ay h λkn e h=>by
  rw[mj,<-r.hn] at e
  have hd:=HJ h1
  exact S.fr λg' m own st F N L=>bH h (λh2 h=>ay h λv e2 h=>by
    have⟨u,e3,hv⟩:=L x v (by rw[<-mi];exact e2)
    exact wpAny_Name (wpAny_loadName_local r.hk (e.trans (bl some (gf h2))) F.ns e3 (P.here S hv h)) hd)
   λ_ h=>bH h (λh2 h=>ay h λv e2 h=>by
    have⟨u,hu,hv⟩:=g x v e2
    have z:=P.here S (hv p) h
    have gn:s.heap.Ns r.env.globals c.mg:=r.hg▸r.G.keeps st
    exact Name_function_global r.hk (e.trans (bl some (DV h2))) (hu.elim (λhu=>loadGlobal_global gn hu z) λhu=>loadGlobal_builtin gn hu.1 (r.hb▸r.Bn.keeps st) hu.2 z) hd)
   λ_ h=>ag h λh2 h=>ay h λv e2 h=>by
    obtain⟨_,S',_⟩:=id S
    obtain⟨cc,o,u,hc,hm,Q_,hv⟩:=S'.cv x v (by rw[r.hv,<-mi];exact e2)
    exact wpAny_Name (wpAny_loadName_cell r.hk (e.trans (bl some (ut h2))) hc ⟨o,(N _ (j0 _ (j5 _ hm))).1,Q_⟩ (P.here S hv h)) hd
def mN:CE:=λ_ _ _=>false
def cR{e:Expr}:b6 kx c names n e mN:=λ_ _ _ _ h=>nomatch h
def wY(x:Const):CE:=match x with
 | .none=>λ_ Y k=>k .none Y
 | .bool b=>λ_ Y k=>k (.bool b) Y
 | .int i=>λ_ Y k=>k (.int i) Y
 | .str x=>λ_ Y k=>k (.str x) Y
 | _=>mN
def qy(x:Const)(j:Nat)(pos:Pos):b6 kx c names n (.Constant x j pos) (wY x):=λr loc Y k h p s G S P=>by
 induction x using Const.casesOn with
 | none=>exact wpAny_Constant_none (P.here S .none h)
 | bool b=>exact wpAny_Constant_bool (P.here S (.bool b) h)
 | int i=>rw[Mo,eval_Constant];exact(λ_ _ _=>P.toks S (.int i _) h _)
 | str x=>exact wpAny_Constant_str (P.toks S (.str x _) h _)
 | _=>exact bT h
structure Pl(e:Expr):Prop where
 st:∀r env,starEach (e::r) env=(false,eval e env)::starEach r env
 sub:∀o i,subscripted e false o i=operate [o,i] (getItem o i)
 swap:∀t n env,swapsWith e t n env=pure false
 base:∀attr env whole,attributeBase e attr env whole=whole
 fold:∀env x,foldedSetIterable e env x=pure x
def LW:Nat:=code "super"
def SQ(f:Expr)(es:List Expr):Bool:=match f with
 | .Attribute _ _ _=>true
 | .Name id _=>match es with
  | []=>(Nat.beq (code id) LW).not
  | _::_=>true
 | _=>false
def pZ:Expr->Bool
 | .Name _ _| .Constant _ _ _| .Attribute _ _ _| .Subscript _ _ _| .Tuple _ _ _| .List _ _| .BinOp _ _ _ _| .Compare _ _ _ _| .BoolOp _ _ _| .UnaryOp _ _ _| .IfExp _ _ _ _| .Dict _ _ _=>true
 | .Call f es _ _=>SQ f es
 | _=>false
def AT{f es Y4 pos}(h:SQ f es=true)(attr:Str)(env:Env)(whole:Sem Value):attributeBase (.Call f es Y4 pos) attr env whole=whole:=by
 induction f using Expr.casesOn with
 | Attribute=>exact rfl
 | Name id _=>
  rcases es with _|⟨_,_⟩
  ·rcases Y4 with _|⟨_,_⟩
   ·have hs:(id != ("super" :Str))=true:=bne_iff_ne.mpr λe=>by
     have h':(Nat.beq (code id) LW).not=true:=h
     rw[e,LW,mz] at h';exact bT h'
    refine if_pos ?_
    rw[hs];rfl
   ·exact rfl
  ·exact rfl
 | _=>exact absurd h Bool.false_ne_true
def fz{e:Expr}(h:pZ e=true):Pl e:=by
 induction e using Expr.casesOn with
 | Call f es Y4 pos=>exact⟨λ_ _=>rfl,λ_ _=>rfl,λ_ _ _=>rfl,AT h,λ_ _=>rfl⟩
 | _=>first|exact⟨λ_ _=>rfl,λ_ _=>rfl,λ_ _ _=>rfl,λ_ _ _=>rfl,λ_ _=>rfl⟩|exact bT h
def RK(e:Expr):Bool:=Nat.beq e.ctorIdx 8
def Bb(e:Expr):Bool:=Bool.rec (pZ e) true (RK e)
def oj{e:Expr}(h:Bb e=true):∀r env,starEach (e::r) env=(false,eval e env)::starEach r env:=by
 unfold Bb at h
 rcases h1:RK e with _|_
 ·rw[h1] at h;exact(fz h).st
 ·induction e using Expr.casesOn <;> first|exact λ_ _=>rfl|exact bT h1
def iI(f:Expr->CE):List Expr->PI
 | []=>λ_ Y k=>k [] Y
 | e::r=>λloc Y k=>bb (Bb e) (f e loc Y λv Y=>iI f r loc Y λvs Y=>k (v::vs) Y)
def kZ{f:Expr->CE}(hf:∀e,b6 kx c names n e (f e))(es:List Expr):Pi kx c names n es (iI f es):=by
 induction es with
 | nil=>exact λr pos loc Y k h p s G S P=>spliced_none (P _ _ _ _ _ (Le.refl _) S .nil h)
 | cons e es ih=>exact λr pos loc Y k h p s G S P=>ag h λh1 h=>spliced_more (hf e r loc Y _ h p s _ S λbP u v bn aJ bA aC hv h=>ih r pos loc bn _ h bP aJ _ aC λgu us vs cW b8 bL aO hvs h=>P _ _ _ _ _ (bA.trans bL) aO (.cons (hv.mono bL) hvs) h) (oj h1 _ _)
theorem bG.length{l}:∀{us},bG c p l us->l.length=us.length:=by
 induction l with
 | nil=>intro us h;rw[h.inv];rfl
 | cons v l ih=>intro us h;refine eC h.inv λu r e _ h=>?_;rw[e,gq,gq,ih h]
def RH.snoc{H o x}:∀{k e},RH c p k H e->RO c p (k+H.length) x o->RH c p k (H++[o]) (e++x):=by
 induction H with
 | nil=>intro k e h q;subst h;exact⟨x,[],(gN _).symm,q,rfl⟩
 | cons o' r ih=>intro k e h q;refine eC h λy z e h h'=>?_;exact⟨y,z++x,by rw[e,gK],h,ih h' (by rw[Nat.succ_add_eq_add_succ];exact q)⟩
def eh{a:Act c}(l:Le p q)(h:∀x v,look (code x) a.cv=some v->∃cc o u,a.env.cells.lookup x=some cc/\(cc,o)∈a.X/\o.data=.cell (some u)/\RV c p v u):∀x v,look (code x) a.cv=some v->∃cc o u,a.env.cells.lookup x=some cc/\(cc,o)∈a.X/\o.data=.cell (some u)/\RV c q v u:=
 λx v e=>(h x v e).elim λcc h=>h.elim λo h=>h.elim λu h=>⟨cc,o,u,h.1,h.2.1,h.2.2.1,h.2.2.2.mono l⟩
def News.perm{h₀ h:Heap}{L:Addr}{a b:fh}(N:News h₀ L h a)(p:b.Perm a):News h₀ L h b:=λx hx=>N x (p.mem_iff.mp hx)
def aY{a b:fh}(n:(a.map (·.1)).Nodup)(p:b.Perm a):(b.map (·.1)).Nodup:=(p.map _).nodup_iff.mpr n
def i6{h₀ h:Heap}{L:Addr}{l:fh}(N:News h₀ L h l)(n:(l.map (·.1)).Nodup)(o:Obj):(((h.objs.size,o)::l).map (·.1)).Nodup:=by
 rw[jr,fH]
 exact⟨λhm=>(fw.mp hm).elim λx h=>absurd (my (N x h.1).1) (by rw[h.2];exact zq _),n⟩
theorem aN.own{a:Act c}{loc Y s h' o}{x:Obj}(S:aN a p loc Y s)(F:∀g m,Fr g a.env.locals s.heap m->Fr g a.env.locals h' m)(N:∀g m l,Fr g a.env.locals s.heap m->News g a.env.locals s.heap l->News g a.env.locals h' ((s.heap.objs.size,x)::l))(k:Nat)
  (R:∀q,Le p q->q.ρ[Y.H.length]? =some (s.heap.objs.size,s.heap.objs.size)->RO c q Y.H.length [(s.heap.objs.size,x)] o)
  {C:Prop} (K:∀q,Le p q->RV c q (.ref Y.H.length) (.ref s.heap.objs.size)->aN a q loc ⟨Y.pc,Y.H++[o]⟩ {s with heap:=h',toks:=k}->C):C:=by
 refine S.el λm g own tn F' N' hn hH hr le cv pc ge os rl=>?_
 have l:Le p ⟨p.ρ++[(s.heap.objs.size,s.heap.objs.size)],p.I,p.τ⟩:=⟨⟨_,rfl⟩,λ_ h=>h,rfl⟩
 have pm:((own++[(s.heap.objs.size,x)])++(a.X++p.I)).Perm ((s.heap.objs.size,x)::(own++(a.X++p.I))):=by rw[gK];exact nG
 have hk:(p.ρ++[(s.heap.objs.size,s.heap.objs.size)])[Y.H.length]? =some (s.heap.objs.size,s.heap.objs.size):=by rw[<-hr];exact vC
 exact K _ l (.ref hk) ⟨m,⟨⟨g,_,tn,F g m F',News.perm (N _ _ _ F' N') pm,aY (i6 N' hn _) pm,(hH.mono l).snoc (by rw[eM];exact R _ l hk),by rw[nE,nE,hr];rfl⟩,le.trans l,eh l cv,pc,ge,os⟩,rl.mono l⟩
def aN.imm{a:Act c}{loc Y s h'}{x:Obj}(S:aN a p loc Y s)(F:∀g m,Fr g a.env.locals s.heap m->Fr g a.env.locals h' m)(N:∀g m l,Fr g a.env.locals s.heap m->News g a.env.locals s.heap l->News g a.env.locals h' ((s.heap.objs.size,x)::l))(k:Nat)
  {C:Prop} (K:∀q,Le p q->nB c q s.heap.objs.size x->aN a q loc Y {s with heap:=h',toks:=k}->C):C:=by
 refine S.el λm g own tn F' N' hn hH hr le cv pc ge os rl=>?_
 have l:Le p ⟨p.ρ,(s.heap.objs.size,x)::p.I,p.τ⟩:=⟨iM.refl _,λ_ h=>.tail _ h,rfl⟩
 have pm:(own++(a.X++(s.heap.objs.size,x)::p.I)).Perm ((s.heap.objs.size,x)::(own++(a.X++p.I))):=by rw[<-gK,<-gK];exact nG
 exact K _ l (.inl (.head _)) ⟨m,⟨⟨g,_,tn,F g m F',News.perm (N _ _ _ F' N') pm,aY (i6 N' hn _) pm,hH.mono l,hr⟩,le.trans l,eh l cv,pc,ge,os⟩,rl.mono l⟩
def tB{n:Nat}(h:n<=1000):n<=sizeLine:=dK h (by decide)
def qg{a:Act c}{A E loc Y k s G l vs}(S:aN a p loc Y s)(P:jc a p loc k G)(hv:bG c p l vs)(hz:l.length<=1000)(h:k (.tup l) Y=true):wpAny (Mo c) A (newTuple vs) G E s:=
 wpAny_newObj_type (S.imm (x:=lu vs 0) (λg m F=>F.push _) (λg m l F N=>News.push F N _) s.toks λq l1 i S'=>P q _ _ _ _ l1 S' (.tup i (hv.mono l1)) h) (by show vs.toArray.size<=sizeLine;rw[iJ,<-hv.length];exact tB hz)
def C7{a:Act c}{A E loc Y k s G l vs}(S:aN a p loc Y s)(P:jc a p loc k G)(hv:bG c p l vs)(hz:l.length<=sizeLine)(h:k (.ref Y.H.length) ⟨Y.pc,Y.H++[.lst l]⟩=true):wpAny (Mo c) A (newList vs) G E s:=
 wpAny_newObj_type (S.own (x:=cJ vs 0) (λg m F=>F.push _) (λg m l F N=>News.push F N _) s.toks (o:=.lst l) (λq l e=>⟨_,_,e,vs,0,hv.mono l,rfl⟩) λq l1 i S'=>P q _ _ _ _ l1 S' i h) (by show vs.toArray.size<=sizeLine;rw[iJ,<-hv.length];exact hz)
def OO(f:PI):CE:=λloc Y k=>f loc Y λvs Y=>bb (Nat.ble vs.length 1000) (k (.tup vs) Y)
def y0{es:List Expr}{j:Nat}{pos:Pos}{f:PI}(hf:Pi kx c names n es f):b6 kx c names n (.Tuple es j pos) (OO f):=λr loc Y k h p s G S P=>
 Tuple_ (hf r pos loc Y _ h p s _ S λq us vs Y s l S hv h=>ag h λh1 h=>qg S (P.le l) hv (fu h1) h)
def SW(f:PI):CE:=λloc Y k=>f loc Y λvs Y=>bb (Nat.ble vs.length 1000) (k (.ref Y.H.length) ⟨Y.pc,Y.H++[.lst vs]⟩)
def Jj{es:List Expr}{pos:Pos}{f:PI}(hf:Pi kx c names n es f):b6 kx c names n (.List es pos) (SW f):=λr loc Y k h p s G S P=>
 List_ (hf r pos loc Y _ h p s _ S λq us vs Y s l S hv h=>ag h λh1 h=>C7 S (P.le l) hv (tB (fu h1)) h)
def aN.X{a:Act c}{loc Y s}(S:aN a p loc Y s):c.K.In s.heap:=S.fr λg m _ st _ _ _=>a.KX.keeps st
theorem aN.get{a:Act c}{loc Y s b o}(S:aN a p loc Y s)(h:nB c p b o):s.heap.get? b=some o:=
 h.elim (λh=>S.fr λg m own st F N _=>(N _ (j0 _ (j0 _ h))).1) λh=>S.X _ _ h
def lB{d:Addr}{o:Obj}{pre post:fh}(n:((pre++(d,o)::post).map (·.1)).Nodup){z}(h:z∈pre\/z∈post):z.1≠d:=by
 intro e
 exact(fH.mp (aY n nG.symm)).1 (by rw[<-e];exact vA (f:=(·.1)) (sY.mpr h))
theorem aN.at{a:Act c}{loc Y s j o}{C:Prop}(S:aN a p loc Y s)(hj:Y.H[j]? =some o)
  (K:∀x,RO c p j x o->(∀z∈x,s.heap.get? z.1=some z.2)->(∀xa d ob xb o' YM h' n,x=xa++(d,ob)::xb->Heap.SameBut d s.heap h'->h'.get? d=some YM->RO c p j (xa++(d,YM)::xb) o'->aN a p loc ⟨Y.pc,Y.H.set j o'⟩ {s with heap:=h',toks:=n})->C):C:=by
 refine S.el λm g own tn F N hn hH hr le cv pc ge os rl=>?_
 refine hH.split hj λpre x post e P=>?_
 have P0:=eM j▸P.1
 refine K x P0 (λz hz=>(N z (by rw[e];exact j5 _ (j0 _ (j5 _ hz)))).1) λxa d ob xb o' YM h' n ex hs hg R=>?_
 have e1:∀o,(pre++((xa++(d,o)::xb)++post))++(a.X++p.I)=(pre++xa)++(d,o)::(xb++(post++(a.X++p.I))):=λo=>by simp only [gK,List.cons_append]
 rw[e,ex,e1] at N hn
 have z:=N (d,ob) (j0 _ (.head _))
 refine⟨m,⟨⟨g,_,tn,F.change hs z.2.1 z.2.2,?_,?_,P.2 p (Le.refl _) o' _ ((eM j).symm▸R),by rw[List.length_set];exact hr⟩,le,cv,pc,ge,os⟩,rl⟩
 ·rw[e1]
  exact news_set N (λz hz=>lB hn (.inl hz)) (λz hz=>lB hn (.inr hz)) hs hg
 ·rw[e1]
  rw[sX,jr] at hn ⊢;exact hn
def aN.look{a:Act c}{loc Y s j o}(S:aN a p loc Y s)(hj:Y.H[j]? =some o):∃x,RO c p j x o/\∀z∈x,s.heap.get? z.1=some z.2:=S.at hj λx r g _=>⟨x,r,g⟩
variable{σ:Sg}
def al{x y:Bool}:bb x y=true↔x=true/\y=true:=match x with
 | true=>⟨λh=>⟨rfl,h⟩,λh=>h.2⟩
 | false=>⟨λh=>(nomatch h),λh=>nomatch h.1⟩
def pN(a b:Int):Bool:=Int.rec (λa=>Int.rec (λb=>Nat.beq a b) (λ_=>false) b) (λa=>Int.rec (λ_=>false) (λb=>Nat.beq a b) b) a
def KJ(a b:Int):Bool:=Int.rec (λa=>Int.rec (λb=>Nat.ble a b) (λ_=>false) b) (λa=>Int.rec (λ_=>true) (λb=>Nat.ble b a) b) a
def cw{a b:Int}:pN a b=true↔a=b:=by
 rcases a with a|a
 ·rcases b with b|b
  ·exact(Eq.to_iff Nat.beq_eq).trans ⟨bl _,Int.ofNat.inj⟩
  ·exact⟨λh=>(nomatch h),nofun⟩
 ·rcases b with b|b
  ·exact⟨λh=>(nomatch h),nofun⟩
  ·exact(Eq.to_iff Nat.beq_eq).trans ⟨bl _,Int.negSucc.inj⟩
def jn{a b:Int}:KJ a b=true↔a<=b:=by
 rcases a with a|a
 ·rcases b with b|b
  ·exact(Eq.to_iff Nat.ble_eq).trans gM.symm
  ·exact⟨λh=>(nomatch h),λh=>absurd (Int.le_trans (nI a) h) (Int.not_le.mpr (Int.negSucc_lt_zero b))⟩
 ·rcases b with b|b
  ·exact⟨λ_=>Int.le_trans (Int.le_of_lt (Int.negSucc_lt_zero a)) (nI b),λ_=>rfl⟩
  ·exact(Eq.to_iff Nat.ble_eq).trans ⟨λh=>by lia,λh=>by lia⟩
def D2{a b:Int}(h:pN a b=false):a≠b:=λe=>by rw[cw.mpr e] at h;exact bF h
def NV{a b:Int}(h:KJ a b=false):b < a:=Int.not_le.mp λe=>by rw[jn.mpr e] at h;exact bF h
def SE.tag:SE->Nat
 | .lit _=>0| .at _=>1| .add _ _=>2| .sub _ _=>3| .mul _ _=>4| .fdiv _ _=>5| .mod _ _=>6| .wrap _=>7
def SE.l:SE->SE
 | .add a _| .sub a _| .mul a _| .fdiv a _| .mod a _| .wrap a=>a
 | a=>a
def SE.r:SE->SE
 | .add _ a| .sub _ a| .mul _ a| .fdiv _ a| .mod _ a=>a
 | a=>a
def SE.i:SE->Int
 | .lit i=>i
 | _=>0
def SE.m:SE->Nat
 | .at n=>n
 | _=>0
noncomputable def SE.of:Nat->Int->Nat->SE->SE->SE
 | 0,i,_,_,_=>.lit i
 | 1,_,n,_,_=>.at n
 | 2,_,_,a,b=>.add a b
 | 3,_,_,a,b=>.sub a b
 | 4,_,_,a,b=>.mul a b
 | 5,_,_,a,b=>.fdiv a b
 | 6,_,_,a,b=>.mod a b
 | _,_,_,a,_=>.wrap a
def SE.of_eq(x:SE):SE.of x.tag x.i x.m x.l x.r=x:=by induction x using SE.casesOn <;> rfl
def SE.beq(a:SE):SE->Bool:=SE.rec (λi b=>bb (Nat.beq b.tag 0) (pN b.i i)) (λn b=>bb (Nat.beq b.tag 1) (Nat.beq b.m n))
 (λ_ _ f g b=>bb (Nat.beq b.tag 2) (bb (f b.l) (g b.r))) (λ_ _ f g b=>bb (Nat.beq b.tag 3) (bb (f b.l) (g b.r))) (λ_ _ f g b=>bb (Nat.beq b.tag 4) (bb (f b.l) (g b.r)))
 (λ_ _ f g b=>bb (Nat.beq b.tag 5) (bb (f b.l) (g b.r))) (λ_ _ f g b=>bb (Nat.beq b.tag 6) (bb (f b.l) (g b.r))) (λ_ f b=>bb (Nat.beq b.tag 7) (f b.l)) a
def SE.two{a1 a2:SE}{f g:SE->Bool}(k:Nat){b:SE}(h:bb (Nat.beq b.tag k) (bb (f b.l) (g b.r))=true)(h1:∀b,f b=true->a1=b)(h2:∀b,g b=true->a2=b):SE.of k b.i b.m a1 a2=b:=
 ag h λe h=>ag h λe1 e2=>by rw[h1 _ e1,h2 _ e2,<-cf e,SE.of_eq]
def SE.eq_of_beq{a:SE}:∀b,SE.beq a b=true->a=b:=by
 induction a with
 | lit i=>exact λb h=>ag h λe e1=>by have:=SE.of_eq b;rw[cf e,cw.mp e1] at this;exact this
 | «at» i=>exact λb h=>ag h λe e1=>by have:=SE.of_eq b;rw[cf e,cf e1] at this;exact this
 | add _ _ h1 h2=>exact λb h=>SE.two 2 h h1 h2
 | sub _ _ h1 h2=>exact λb h=>SE.two 3 h h1 h2
 | mul _ _ h1 h2=>exact λb h=>SE.two 4 h h1 h2
 | fdiv _ _ h1 h2=>exact λb h=>SE.two 5 h h1 h2
 | mod _ _ h1 h2=>exact λb h=>SE.two 6 h h1 h2
 | wrap _ h1=>exact λb h=>ag h λe e1=>by have:=SE.of_eq b;rw[cf e,<-h1 _ e1] at this;exact this
abbrev Ln:=Option Nat×Int
def O1(ν:Nat->Int)(x:Option Nat):Int:=Option.rec 0 ν x
def Lv(ν:Nat->Int)(z:Int)(o:Option Ln):Prop:=∀l,o=some l->z=O1 ν l.1+l.2
def Tj(x y:Option Ln):Option Ln:=x.bind λx=>y.bind λy=>Option.rec (some (y.1,x.2+y.2)) (λn=>Option.rec (some (some n,x.2+y.2)) (λ_=>.none) y.1) x.1
def Qj(x y:Option Ln):Option Ln:=x.bind λx=>y.bind λy=>Option.rec (some (x.1,x.2 - y.2)) (λ_=>.none) y.1
def JV{ν a b}{x y:Option Ln}(h:Lv ν a x)(k:Lv ν b y):Lv ν (a+b) (Tj x y):=λl e=>by
 refine aH (cU e) λJ_ e1 e=>?_;obtain⟨x1,x2⟩:=J_
 refine aH (cU e) λX_ e2 e=>?_;obtain⟨y1,y2⟩:=X_
 have h:=h _ e1
 have k:=k _ e2
 rcases x1 with _|n
 ·obtain rfl:=oI e;rw[h,k];exact(bl (· +_) (Int.zero_add x2)).trans (Int.add_left_comm ..)
 ·rcases y1 with _|m
  ·obtain rfl:=oI e;rw[h,k];exact(bl _ (Int.zero_add y2)).trans (Int.add_assoc ..)
  ·exact oN e
def GJ{ν a b}{x y:Option Ln}(h:Lv ν a x)(k:Lv ν b y):Lv ν (a - b) (Qj x y):=λl e=>by
 refine aH (cU e) λYO e1 e=>?_;obtain⟨x1,x2⟩:=YO
 refine aH (cU e) λZx e2 e=>?_;obtain⟨y1,y2⟩:=Zx
 have h:=h _ e1
 have k:=k _ e2
 rcases y1 with _|m
 ·obtain rfl:=oI e;rw[h,k];exact(bl _ (Int.zero_add y2)).trans (Int.add_sub_assoc ..)
 ·exact oN e
def UQ(e:SE):Option Ln:=SE.rec (λi=>some (.none,i)) (λn=>some (some n,0)) (λ_ _ x y=>Tj x y) (λ_ _ x y=>Qj x y) (λ_ _ _ _=>.none) (λ_ _ _ _=>.none) (λ_ _ _ _=>.none) (λ_ _=>.none) e
def Dx{ν:Nat->Int}(e:SE):Lv ν (e.ev ν) (UQ e):=by
 induction e with
 | lit i=>intro l h;obtain rfl:=oI h;exact(Int.zero_add i).symm
 | «at» i=>intro l h;obtain rfl:=oI h;exact(Int.add_zero _).symm
 | add _ _ h k=>exact JV h k
 | sub _ _ h k=>exact GJ h k
 | _=>intro l h;exact oN h
def ak(σ:Sg)(v v':V):Prop:=∀⦃c:Cx⦄ ⦃p:Pt⦄ ⦃u:Value⦄,c.σ=σ->RV c p v u->RV c p v' u
def ak.refl(v:V):ak σ v v:=λ_ _ _ _ h=>h
structure FT where
 rng:List (Nat×Option Int×Option Int)
 len:List (Nat×SE)
 lf:List (Nat×SE×V)
 df:List (Nat×SE×Option V)
 pk:List (SE×List V×V):=[]
 sf:List (Nat×List (Nat×V)×V):=[]
 fm:List (Nat×SE×SE×SE):=[]
 ef:List (SE×SE):=[]
 om:List (Nat×V):=[]
 ac:Option (Addr×List Nat):=.none
 oe:List (Nat×Str×Bool):=[]
 ca:List (Bool×Str×Nat×Nat):=[]
 cb:List (SE×SE×Nat):=[]
structure aI(σ:Sg)(ft:FT):Prop where
 rng:∀p∈ft.rng,(∀l,p.2.1=some l->l<=σ.ν p.1)/\(∀h,p.2.2=some h->σ.ν p.1<=h)
 len:∀p∈ft.len,((σ.γ p.1).length:Int)=p.2.ev σ.ν
 lf:∀p∈ft.lf,0<=p.2.1.ev σ.ν/\∃v,(σ.γ p.1)[(p.2.1.ev σ.ν).toNat]? =some v/\ak σ v p.2.2
 df:∀p∈ft.df,(p.2.2=.none/\σ.δ p.1 (p.2.1.ev σ.ν)=.none)\/∃v v',p.2.2=some v'/\σ.δ p.1 (p.2.1.ev σ.ν)=some v/\ak σ v v'
 pk:∀p∈ft.pk,∃(j:Nat) (v:V),p.1.ev σ.ν=(j:Int)/\p.2.1[j]? =some v/\ak σ v p.2.2
 pkz:∀p∈ft.pk,p.1.ev σ.ν<=1000000
 sf:∀p∈ft.sf,∃(x:Str) (v:V),σ.ω p.1=.str x/\look (code x) p.2.1=some v/\ak σ v p.2.2
 fm:∀p∈ft.fm,(p.1=0/\1<=p.2.2.1.ev σ.ν/\p.2.2.2.ev σ.ν=(p.2.1.ev σ.ν).fmod (p.2.2.1.ev σ.ν))\/(p.1=1/\(p.2.1.ev σ.ν).natAbs < 2 ^ 40/\(p.2.2.1.ev σ.ν).natAbs < 2 ^ 40/\p.2.2.2.ev σ.ν=p.2.1.ev σ.ν * p.2.2.1.ev σ.ν)
 ef:∀p∈ft.ef,p.1.ev σ.ν=p.2.ev σ.ν
 om:∀p∈ft.om,σ.ω p.1=p.2
 ac:∀C ns,ft.ac=some (C,ns)->∀i ρ I k x,σ.π i ρ I k x->∃a d es n rest,ρ[k]? =some (a,d)/\x=(a,instObj C d)::(d,dictOf es n)::rest/\∀y:Str,code y∈ns->getL y es=some none
 oe:∀p∈ft.oe,∃t:Str,σ.ω p.1=.str t/\PyData.canLay0 (.str t)=true/\PyData.canLay0 (.str p.2.1)=true/\decide (p.2.1=t)=p.2.2
 ca:∀p∈ft.ca,∃t:Str,σ.ω p.2.2.1=.str t/\p.2.1.length+t.length<=4000/\σ.ω p.2.2.2=.str (match p.1 with|true=>p.2.1++t|false=>t++p.2.1)
 cb:∀p∈ft.cb,σ.ω p.2.2=.bool (p.1.ev σ.ν == p.2.1.ev σ.ν)
 z:∀g,σ.z g<=1000000
 big:∀g,(σ.γ g).length<=1000000
def mq{α:Type}(t:α->Bool):List α->Option α
 | []=>.none
 | a::l=>Bool.rec (mq t l) (some a) (t a)
def cD{α:Type}{t:α->Bool}{C:Prop}:∀{l:List α} {a},mq t l=some a->(a∈l->t a=true->C)->C:=by
 intro l
 induction l with
 | nil=>exact λh _=>nomatch h
 | cons b l ih=>exact λh k=>match e:t b with
  | true=>by
   have h':Bool.rec (mq t l) (some b) (t b)=some _:=h
   rw[e] at h'
   obtain rfl:=oI h';exact k (.head _) e
  | false=>by
   have h':Bool.rec (mq t l) (some b) (t b)=some _:=h
   rw[e] at h'
   exact ih h' λm=>k (.tail _ m)
def vl(σ:Sg)(pc:PC):Prop:=∀x∈pc,σ.β x.1=x.2
def Kp(n:Nat)(pc:PC):Option Bool:=(mq (λx=>Nat.beq n x.1) pc).map (·.2)
def CO{n b}{pc:PC}(h:vl σ pc)(e:Kp n pc=some b):σ.β n=b:=
 (fp e).elim λx e=>cD e.1 λm t=>by rw[cf t,h x m];exact e.2
def vl.cons{pc:PC}{n b}(h:vl σ pc)(e:σ.β n=b):vl σ ((n,b)::pc):=λx hx=>(dL.mp hx).elim (λq=>q▸e) (h x)
def WC(ft:FT)(x:Option Nat):Option Int:=Option.rec (some 0) (λn=>(mq (λp=>Nat.beq n p.1) ft.rng).bind (·.2.1)) x
def WN(ft:FT)(x:Option Nat):Option Int:=Option.rec (some 0) (λn=>(mq (λp=>Nat.beq n p.1) ft.rng).bind (·.2.2)) x
def Na{ft:FT}(F:aI σ ft){x:Option Nat}{l}(h:WC ft x=some l):l<=O1 σ.ν x:=by
 rcases x with _|n
 ·obtain rfl:=oI h;exact Int.le_refl _
 ·refine aH (cU h) λp e h=>?_
  exact cD e λm t=>by rw[cf t];exact(F.rng p m).1 l h
def NY{ft:FT}(F:aI σ ft){x:Option Nat}{l}(h:WN ft x=some l):O1 σ.ν x<=l:=by
 rcases x with _|n
 ·obtain rfl:=oI h;exact Int.le_refl _
 ·refine aH (cU h) λp e h=>?_
  exact cD e λm t=>by rw[cf t];exact(F.rng p m).2 l h
def Cm(a b:Option Nat):Bool:=Option.rec (Option.rec true (λ_=>false) b) (λn=>Option.rec false (λm=>Nat.beq n m) b) a
def Ck{a b}(h:Cm a b=true):a=b:=by
 rcases a with _|n
 ·rcases b with _|_
  ·rfl
  ·exact bT h
 ·rcases b with _|m
  ·exact bT h
  ·exact bl _ (cf h)
def Q9(ft:FT)(a b:SE):Option Int:=(UQ a).bind λx=>(UQ b).bind λy=>Bool.rec ((WC ft x.1).bind λl=>(WN ft y.1).bind λh=>some (l+x.2 - (h+y.2))) (some (x.2 - y.2)) (Cm x.1 y.1)
def HR{ft:FT}(F:aI σ ft){a b:SE}{d}(h:Q9 ft a b=some d):d<=a.ev σ.ν - b.ev σ.ν:=by
 refine aH (cU h) λx e1 h=>?_
 refine aH (cU h) λy e2 h=>?_
 rw[Dx a x e1,Dx b y e2]
 revert h
 rcases e:Cm x.1 y.1 with _|_
 ·intro h
  refine aH (cU h) λl e1 h=>?_
  refine aH (cU h) λk e2 h=>?_
  have:=Na F e1
  have:=NY F e2
  obtain rfl:=oI h;lia
 ·intro h;obtain rfl:=oI h;rw[Ck e];lia
def Ni(ft:FT)(k:Int)(a b:SE):Bool:=ob (Q9 ft b a) λd=>KJ k d
def lF{ft:FT}(F:aI σ ft){k}{a b:SE}(h:Ni ft k a b=true):a.ev σ.ν+k<=b.ev σ.ν:=ay h λd e h=>by
 have:=HR F e
 have:=jn.mp h
 lia
def Yp(ft:FT)(a b:SE):Option Bool:=Bool.rec (Bool.rec (Bool.rec (Bool.rec .none (some true) (bb (Ni ft 0 a b) (Ni ft 0 b a))) (some false) (Ni ft 1 b a)) (some false) (Ni ft 1 a b)) (some true) (SE.beq a b)
def yS(ft:FT)(a b:SE):Option Bool:=Bool.rec (Yp ft a b) (some (pN a.i b.i)) (bb (Nat.beq a.tag 0) (Nat.beq b.tag 0))
def fb{b:Bool}{o:Option Bool}{x r:Bool}{C:Prop}(h:(Bool.rec o (some x) b:Option Bool)=some r)(k:b=true->x=r->C)(k':b=false->o=some r->C):C:=match b with
 | true=>k rfl (j1 h)
 | false=>k' rfl h
def ce{a:SE}(h:Nat.beq a.tag 0=true):a=.lit a.i:=by have:=SE.of_eq a;rw[cf h] at this;exact this.symm
def jS{ft:FT}(F:aI σ ft){a b:SE}{r:Bool}(h:yS ft a b=some r):(a.ev σ.ν == b.ev σ.ν)=r:=
 fb h (λh e=>ag h λh1 h2=>by
   rw[ce h1,ce h2,<-e]
   exact Bool.eq_iff_iff.mpr (cS.trans cw.symm))
  λ_ h=>fb h (λh e=>by rw[SE.eq_of_beq _ h,<-e];exact beq_self_eq_true _)
  λ_ h=>fb h (λh e=>by rw[<-e];exact pG.mpr (by have:=lF F h;lia))
  λ_ h=>fb h (λh e=>by rw[<-e];exact pG.mpr (by have:=lF F h;lia))
  λ_ h=>fb h (λh e=>ag h λh1 h2=>by rw[<-e];exact cS.mpr (by have:=lF F h1;have:=lF F h2;lia)) λ_ h=>nomatch h
def Q8(ft:FT)(a b:SE):Option Bool:=Bool.rec (Bool.rec (Bool.rec .none (some false) (Ni ft 0 b a)) (some true) (Ni ft 1 a b)) (some (KJ b.i a.i).not) (bb (Nat.beq a.tag 0) (Nat.beq b.tag 0))
def Do{ft:FT}(F:aI σ ft){a b:SE}{r:Bool}(h:Q8 ft a b=some r):decide (a.ev σ.ν < b.ev σ.ν)=r:=
 fb h (λh e=>ag h λh1 h2=>by
   rw[ce h1,ce h2,<-e]
   show decide (a.i < b.i)=_
   rcases q:KJ b.i a.i with _|_
   ·exact gJ (NV q)
   ·exact jZ (Int.not_lt.mpr (jn.mp q)))
  λ_ h=>fb h (λh e=>by rw[<-e];exact gJ (by have:=lF F h;omega))
  λ_ h=>fb h (λh e=>by rw[<-e];exact jZ (by have:=lF F h;omega)) λ_ h=>nomatch h
def HG(o:Option Bool):Option Bool:=o.map Bool.not
def yg{o:Option Bool}{r:Bool}(h:HG o=some r):o=some r.not:=by
 refine aH (fp h) λb e h=>?_
 rw[e,<-h,Bool.not_not]
def SI(ft:FT)(op:CmpOp)(a b:SE):Option Bool:=match op with
 | .Eq=>yS ft a b
 | .NotEq=>HG (yS ft a b)
 | .Lt=>Q8 ft a b
 | .GtE=>HG (Q8 ft a b)
 | .Gt=>Q8 ft b a
 | .LtE=>HG (Q8 ft b a)
 | _=>.none
noncomputable def ws(op:CmpOp)(a b:Int):Option Bool:=match op with
 | .Eq=>some (a == b)
 | .NotEq=>some (a == b).not
 | .Lt=>some (decide (a < b))
 | .LtE=>some (decide (b < a)).not
 | .Gt=>some (decide (b < a))
 | .GtE=>some (decide (a < b)).not
 | _=>none
def y9{b r:Bool}(h:b=r.not):b.not=r:=by rw[h,Bool.not_not]
def Ja{ft:FT}(F:aI σ ft){op a b r}(h:SI ft op a b=some r):ws op (a.ev σ.ν) (b.ev σ.ν)=some r:=by
 induction op using CmpOp.casesOn with
 | Eq=>exact bl some (jS F h)
 | NotEq=>exact bl some (y9 (jS F (yg h)))
 | Lt|Gt=>exact bl some (Do F h)
 | LtE|GtE=>exact bl some (y9 (Do F (yg h)))
 | _=>exact oN h
def V.tag:V->Nat
 | .none=>0| .bool _=>1| .int _=>2| .sym _=>3| .any=>4| .clo _=>5| .b_ _=>6| .Y8 _=>7| .rng _ _=>8| .str _=>9| .tup _=>10| .ref _=>11| .glob _=>12| .bi _=>13| .ty _=>14| .fls _=>15| .fin _ _=>16| .pat _=>17
def V.xb:V->Bool
 | .bool b=>b
 | _=>false
def V.xi:V->Int
 | .int i| .clo i=>i
 | _=>0
def V.xn:V->Nat
 | .b_ n| .ref n| .glob n| .fin n _| .pat n=>n
 | _=>0
def V.xe:V->SE
 | .sym e| .rng e _=>e
 | _=>.at 0
def V.xf:V->SE
 | .rng _ e=>e
 | _=>.at 0
noncomputable def V.xs:V->Str
 | .str s=>s
 | _=>""
def V.xd:V->String
 | .bi s| .ty s=>s
 | _=>""
def V.xl:V->List V
 | .tup l| .fls l=>l
 | _=>[]
def V.xj:V->List (Int×V)
 | .Y8 l=>l
 | _=>[]
def V.xa:V->List (Nat×V)
 | .fin _ l=>l
 | _=>[]
def V.of(v:V):Nat->V
 | 0=>.none|1=>.bool v.xb|2=>.int v.xi|3=>.sym v.xe|4=>.any|5=>.clo v.xi|6=>.b_ v.xn|7=>.Y8 v.xj|8=>.rng v.xe v.xf|9=>.str v.xs|10=>.tup v.xl|11=>.ref v.xn|12=>.glob v.xn|13=>.bi v.xd|14=>.ty v.xd|15=>.fls v.xl|16=>.fin v.xn v.xa|_=>.pat v.xn
def V.of_eq(v:V):v.of v.tag=v:=by induction v using V.casesOn <;> exact rfl
def V.is{v:V}{k:Nat}(h:Nat.beq v.tag k=true):v=v.of k:=by rw[<-cf h,V.of_eq]
def RV.at{v u}{k:Nat}(r:RV c p v u)(h:Nat.beq v.tag k=true):Wc c p u (v.of k):=V.is h▸r.inv
def kX(a b:Str):Bool:=Nat.beq (code a) (code b)
def dn{a b:Str}:kX a b=true↔a=b:=(Eq.to_iff Nat.beq_eq).trans gi
def pQ(a b:Bool):Bool:=Bool.rec b.not b a
def sD{a b:Bool}(h:pQ a b=true):a=b:=by induction a using bC <;> induction b using bC <;> first|rfl|exact bT h
def bf{α:Type}(l:List α):Bool:=List.rec true (λ_ _ _=>false) l
def aG{α:Type}{l:List α}(h:bf l=true):l=[]:=by
 rcases l with _|⟨_,_⟩
 ·rfl
 ·exact bT h
def bR{α:Type}(l:List α)(f:α->List α->Bool):Bool:=List.rec false (λa r _=>f a r) l
def aZ{α:Type}{C:Prop}{l:List α}{f:α->List α->Bool}(h:bR l f=true)(k:∀a r,l=a::r->f a r=true->C):C:=by
 rcases l with _|⟨a,r⟩
 ·exact bT h
 ·exact k a r rfl h
def V.one{α:Type}{x:α}{b:V}{k:Nat}{t:Bool}(C:α->V){y:α}(h:bb (Nat.beq b.tag k) t=true)(e:C y=b.of k)(f:t=true->x=y):C x=b:=
 ag h λh h'=>by rw[f h',e];exact(V.is h).symm
abbrev jJ{α:Type}(a:α):={f:α->Bool // ∀b,f b=true->a=b}
def jJ.nil{α:Type}:jJ ([]:List α):=⟨bf,λb h=>(aG h).symm⟩
def jJ.cons{α:Type}{a:α}{r:List α}(F:jJ a)(G:jJ r):jJ (a::r):=⟨λl=>bR l λx y=>bb (F.1 x) (G.1 y),λb h=>aZ h λx y e h=>ag h λh h'=>by rw[e,F.2 _ h,G.2 _ h']⟩
def jJ.v{α:Type}{x:α}(C:α->V)(k:Nat)(g:V->α)(F:jJ x)(e:∀b:V,C (g b)=b.of k):jJ (C x):=⟨λb=>bb (Nat.beq b.tag k) (F.1 (g b)),λb h=>V.one C h (e b) (F.2 _)⟩
def jJ.i(x:Int):jJ x:=⟨pN x,λ_=>cw.mp⟩
def jJ.nt(x:Nat):jJ x:=⟨Nat.beq x,λ_=>cf⟩
def jJ.d(x:String):jJ x:=⟨λy=>decide (x=y),λ_=>mB⟩
def jJ.e(x:SE):jJ x:=⟨SE.beq x,SE.eq_of_beq⟩
def jJ.pr{α β:Type}{x:α}{y:β}(F:jJ x)(G:jJ y):jJ (x,y):=⟨λb=>bb (F.1 b.1) (G.1 b.2),λb h=>ag h λe1 e2=>by rw[F.2 _ e1,G.2 _ e2]⟩
def V.YX(a:V):jJ a:=V.rec (motive_1:=jJ) (motive_2:=jJ) (motive_3:=jJ) (motive_4:=jJ) (motive_5:=jJ) (motive_6:=jJ)
 ⟨λb=>Nat.beq b.tag 0,λ_ h=>(V.is h).symm⟩ (λx=>.v .bool 1 V.xb ⟨pQ x,λ_=>sD⟩ λ_=>rfl) (λx=>.v .int 2 V.xi (.i x) λ_=>rfl) (λx=>.v .sym 3 V.xe (.e x) λ_=>rfl) ⟨λb=>Nat.beq b.tag 4,λ_ h=>(V.is h).symm⟩ (λx=>.v .clo 5 V.xi (.i x) λ_=>rfl) (λx=>.v .b_ 6 V.xn (.nt x) λ_=>rfl)
 (λ_ f=>.v .Y8 7 V.xj f λ_=>rfl) (λx y=>.v (λz=>.rng z.1 z.2) 8 (λb=>(b.xe,b.xf)) (.pr (.e x) (.e y)) λ_=>rfl) (λx=>.v .str 9 V.xs ⟨kX x,λ_=>dn.mp⟩ λ_=>rfl) (λ_ f=>.v .tup 10 V.xl f λ_=>rfl) (λx=>.v .ref 11 V.xn (.nt x) λ_=>rfl) (λx=>.v .glob 12 V.xn (.nt x) λ_=>rfl)
 (λx=>.v .bi 13 V.xd (.d x) λ_=>rfl) (λx=>.v .ty 14 V.xd (.d x) λ_=>rfl) (λ_ f=>.v .fls 15 V.xl f λ_=>rfl) (λx _ f=>.v (λz=>.fin z.1 z.2) 16 (λb=>(b.xn,b.xa)) (.pr (.nt x) f) λ_=>rfl) (λx=>.v .pat 17 V.xn (.nt x) λ_=>rfl)
 .nil (λ_ _ f g=>.cons f g) .nil (λ_ _ f g=>.cons f g) .nil (λ_ _ f g=>.cons f g) (λx _ f=>.pr (.i x) f) (λx _ f=>.pr (.nt x) f) a
def V.beq(a:V):V->Bool:=a.YX.1
def V.eq_of_beq{a:V}:∀b,V.beq a b=true->a=b:=a.YX.2
def Qd(l:List V):jJ l:=List.rec .nil (λv _ f=>.cons v.YX f) l
def jF(l:List V):List V->Bool:=(Qd l).1
def i9{a:List V}:∀b,jF a b=true->a=b:=(Qd a).2
def nz(v:V):Option SE:=Bool.rec (Bool.rec .none (some v.xe) (Nat.beq v.tag 3)) (some (.lit v.xi)) (Nat.beq v.tag 2)
def HH(e:SE):V:=Bool.rec (.sym e) (.int e.i) (Nat.beq e.tag 0)
def eX{α:Type}{b:Bool}{o:Option α}{x r:α}{C:Prop}(h:(Bool.rec o (some x) b:Option α)=some r)(k:b=true->x=r->C)(k':b=false->o=some r->C):C:=match b with
 | true=>k rfl (j1 h)
 | false=>k' rfl h
def dN{v:V}{x:SE}{u:Value}(h:RV c p v u)(e:nz v=some x):∃t,u=.int (x.ev c.σ.ν) t:=
 eX e (λe e'=>e'▸h.at e) λ_ e=>eX e (λe e'=>e'▸h.at e) λ_ e=>nomatch e
def ly(e:SE)(t:Tok):RV c p (HH e) (.int (e.ev c.σ.ν) t):=by
 unfold HH
 rcases h:Nat.beq e.tag 0 with _|_
 ·exact .sym _ _
 ·rw[ce h];exact .int _ _
def dh{κ:Type}[DecidableEq κ](k:κ)(x:κ×Value)(r:List (κ×Value)):valueAt (x::r) k=if x.1=k then some x.2 else valueAt r k:=by
 unfold valueAt
 rw[List.find?_cons]
 by_cases h:x.1=k
 ·rw[if_pos h,gJ h];rfl
 ·rw[if_neg h,jZ h]
theorem me{κ:Type}[DecidableEq κ](k x:κ)(v:Value):∀r:List (κ×Value),r.any (λkv=>kv.1=k)=true->valueAt (r.map λp=>if p.1=k then(p.1,v) else p) x=if k=x then some v else valueAt r x
 | [],h=>nomatch h
 | y::r,h=>by
  rw[jr,dh,dh x y]
  rw[List.any_cons] at h
  rcases hr:r.any (λkv=>kv.1=k) with _|_
  ·rw[hr,Bool.or_false] at h
   have q:y.1=k:=mB h
   have e:(r.map λp=>if p.1=k then(p.1,v) else p)=r:=by
    have:∀p∈r,(if p.1=k then(p.1,v) else p)=p:=λp hp=>if_neg λe=>by
     have:=List.any_eq_false.mp hr p hp
     exact this (gJ e)
    rw[List.map_congr_left this,List.map_id']
   rw[e,if_pos q,q]
   by_cases z:k=x
   ·rw[if_pos z,if_pos z]
   ·rw[if_neg z,if_neg z,if_neg z]
  ·rw[me k x v r hr]
   by_cases q:y.1=k
   ·rw[if_pos q,q]
    by_cases z:k=x
    ·rw[if_pos z,if_pos z]
    ·rw[if_neg z,if_neg z,if_neg z];exact(if_neg z).symm
   ·rw[if_neg q]
    by_cases z:y.1=x
    ·rw[if_pos z,if_pos z,if_neg λe=>q (z.trans e.symm)]
    ·rw[if_neg z,if_neg z]
theorem j9{κ:Type}[DecidableEq κ](k x:κ)(v:Value):∀r:List (κ×Value),r.any (λkv=>kv.1=k)=false->valueAt (r++[(k,v)]) x=if k=x then some v else valueAt r x
 | [],_=>dh x (k,v) []
 | y::r,h=>by
  rw[List.any_cons,Bool.or_eq_false_iff] at h
  rw[List.cons_append,dh,dh,j9 k x v r h.2]
  by_cases z:y.1=x
  ·rw[if_pos z,if_pos z,if_neg λe=>of_decide_eq_false h.1 (z.trans e.symm)]
  ·rw[if_neg z,if_neg z]
def b7{κ:Type}[DecidableEq κ](k x:κ)(v:Value)(r:List (κ×Value)):valueAt (stored r k v) x=if k=x then some v else valueAt r x:=by
 unfold stored
 rcases h:r.any (λkv=>kv.1=k) with _|_
 ·exact j9 k x v r h
 ·exact me k x v r h
def sF{κ:Type}[DecidableEq κ](xs:List (κ×Addr×Value))(k:κ)(a:Addr)(v:Value)(x:κ):(atKey (storedH xs k a v) x).map (·.2)=if k=x then some v else(atKey xs x).map (·.2):=by
 rw[<-valueAt_kvsOf,kvsOf_storedH,b7,valueAt_kvsOf]
def Rd(c:Cx)(s:Shared)(M:Sem Value)(v:Value):Prop:=∀{A:Around} {E:Value->Shared->Prop} {Q:Value->Shared->Prop},A.units+4<=cLine->(∀n,Q v {s with toks:=n})->wpAny (Mo c) A M Q E s
structure pB(c:Cx)(s:Shared)(d:Addr)(kv:Value)(r:Option Value):Prop where
 ty:s.TypeIs (.ref d) "dict"
 item:∀{v},r=some v->Rd c s (getItem (.ref d) kv) v
 inn:Rd c s (compareOp .In kv (.ref d)) (.bool r.isSome)
 notin:Rd c s (compareOp .NotIn kv (.ref d)) (.bool r.isSome.not)
 get1:Rd c s (call (.builtin "dict.get") [.ref d,kv]) (r.getD .none)
 get2:∀{mM},Rd c s (call (.builtin "dict.get") [.ref d,kv,mM]) (r.getD mM)
def eS{κ:Type}[DecidableEq κ]{knd:KeyKind PW c.w κ}{s:Shared}{d:Addr}{o:Obj}{xs:List (κ×Value)}{k:κ}{kv:Value}
  (hg:s.heap.get? d=some o) (ho:o.IsDictOf knd xs) (lo:(d == sysModules)=false) (hk:knd.is k kv=true):pB c s d kv (valueAt xs k):=
 have D:s.heap.DictOf knd d xs:=ll.mpr ⟨o,hg,ho⟩
 {ty:=D.typeIs
  item:=λhr _ _ _ _ q=>wpAny_getItem_of hk D.mapOf hr (q _)
  inn:=λ_ q=>wpAny_in_of hk lo D.mapOf (q _)
  notin:=λ_ q=>wpAny_notIn_of hk lo D.mapOf (q _)
  get1:=λ_ q=>call_meetsIn PySem.F.slot_dict_get D.typeIs PySem.F.entry_dict_get (PySem.F.args_dict_get_2 _ _) (meets_dict_get knd d hk lo) ⟨_,D.mapOf,q _⟩
  get2:=λ_ q=>call_meetsIn PySem.F.slot_dict_get D.typeIs PySem.F.entry_dict_get (PySem.F.args_dict_get_3 _ _ _) (meets_dict_get_default knd d hk lo _) ⟨_,D.mapOf,q _⟩}
def o0{κ:Type}[DecidableEq κ]{knd:HeapKind PW c.w κ}{s:Shared}{d a:Addr}{xs:List (κ×Addr×Value)}{k:κ}
  (hr:∀A:Around,A.units+4<=cLine->knd.room A.in1) (D:s.heap.DictOfH knd d xs) (lo:(d == sysModules)=false) (hk:knd.is s.heap k a):pB c s d (.ref a) ((atKey xs k).map (·.2)):=
 have e:((atKey xs k).map (·.2)).isSome=(atKey xs k).isSome:=Option.isSome_map
 {ty:=D.typeIs
  item:=λhv _ _ _ hu q=>(fp hv).elim λp h=>wpAny_getItem_heap (hr _ hu) hk D h.1 (h.2.symm▸q _)
  inn:=λhu q=>wpAny_in_heap (hr _ hu) hk lo D (e▸q _)
  notin:=λhu q=>wpAny_notIn_heap (hr _ hu) hk lo D (e▸q _)
  get1:=λhu q=>call_meetsIn PySem.F.slot_dict_get D.typeIs PySem.F.entry_dict_get (PySem.F.args_dict_get_2 _ _) (meetsH_dict_get knd d a lo) ⟨hr _ hu,k,xs,hk,D,q _⟩
  get2:=λhu q=>call_meetsIn PySem.F.slot_dict_get D.typeIs PySem.F.entry_dict_get (PySem.F.args_dict_get_3 _ _ _) (meetsH_dict_get_default knd d a lo _) ⟨hr _ hu,k,xs,hk,D,q _⟩}
def nU(w:World)(f:Nat->Ty)(A:Around)(h:A.units+4<=cLine):(qS PW w f).room A.in1:=by
 show A.in1.units+3<=cLine
 rw[units_in1];omega
def lJ(v:V):Option KD:=V.rec (motive_1:=λ_=>Option KD) (motive_2:=λ_=>Unit) (motive_3:=λ_=>Option (List KD)) (motive_4:=λ_=>Unit) (motive_5:=λ_=>Unit) (motive_6:=λ_=>Unit)
 .none (λ_=>.none) (λi=>some (.int (.lit i))) (λe=>some (.int e)) .none (λ_=>.none) (λ_=>.none) (λ_ _=>.none) (λ_ _=>.none) (λs=>some (.str s)) (λ_ f=>f.map .tup) (λ_=>.none) (λ_=>.none) (λ_=>.none) (λ_=>.none) (λ_ _=>.none) (λ_ _ _=>.none) (λ_=>.none)
 () (λ_ _ _ _=>()) (some []) (λ_ _ f g=>f.bind λk=>g.map (k::·)) () (λ_ _ _ _=>()) (λ_ _ _=>()) (λ_ _ _=>()) v
def Rw(v:List V):Option (List KD):=V.rec_2 (motive_1:=λ_=>Option KD) (motive_2:=λ_=>Unit) (motive_3:=λ_=>Option (List KD)) (motive_4:=λ_=>Unit) (motive_5:=λ_=>Unit) (motive_6:=λ_=>Unit)
 .none (λ_=>.none) (λi=>some (.int (.lit i))) (λe=>some (.int e)) .none (λ_=>.none) (λ_=>.none) (λ_ _=>.none) (λ_ _=>.none) (λs=>some (.str s)) (λ_ f=>f.map .tup) (λ_=>.none) (λ_=>.none) (λ_=>.none) (λ_=>.none) (λ_ _=>.none) (λ_ _ _=>.none) (λ_=>.none)
 () (λ_ _ _ _=>()) (some []) (λ_ _ f g=>f.bind λk=>g.map (k::·)) () (λ_ _ _ _=>()) (λ_ _ _=>()) (λ_ _ _=>()) v
def iw{v u}(r:RV c p v u):∀kd,lJ v=some kd->RV c p (KD.ev c.σ.ν kd).toV u:=
 RV.rec (motive_1:=λv u _=>∀kd,lJ v=some kd->RV c p (KD.ev c.σ.ν kd).toV u) (motive_2:=λl us _=>∀kl,Rw l=some kl->bG c p (aA.Zy (KD.Z7 c.σ.ν kl)) us) (motive_3:=λ_ _ _=>True) (motive_4:=λ_ _ _=>True)
  (λ_ e=>nomatch e) (λ_ _ e=>nomatch e) (λi t kd e=>by obtain rfl:=oI e;exact .int i t) (λe t kd h=>by obtain rfl:=oI h;exact .int _ t) (λ_ _ e=>nomatch e) (λ_ _ _ e=>nomatch e) (λ_ _ _ e=>nomatch e) (λ_ _ e=>nomatch e) (λ_ _ _ _ _ _ e=>nomatch e) (λs t kd e=>by obtain rfl:=oI e;exact .str s t)
  (λh _ ih kd e=>by refine aH (fp e) λl e1 e2=>?_;subst e2;exact .tup h (ih l e1)) (λ_ _ e=>nomatch e) (λ_ _ e=>nomatch e) (λ_ _ _ e=>nomatch e) (λ_ _ e=>nomatch e) (λ_ _ _ _ e=>nomatch e) (λ_ _ _ _ _ e=>nomatch e) (λ_ _ _ e=>nomatch e)
  (λkl e=>by obtain rfl:=oI e;exact .nil) (λ_ _ i1 i2 kl e=>by refine aH (cU e) λk e1 e=>?_;refine aH (fp e) λl e2 e=>?_;subst e;exact .cons (i1 k e1) (i2 l e2)) trivial (λ_ _ _ _=>trivial) trivial (λ_ _ _ _=>trivial) r
def so{T k u}(r:RV c p k.toV u)(e:yQ T k=true):dY T k u:=by
 induction T using Ty.casesOn with
 | int=>induction k using aA.casesOn with
  | int i=>have⟨t,e⟩:=r.inv;rw[e];exact .inl ⟨_,_,rfl,rfl,rfl⟩
  | _=>exact bT e
 | str=>induction k using aA.casesOn with
  | str i=>have⟨t,e⟩:=r.inv;rw[e];exact .inr ⟨_,_,rfl,rfl,rfl⟩
  | _=>exact bT e
 | tup=>exact bT e
def DP{R:Ty->aA->Bool}{R':Ty->aA->Value->Prop}(hR:∀{T k u},RV c p k.toV u->R T k=true->R' T k u)(l:List aA):∀{f:Nat->Ty} {us:List Value},bG c p (aA.Zy l) us->pV R f l=true->bz R' f l us:=by
 induction l with
 | nil=>intro f us r _;have e:us=[]:=r.inv;rw[e];exact .nil
 | cons k l ih=>
  intro f us r e
  refine eC r.inv λu Za e' h1 h2=>?_
  have e:(R (f 0) k && pV R (λi=>f (i+1)) l)=true:=e
  rw[s5] at e
  rw[e'];exact .cons (hR h1 e.1) (ih h2 e.2)
def kO{h:Heap}(im:∀{b o},nB c p b o->h.get? b=some o)(n:Nat):∀{T:Ty} {k:aA} {u:Value},RV c p k.toV u->zy n T k=true->bB h n T k u:=by
 induction n with
 | zero=>exact λr e=>so r e
 | succ n ih=>
  intro T k u r e
  induction T using Ty.casesOn with
  | tup f=>induction k using aA.casesOn with
   | tup l=>
    refine mE r.inv λa items m e' hi hr=>?_
    exact .inr ⟨f,l,a,_,_,m,rfl,rfl,e',im hi,rfl,rfl,DP ih l hr e⟩
   | _=>exact .inl (so r e)
  | _=>exact .inl (so r e)
def yR(T:Ty)(k:KD):Bool:=Ty.rec (KD.rec (motive_1:=λ_=>Bool) (motive_2:=λ_=>Unit) (λ_=>true) (λ_=>false) (λ_ _=>false) () (λ_ _ _ _=>()) k) (KD.rec (motive_1:=λ_=>Bool) (motive_2:=λ_=>Unit) (λ_=>false) (λ_=>true) (λ_ _=>false) () (λ_ _ _ _=>()) k) (λ_ _=>false) T
def P8(R:Ty->KD->Bool)(l:List KD):(Nat->Ty)->Bool:=List.rec (λ_=>true) (λk _ g f=>bb (R (f 0) k) (g λi=>f (i+1))) l
def Kc(n:Nat):Ty->KD->Bool:=Nat.rec yR (λ_ R T k=>Ty.rec (yR .int k) (yR .str k) (λf _=>KD.rec (motive_1:=λ_=>Bool) (motive_2:=λ_=>Unit) (λ_=>false) (λ_=>false) (λl _=>P8 R l f) () (λ_ _ _ _=>()) k) T) n
def oV{ν}{T k}(h:yR T k=true):yQ T (KD.ev ν k)=true:=by
 induction T using Ty.casesOn with
 | int=>induction k using KD.casesOn with
  | int=>rfl
  | _=>exact bT h
 | str=>induction k using KD.casesOn with
  | str=>rfl
  | _=>exact bT h
 | tup=>exact bT h
def GA{ν}{R:Ty->KD->Bool}{R':Ty->aA->Bool}(hR:∀{T k},R T k=true->R' T (KD.ev ν k)=true)(l:List KD):∀{f},P8 R l f=true->pV R' f (KD.Z7 ν l)=true:=by
 induction l with
 | nil=>exact λ_=>rfl
 | cons k l ih=>exact λh=>ag h λh1 h=>by show(R' _ _ && pV R' _ _)=true;rw[hR h1,ih h];rfl
def qL{ν}(n:Nat):∀{T k},Kc n T k=true->zy n T (KD.ev ν k)=true:=by
 induction n with
 | zero=>exact λh=>oV h
 | succ n ih=>
  intro T k h
  induction T using Ty.casesOn with
  | tup f=>induction k using KD.casesOn with
   | tup l=>exact GA (R:=Kc n) ih l h
   | _=>exact bT h
  | int=>exact oV h
  | str=>exact oV h
def bh{α:Type}(H:List α):Nat->Option α:=List.rec (λ_=>.none) (λa _ g n=>Nat.rec (some a) (λm _=>g m) n) H
def bW{α:Type}(j:Nat)(o:α)(H:List α):List α:=List.rec (motive:=λ_=>Nat->List α) (λ_=>[]) (λa r g n=>Nat.rec (o::r) (λm _=>a::g m) n) H j
def bK{α:Type}(H:List α):∀j,bh H j=H[j]?:=by
 induction H with
 | nil=>exact λ_=>rfl
 | cons a r ih=>intro j;induction j using nC with
  | zero=>exact rfl
  | succ j=>exact(ih j).trans s7.symm
def dj{α:Type}(o:α)(H:List α):∀j,bW j o H=H.set j o:=by
 induction H with
 | nil=>exact λ_=>rfl
 | cons a r ih=>intro j;induction j using nC with
  | zero=>exact rfl
  | succ j=>exact bl (a::·) (ih j)
def eQ{α:Type}{H:List α}{j o}(h:bh H j=some o):H[j]? =some o:=(bK H j).symm.trans h
def dw(o:AO):Option (List V):=match o with
 | .lst l=>some l
 | _=>.none
def jG(o:AO):Option (Nat×List V):=match o with
 | .v_ g l=>some (g,l)
 | _=>.none
def eU(o:AO):Option (Addr×List (Nat×V)):=match o with
 | .inst C l=>some (C,l)
 | _=>.none
def lU(o:AO):Option (List (Nat×V)):=match o with
 | .ds l=>some l
 | _=>.none
def pS(o:AO):Option (List (SE×V)×Option Nat):=match o with
 | .di l g=>some (l,g)
 | _=>.none
def vh(o:AO):Option (List (Int×V×Option Bool)):=match o with
 | .dc l=>some l
 | _=>.none
def pR(o:AO):Option (Nat×List (KD×Option Nat×V)):=match o with
 | .dt t l=>some (t,l)
 | _=>.none
def bU{o l}(h:dw o=some l):o=.lst l:=by induction o using AO.casesOn with
 | lst=>obtain rfl:=Eq.symm (oI h);rfl
 | _=>exact aj h
def eA{o l}(h:jG o=some l):o=.v_ l.1 l.2:=by induction o using AO.casesOn with
 | v_=>obtain rfl:=oI h;rfl
 | _=>exact aj h
def bZ{o l}(h:eU o=some l):o=.inst l.1 l.2:=by induction o using AO.casesOn with
 | inst=>obtain rfl:=oI h;rfl
 | _=>exact aj h
def dp{o l}(h:lU o=some l):o=.ds l:=by induction o using AO.casesOn with
 | ds=>obtain rfl:=Eq.symm (oI h);rfl
 | _=>exact aj h
def eZ{o l}(h:pS o=some l):o=.di l.1 l.2:=by induction o using AO.casesOn with
 | di=>obtain rfl:=oI h;rfl
 | _=>exact aj h
def iB{o l}(h:vh o=some l):o=.dc l:=by induction o using AO.casesOn with
 | dc=>obtain rfl:=Eq.symm (oI h);rfl
 | _=>exact aj h
def fS{o l}(h:pR o=some l):o=.dt l.1 l.2:=by induction o using AO.casesOn with
 | dt=>obtain rfl:=oI h;rfl
 | _=>exact aj h
def Kz(k:KD):Option SE:=KD.rec (motive_1:=λ_=>Option SE) (motive_2:=λ_=>Unit) some (λ_=>.none) (λ_ _=>.none) () (λ_ _ _ _=>()) k
def Ib(k:KD):Option Str:=KD.rec (motive_1:=λ_=>Option Str) (motive_2:=λ_=>Unit) (λ_=>.none) some (λ_ _=>.none) () (λ_ _ _ _=>()) k
def Rx(k:KD):Option (List KD):=KD.rec (motive_1:=λ_=>Option (List KD)) (motive_2:=λ_=>Unit) (λ_=>.none) (λ_=>.none) (λl _=>some l) () (λ_ _ _ _=>()) k
def lL{k x}(h:Kz k=some x):k=.int x:=by induction k using KD.casesOn with
 | int=>obtain rfl:=Eq.symm (oI h);rfl
 | _=>exact aj h
def lK{k x}(h:Ib k=some x):k=.str x:=by induction k using KD.casesOn with
 | str=>obtain rfl:=Eq.symm (oI h);rfl
 | _=>exact aj h
def DL{k x}(h:Rx k=some x):k=.tup x:=by induction k using KD.casesOn with
 | tup=>obtain rfl:=Eq.symm (oI h);rfl
 | _=>exact aj h
def AX(x y:Option Bool):Option Bool:=oi' x (λb=>Bool.rec (some false) y b) (y.bind λb=>Bool.rec (some false) .none b)
where oi' (x:Option Bool) (f:Bool->Option Bool) (d:Option Bool):Option Bool:=Option.rec d f x
def Id(ft:FT)(a:KD):KD->Option Bool:=KD.rec (motive_1:=λ_=>KD->Option Bool) (motive_2:=λ_=>List KD->Option Bool)
 (λx b=>(Kz b).bind λy=>yS ft x y) (λs b=>(Ib b).map λt=>kX s t) (λ_ f b=>(Rx b).bind f)
 (λb=>some (bf b)) (λ_ _ f g b=>List.rec (some false) (λy r _=>AX (f y) (g r)) b) a
def zk{x y:Option Bool}{P Q R:Prop}{r}(hx:∀b,x=some b->(b=true↔P))(hy:∀b,y=some b->(b=true↔Q))(hr:R↔P/\Q)(h:AX x y=some r):r=true↔R:=by
 rw[hr]
 rcases x with _|b
 ·rcases y with _|b
  ·exact oN h
  ·rcases b with _|_
   ·obtain rfl:=oI h;exact⟨λh=>(nomatch h),λh=>(hy _ rfl).mpr h.2⟩
   ·exact oN h
 ·rcases b with _|_
  ·obtain rfl:=oI h;exact⟨λh=>(nomatch h),λh=>(hx _ rfl).mpr h.1⟩
  ·exact⟨λe=>⟨(hx _ rfl).mp rfl,(hy _ h).mp e⟩,λe=>(hy _ h).mpr e.2⟩
def Ic{ft:FT}(F:aI σ ft)(a:KD):∀b r,Id ft a b=some r->(r=true↔KD.ev σ.ν a=KD.ev σ.ν b):=
 KD.rec (motive_1:=λa=>∀b r,Id ft a b=some r->(r=true↔KD.ev σ.ν a=KD.ev σ.ν b)) (motive_2:=λl=>∀b r,(KD.rec_1 (motive_1:=λ_=>KD->Option Bool) (motive_2:=λ_=>List KD->Option Bool)
 (λx b=>(Kz b).bind λy=>yS ft x y) (λs b=>(Ib b).map λt=>kX s t) (λ_ f b=>(Rx b).bind f)
 (λb=>some (bf b)) (λ_ _ f g b=>List.rec (some false) (λy r _=>AX (f y) (g r)) b) l) b=some r->(r=true↔KD.Z7 σ.ν l=KD.Z7 σ.ν b))
  (λx b r h=>by
   refine aH (cU h) λy e h=>?_
   rw[lL e,<-jS F h]
   exact cS.trans ⟨bl aA.int,λe=>by injection e⟩)
  (λs b r h=>by
   refine aH (fp h) λy e h=>?_
   rw[lK e,<-h]
   exact dn.trans ⟨bl aA.str,λe=>by injection e⟩)
  (λl ih b r h=>by
   refine aH (cU h) λy e h=>?_
   rw[DL e]
   exact(ih y r h).trans ⟨bl aA.tup,λe=>by injection e⟩)
  (λb r h=>by
   rcases b with _|⟨_,_⟩
   ·obtain rfl:=oI h;exact⟨λ_=>rfl,λ_=>rfl⟩
   ·obtain rfl:=oI h;exact⟨λh=>(nomatch h),nofun⟩)
  (λk l i1 i2 b r h=>by
   rcases b with _|⟨y,b⟩
   ·obtain rfl:=oI h;exact⟨λh=>(nomatch h),nofun⟩
   ·exact zk (i1 y) (i2 b) ⟨λh=>List.cons.inj h,λh=>List.cons_eq_cons.mpr h⟩ h) a
def aN.cond{a:Act c}{loc Y s}(S:aN a p loc Y s){n b}(h:c.σ.β n=b):aN a p loc ⟨(n,b)::Y.pc,Y.H⟩ s:=match S with
 | ⟨m,⟨st,le,cv,pc,ge,os⟩,rl⟩=>⟨m,⟨st,le,cv,λx hx=>(dL.mp hx).elim (λq=>q▸h) (pc x),ge,os⟩,rl⟩
def aN.pcs{a:Act c}{loc Y s}(S:aN a p loc Y s):vl c.σ Y.pc:=match S with
 | ⟨_,⟨_,_,_,pc,_,_⟩,_⟩=>pc
def Oj(n:Nat)(f:Bool->Sy->Bool)(Y:Sy):Bool:=oi (Kp n Y.pc) (λb=>f b Y) (bb (f true ⟨(n,true)::Y.pc,Y.H⟩) (f false ⟨(n,false)::Y.pc,Y.H⟩))
def IP{a:Act c}{loc Y s n f}{C:Prop}(S:aN a p loc Y s)(h:Oj n f Y=true)(K:∀pc,aN a p loc ⟨pc,Y.H⟩ s->f (c.σ.β n) ⟨pc,Y.H⟩=true->C):C:=
 bq h (λb e h=>K _ S (CO S.pcs e▸h)) λ_ h=>ag h λh1 h2=>K _ (S.cond rfl) (match e:c.σ.β n with|true=>h1|false=>h2)
def WD(ft:FT)(g:Option Nat)(e:SE)(k:Option V->Bool)(l:List (SE×V)):Bool:=List.rec (oi g (λg=>ob (mq (λx=>bb (Nat.beq g x.1) (SE.beq e x.2.1)) ft.df) λx=>k x.2.2) (k .none)) (λx _ f=>ob (yS ft x.1 e) λb=>bi b (k (some x.2)) f) l
def Nd{ft:FT}(F:aI c.σ ft){g e k}{C:Prop}(l:List (SE×V)):WD ft g e k l=true->(∀ro,k ro=true->(∀y,au c p (cB c.σ l g (e.ev c.σ.ν)) y->au c p ro y)->C)->C:=by
 induction l with
 | nil=>
  intro h K
  refine bq h (λg' e' h=>ay h λx ex h=>cD ex λm t=>K _ h λy hb=>?_) λe' h=>K _ h λy hb=>by rw[e'] at hb;exact hb
  refine bS (al.mp t) λt1 t2=>?_
  rw[e'] at hb
  have hb:au c p (c.σ.δ g' (e.ev c.σ.ν)) y:=hb
  rw[cf t1,SE.eq_of_beq _ t2] at hb
  refine(F.df x m).elim (λz=>by rw[z.2] at hb;rw[z.1];exact hb) λz=>?_
  refine eC z λv v' e1 e2 cn=>?_
  rw[e2] at hb;rw[e1]
  rcases y with _|u
  ·exact hb
  ·exact cn rfl hb
 | cons x l ih=>
  intro h K
  refine ay h λb eb h=>?_
  have hq:=jS F eb
  have hl:cB c.σ (x::l) g (e.ev c.σ.ν)=if x.1.ev c.σ.ν=e.ev c.σ.ν then some x.2 else cB c.σ l g (e.ev c.σ.ν):=rfl
  rw[hl] at K
  refine bH h (λe1 h=>K _ h λy hb=>?_) λe1 h=>ih h λro h1 h2=>K ro h1 λy hb=>h2 y ?_
  ·rw[if_pos (cS.mp (hq.trans e1))] at hb;exact hb
  ·rw[if_neg (pG.mp (hq.trans e1))] at hb;exact hb
def Ra(ft:FT)(key:KD)(k:Option V->Sy->Bool)(l:List (KD×Option Nat×V)):Sy->Bool:=List.rec (k .none) (λx _ g Y=>ob (Id ft x.1 key) λb=>bi b (oi x.2.1 (λn=>Oj n (λb Y=>Bool.rec (g Y) (k (some x.2.2) Y) b) Y) (k (some x.2.2) Y)) (g Y)) l
def Dv(ft:FT)(key:KD)(k:Option V->Sy->Bool)(x1 x2 x3 l Y):Ra ft key k ((x1,x2,x3)::l) Y=ob (Id ft x1 key) λb=>bi b (oi x2 (λn=>Oj n (λb Y=>Bool.rec (Ra ft key k l Y) (k (some x3) Y) b) Y) (k (some x3) Y)) (Ra ft key k l Y):=rfl
def ir(σ:Sg)(x1 x2 x3 l z){b}(h:b=true↔KD.ev σ.ν x1=z/\eL σ x2=true):dD σ ((x1,x2,x3)::l) z=Bool.rec (dD σ l z) (some x3) b:=by
 show(if _ then _ else _)=_
 rcases b with _|_
 ·exact if_neg λe=>nomatch h.mpr e
 ·exact if_pos (h.mp rfl)
def Nc{ft:FT}(F:aI c.σ ft){a:Act c}{loc s key k}{C:Prop}(l:List (KD×Option Nat×V)):∀{Y},aN a p loc Y s->Ra ft key k l Y=true->(∀pc,aN a p loc ⟨pc,Y.H⟩ s->k (dD c.σ l (KD.ev c.σ.ν key)) ⟨pc,Y.H⟩=true->C)->C:=by
 induction l with
 | nil=>exact λS h K=>K _ S h
 | cons x l ih=>
  obtain⟨x1,x2,x3⟩:=x
  intro Y S h K
  rw[Dv] at h
  refine ay h λb eb h=>?_
  have hq:=Ic F x1 key b eb
  refine bH h (λe1 h=>bq h (λn en h=>IP S h λpc S h=>?_) λen h=>?_) λe1 h=>ih S h λpc S h=>K pc S ?_
  ·rw[ir (b:=c.σ.β n) _ _ _ _ _ _ ⟨λz=>⟨hq.mp e1,by rw[en];exact z⟩,λz=>by have:=z.2;rw[en] at this;exact this⟩] at K
   revert h
   rcases e:c.σ.β n with _|_
   ·rw[e] at K;exact λh=>ih S h K
   ·rw[e] at K;exact λh=>K pc S h
  ·exact K _ S (by rw[ir (b:=true) _ _ _ _ _ _ ⟨λ_=>⟨hq.mp e1,by rw[en];rfl⟩,λ_=>rfl⟩];exact h)
  ·rw[ir (b:=false) _ _ _ _ _ _ ⟨λz=>(nomatch z),λz=>e1.symm.trans (hq.mpr z.1)⟩];exact h
def Rb(i:Int)(l:List (Int×V×Option Bool)):Option (V×Option Bool):=List.rec .none (λx _ f=>Bool.rec f (some x.2) (pN x.1 i)) l
def rn(i:Int)(l:List (Int×V×Option Bool)):Rb i l=cZ l i:=by
 induction l with
 | nil=>rfl
 | cons x l ih=>
  show Bool.rec (Rb i l) (some x.2) (pN x.1 i)=if x.1=i then some x.2 else cZ l i
  rcases h:pN x.1 i with _|_
  ·exact ih.trans (if_neg (D2 h)).symm
  ·exact(if_pos (cw.mp h)).symm
def Us(key:KD):Nat:=ad7 (Rx key) (λl=>List.rec 2 (λk _ _=>ad7 (Ib k) (λ_=>1) 2) l) 2
where ad7 {α:Type} (x:Option α) (f:α->Nat) (d:Nat):Nat:=Option.rec d f x
def DX.take{κ:Type}{s:Shared}{j x ad dd F n}{G:List κ->Prop}{C:Prop}(h:eF p j λa _=>DX x a F n G)(g_:p.ρ[j]? =some (ad,dd))(g:∀z∈x,s.heap.get? z.1=some z.2)
  (K:∀ob xs,x=[(ad,ob)]->(ad == sysModules)=false->s.heap.get? ad=some ob->F ob xs->xs.length<=n->G xs->C):C:=by
 obtain⟨a,d,e,lo,ob,xs,ex,h1,h2,h3⟩:=h
 rw[g_] at e;refine bS (fI (oI e)) λJ_ X_=>?_;obtain rfl:=J_;obtain rfl:=X_
 exact K ob xs ex lo (g _ (by rw[ex];exact .head _)) h1 h2 h3
def Ow{a:Act c}{loc Y s d o t}{xs:List (aA×Addr×Value)}(S:aN a p loc Y s)(hg:s.heap.get? d=some o)(r:JY c.w t o xs)(q:∀x∈xs,RV c p x.1.toV (.ref x.2.1)/\zy 3 (.tup (BO t)) x.1=true):s.heap.DictOfH (qS PW c.w (BO t)) d xs:=by
 obtain⟨e1,n,es,ep,e2,e3⟩:=r
 exact⟨o,es,ep,hg,e1,e2,e3,λx hx=>kO (λh=>S.get h) 3 (q x hx).1 (q x hx).2,n⟩
def oY{w:World}{ob:Obj}{xs:List (Int×Value)}(ho:ob.IsDictOf (intKind PW w) xs)(hz:xs.length<=0):(∀{κ:Type} [DecidableEq κ] (knd:KeyKind PW w κ),ob.IsDictOf knd [])/\∀t,JY w t ob []:=by
 have e0:xs=[]:=zp.mp (Nat.le_zero.mp hz)
 rw[e0] at ho
 refine Un ho λes ep e1 e2 e3 e4 e5=>?_
 have e6:es.toList=[]:=by
  rcases h6:es.toList with _|⟨p,r⟩
  ·rfl
  ·rw[h6] at e4;cases e4
 have e7:es= #[]:=Array.toList_eq_nil_iff.mp e6
 exact⟨λknd=>⟨es,ep,e1,e2,λe he=>(by rw[e7] at he;exact absurd he (Array.not_mem_empty e)),by rw[e6];exact .nil,List.nodup_nil⟩,λt=>⟨e1,List.nodup_nil,es,ep,e2,e6⟩⟩
def rF{v e kv}(h:lJ v=some (.int e))(r:RV c p v kv):∃t,kv=.int (e.ev c.σ.ν) t:=(iw r _ h).inv
def rE{v e kv}(h:lJ v=some (.str e))(r:RV c p v kv):∃t,kv=.str e t:=(iw r _ h).inv
def rD{v key kv t}(h:lJ v=some key)(ZC:Kc 3 (.tup (BO t)) key=true)(r:RV c p v kv):∃b,kv=.ref b:=by
 have hr:=(iw r _ h).inv
 induction key using KD.casesOn with
 | tup l=>exact hr.elim λa h=>h.elim λ_ h=>h.elim λ_ h=>⟨a,h.1⟩
 | _=>exact bT ZC
def TM(ft:FT)(j:Nat)(key:KD)(o:AO)(k:Option V->Sy->Bool)(Y:Sy):Bool:=
 oi (lU o) (λl=>ob (Ib key) λs=>k (lk (code s) l) Y)
 (oi (pS o) (λl=>oi (Kz key) (λe=>WD ft l.2 e (k · Y) l.1) (bb (bf l.1) (oi l.2 (λ_=>false) (oi (Ib key) (λ_=>k .none Y) (bb (Kc 3 (.tup (BO (Us key))) key) (k .none Y))))))
 (oi (vh o) (λl=>ob (Kz key) λe=>bb (Nat.beq e.tag 0) (oi (Rb e.i l) (λx=>oi x.2 (λb=>k (Bool.rec .none (some x.1) b) Y) (bb (k (some x.1) ⟨Y.pc,bW j (.dc ((e.i,x.1,some true)::l)) Y.H⟩) (k .none ⟨Y.pc,bW j (.dc ((e.i,x.1,some false)::l)) Y.H⟩))) (k .none Y)))
 (ob (pR o) λl=>bb (Kc 3 (.tup (BO l.1)) key) (Ra ft key k l.2 Y))))
def wj{ft:FT}(F:aI c.σ ft){a:Act c}{loc Y s j u o key v kv k}{C:Prop}(S:aN a p loc Y s)(hj:Y.H[j]? =some o)(hu:RV c p (.ref j) u)(q_:lJ v=some key)(hv:RV c p v kv)(h:TM ft j key o k Y=true)
  (K:∀d r ro Y',u=.ref d->pB c s d kv r->au c p ro r->aN a p loc Y' s->k ro Y'=true->C):C:=by
 refine iR hu.inv λad dd eu g_=>?_
 refine aH (S.look hj) λx R g=>?_
 refine bq h (λl e h=>?_) λ_ h=>bq h (λl e h=>?_) λ_ h=>bq h (λl e h=>?_) λ_ h=>ay h λl e h=>?_
 ·rw[dp e] at R
  exact ay h λz ez h=>DX.take R g_ g λob xs _ lo hg ho hz hA=>by
   rw[lK ez] at q_
   refine bV (rE q_ hv) λt ek=>?_
   rw[mi] at h
   exact K _ _ _ _ eu (ek▸eS hg ho lo (strKind_is PW c.w z t)) (hA z) S h
 ·rw[eZ e] at R
  refine DX.take R g_ g λob xs _ lo hg ho hz hA=>bq h (λz ez h=>?_) λ_ h=>ag h λh1 h=>bq h (λ_ _ h=>nomatch h) λh2 h=>?_
  ·rw[lL ez] at q_
   refine bV (rF q_ hv) λt ek=>?_
   exact Nd F l.1 h λro h1 h2=>K _ _ _ _ eu (ek▸eS hg ho lo (intKind_is PW c.w _ t)) (h2 _ (hA _)) S h1
  ·rw[aG h1,h2] at hz
   have E:=oY ho hz
   refine bq h (λz ez h=>?_) λ_ h=>ag h λZC h=>?_
   ·rw[lK ez] at q_
    refine bV (rE q_ hv) λt ek=>?_
    exact K _ .none .none _ eu (ek▸eS (xs:=[]) hg (E.1 (strKind PW c.w)) lo (strKind_is PW c.w z t)) trivial S h
   ·refine bV (rD q_ ZC hv) λb eb=>?_
    rw[eb] at hv
    exact K _ .none .none _ eu (eb▸o0 (xs:=[]) (nU c.w _) (Ow S hg (E.2 _) ae) lo (kO (λh=>S.get h) 3 (iw hv _ q_) (qL 3 ZC))) trivial S h
 ·rw[iB e] at R hj
  refine ay h λz ez h=>ag h λh0 h=>DX.take R g_ g λob xs ex lo hg ho hz hA=>?_
  rw[lL ez,ce h0] at q_
  refine bV (rF q_ hv) λt ek=>?_
  have D:=eS hg ho lo (ek▸intKind_is PW c.w z.i t)
  have hi:=hA z.i
  rw[rn] at h
  have upd:∀b v,bE c p (some (v,some b)) (valueAt xs z.i)->aN a p loc ⟨Y.pc,bW j (.dc ((z.i,v,some b)::l)) Y.H⟩ s:=λb v hb=>by
   rw[dj]
   refine S.at hj λx' R' g' up=>DX.take R' g_ g' λYM _ ex' _ Zf _ _ _=>up [] ad YM [] _ YM s.heap s.toks ex' (Heap.SameBut.refl _ _) Zf ⟨ad,dd,g_,lo,YM,xs,rfl,?_,Nat.le_succ_of_le hz,λy=>?_⟩
   ·rw[hg] at Zf;obtain rfl:=oI Zf;exact ho
   ·show bE c p (if z.i=y then _ else _) _
    by_cases e:z.i=y
    ·rw[if_pos e,<-e];exact hb
    ·rw[if_neg e];exact hA y
  refine bq h (λx ex h=>bq h (λb eb h=>?_) λeb h=>ag h λh1 h2=>?_) λex h=>?_
  ·obtain⟨v,b'⟩:=x
   subst eb
   rw[ex] at hi
   rcases b with _|_
   ·exact K _ _ _ _ eu D (by rw[show valueAt xs z.i=.none from hi];trivial) S h
   ·exact K _ _ _ _ eu D hi S h
  ·obtain⟨v,b'⟩:=x
   subst eb
   rw[ex] at hi
   exact hi.elim (λhi=>K _ _ _ _ eu D (by rw[hi];trivial) (upd false v hi) h2) λhi=>K _ _ _ _ eu D hi (upd true v hi) h1
  ·rw[ex] at hi
   exact K _ _ _ _ eu D (by rw[show valueAt xs z.i=.none from hi];trivial) S h
 ·rw[fS e] at R
  refine ag h λZC h=>DX.take R g_ g λob xs _ lo hg ho hz hA=>?_
  refine bV (rD q_ ZC hv) λb eb=>?_
  rw[eb] at hv
  exact Nc F l.2 S h λpc S h=>K _ _ _ _ eu (eb▸o0 (nU c.w _) (Ow S hg ho hA.1) lo (kO (λh=>S.get h) 3 (iw hv _ q_) (qL 3 ZC))) (hA.2 _) S h
def pt{α:Type}(x:Nat)(v:α)(l:List (Nat×α)):List (Nat×α):=List.rec [(x,v)] (λy r f=>Bool.rec (y::f) ((y.1,v)::r) (Nat.beq y.1 x)) l
def iD{α:Type}(x:Nat)(v:α)(l:List (Nat×α)):pt x v l=put x v l:=by
 induction l with
 | nil=>rfl
 | cons y r ih=>
  show Bool.rec (y::pt x v r) ((y.1,v)::r) (Nat.beq y.1 x)=if y.1=x then(y.1,v)::r else y::put x v r
  by_cases h:y.1=x
  ·rw[if_pos h,h,mz]
  ·rw[if_neg h,sC h,ih]
def Qm(j:Nat)(key:KD)(v:V)(o:AO)(k:Sy->Bool)(Y:Sy):Bool:=
 oi (lU o) (λl=>ob (Ib key) λs=>bb (Nat.ble l.length 4000) (k ⟨Y.pc,bW j (.ds (pt (code s) v l)) Y.H⟩))
 (oi (pS o) (λl=>oi (Kz key) (λe=>bb (Nat.ble l.1.length 4000) (k ⟨Y.pc,bW j (.di ((e,v)::l.1) l.2) Y.H⟩))
  (bb (bf l.1) (oi l.2 (λ_=>false) (oi (Ib key) (λs=>k ⟨Y.pc,bW j (.ds [(code s,v)]) Y.H⟩) (bb (Kc 3 (.tup (BO (Us key))) key) (k ⟨Y.pc,bW j (.dt (Us key) [(key,.none,v)]) Y.H⟩))))))
 (oi (vh o) (λl=>ob (Kz key) λe=>bb (Nat.beq e.tag 0) (bb (Nat.ble l.length 4000) (k ⟨Y.pc,bW j (.dc ((e.i,v,some true)::l)) Y.H⟩)))
 (ob (pR o) λl=>bb (Kc 3 (.tup (BO l.1)) key) (bb (Nat.ble l.2.length 4000) (k ⟨Y.pc,bW j (.dt l.1 ((key,.none,v)::l.2)) Y.H⟩)))))
def fV{n:Nat}(h:n<=4000+1000000):n<=sizeLine:=by rw[qH];lia
def hY{x y}(h:au c p x y):y.isSome=x.isSome:=by
 rcases x with _|_
 ·rcases y with _|_
  ·rfl
  ·cases h
 ·rcases y with _|_
  ·cases h
  ·rfl
def pe{x:Option V}{y:Option Value}{b:Prop}[Decidable b]{v u}(h:au c p x y)(hv:RV c p v u):au c p (if b then some v else x) (if b then some u else y):=by
 by_cases e:b
 ·rw[if_pos e,if_pos e];exact hv
 ·rw[if_neg e,if_neg e];exact h
def fU{κ:Type}[DecidableEq κ](kvs:List (κ×Value))(k:κ)(v:Value)(h:(valueAt kvs k).isSome=true):(stored kvs k v).length=kvs.length:=by
 unfold stored
 rw[valueAt_isSome_eq_any] at h
 rw[if_pos h,gE]
def mY{α:Type}(x:Nat)(v:α)(l:List (Nat×α)):(put x v l).length=bif (look x l).isSome then l.length else l.length+1:=by
 induction l with
 | nil=>rfl
 | cons y r ih=>
  obtain⟨y,u⟩:=y
  rw[tN,aX]
  by_cases h:y=x
  ·rw[if_pos h,if_pos h];rfl
  ·rw[if_neg h,if_neg h,gq,ih]
   cases (look x r).isSome <;> rfl
def tz(xs:List (aA×Addr×Value))(k a v):(storedH xs k a v).length<=xs.length+1:=by
 have h:=bl List.length (kvsOf_storedH xs k a v)
 rw[kvsOf,gE] at h
 rw[h]
 have:=stored_length_le (kvsOf xs) k v
 rwa [kvsOf,gE] at this
section
variable{a:Act c}{A:Around}{E:Value->Shared->Prop}{loc:cL}{Y:Sy}{s:Shared}{k:Sy->Bool}{G:Unit->Shared->Prop}
def aN.one{C:Prop}{j ad dd o o' h' YM n}(S:aN a p loc Y s)(hj:Y.H[j]? =some o)(g_:p.ρ[j]? =some (ad,dd))(h1:∀x,RO c p j x o->(∀z∈x,s.heap.get? z.1=some z.2)->∃ob,x=[(ad,ob)])
  (hs:Heap.SameBut ad s.heap h') (hg:h'.get? ad=some YM) (R:RO c p j [(ad,YM)] o') (K:aN a p loc ⟨Y.pc,bW j o' Y.H⟩ {s with heap:=h',toks:=n}->C):C:=
 S.at hj λx r g up=>(h1 x r g).elim λob e=>K (by rw[dj];exact up [] ad ob [] o' YM h' n e hs hg R)
def DX.one{κ:Type}{s:Shared}{j ad dd F n}{G:List κ->Prop}(g_:p.ρ[j]? =some (ad,dd))(x)(h:eF p j λa _=>DX x a F n G)(g:∀z∈x,s.heap.get? z.1=some z.2):∃ob,x=[(ad,ob)]:=DX.take h g_ g λob _ e _ _ _ _ _=>⟨ob,e⟩
def Cd{j ad dd ob y t x ux o}{l:List (Nat×V)}{xs:List (Str×Value)}(S:aN a p loc Y s)(hj:Y.H[j]? =some o)(g_:p.ρ[j]? =some (ad,dd))(h1:∀x,RO c p j x o->(∀z∈x,s.heap.get? z.1=some z.2)->∃ob,x=[(ad,ob)])
  (lo:(ad == sysModules)=false) (hg:s.heap.get? ad=some ob) (ho:ob.IsDictOf (strKind PW c.w) xs) (hz:xs.length<=l.length) (hA:∀x,au c p (look (code x) l) (valueAt xs x)) (hl:l.length<=4000) (hx:RV c p x ux)
  (h:k ⟨Y.pc,bW j (.ds (pt (code y) x l)) Y.H⟩=true) (P:∀Y' s',aN a p loc Y' s'->k Y'=true->G () s'):wpAny (Mo c) A (setItem (.ref ad) (.str y t) ux) G E s:=
 wpAny_setItem_pairs (hsz:=fV (by lia)) (strKind_is PW c.w y t) (ll.mpr ⟨ob,hg,ho⟩) λh' hmm hs=>(ll.mp hmm).elim λYM G_=>S.one hj g_ h1 hs G_.1 (by
  rw[iD]
  refine⟨ad,dd,g_,lo,YM,_,rfl,G_.2,?_,λz=>?_⟩
  ·rw[mY,<-hY (hA y)]
   rcases e:(valueAt xs y).isSome with _|_
   ·exact dK (stored_length_le _ _ _) (j3 hz)
   ·rw[fU _ _ _ e];exact hz
  ·rw[dC,b7]
   by_cases e:y=z
   ·rw[if_pos (bl code e),if_pos e];exact hx
   ·rw[if_neg (fN e),if_neg e];exact hA z) λS=>P _ _ S h
def Cc{j ad dd ob t b key v x ux o}{l:List (KD×Option Nat×V)}{xs:List (aA×Addr×Value)}(hu:A.units+4<=cLine)(S:aN a p loc Y s)(hj:Y.H[j]? =some o)(g_:p.ρ[j]? =some (ad,dd))(h1:∀x,RO c p j x o->(∀z∈x,s.heap.get? z.1=some z.2)->∃ob,x=[(ad,ob)])
  (lo:(ad == sysModules)=false) (hg:s.heap.get? ad=some ob) (ho:JY c.w t ob xs) (hz:xs.length<=l.length)
  (hA:(∀x∈xs,RV c p x.1.toV (.ref x.2.1)/\zy 3 (.tup (BO t)) x.1=true)/\∀x,au c p (dD c.σ l x) ((atKey xs x).map (·.2))) (hb:Kc 3 (.tup (BO t)) key=true) (hl:l.length<=4000) (q_:lJ v=some key) (hv:RV c p v (.ref b)) (hx:RV c p x ux)
  (h:k ⟨Y.pc,bW j (.dt t ((key,.none,x)::l)) Y.H⟩=true) (P:∀Y' s',aN a p loc Y' s'->k Y'=true->G () s'):wpAny (Mo c) A (setItem (.ref ad) (.ref b) ux) G E s:=
 wpAny_setItem_heap (hsz:=fV (by lia)) (nU _ _ _ hu) (kO (λh=>S.get h) 3 (iw hv _ q_) (qL 3 hb)) (Ow S hg ho hA.1) λh' hmm hs=>by
  obtain⟨YM,Zk,ep',af9,f1,f2,f3,f4,f5⟩:=hmm
  refine S.one (o':=.dt t ((key,.none,x)::l)) hj g_ h1 hs af9 ⟨ad,dd,g_,lo,YM,_,rfl,⟨f1,f5,Zk,ep',f2,f3⟩,dK (tz _ _ _ _) (j3 hz),λy hy=>?_,λz=>?_⟩ λS=>P _ _ S h
  ·exact(mem_storedH hy).elim (λg=>g.elim λy' g=>by rw[g.2.1,g.2.2];exact hA.1 y' g.1) λg=>by rw[g.1,g.2];exact⟨iw hv _ q_,qL 3 hb⟩
  ·rw[sF,ir (b:=decide (KD.ev c.σ.ν key=z)) _ _ _ _ _ _ ⟨λe=>⟨mB e,rfl⟩,λe=>gJ e.1⟩]
   by_cases e:KD.ev c.σ.ν key=z
   ·rw[if_pos e,gJ e];exact hx
   ·rw[if_neg e,jZ e];exact hA.2 z
def GN{ft:FT}(F:aI c.σ ft){j u o key v kv x ux}(hu:A.units+4<=cLine)(S:aN a p loc Y s)(hj:Y.H[j]? =some o)(hd:RV c p (.ref j) u)(q_:lJ v=some key)(hv:RV c p v kv)(hx:RV c p x ux)(h:Qm j key x o k Y=true)
  (P:∀Y' s',aN a p loc Y' s'->k Y'=true->G () s'):wpAny (Mo c) A (setItem u kv ux) G E s:=by
 refine iR hd.inv λad dd eu g_=>?_
 rw[eu]
 refine aH (S.look hj) λy R g=>?_
 refine bq h (λl e h=>?_) λ_ h=>bq h (λl e h=>?_) λ_ h=>bq h (λl e h=>?_) λ_ h=>ay h λl e h=>?_
 ·rw[dp e] at R hj
  exact ay h λz ez h=>ag h λhl h=>DX.take R g_ g λob xs _ lo hg ho hz hA=>by
   rw[lK ez] at q_
   refine bV (rE q_ hv) λt ek=>?_
   rw[ek]
   exact Cd S hj g_ (DX.one g_) lo hg ho hz hA (fu hl) hx h P
 ·rw[eZ e] at R hj
  refine DX.take R g_ g λob xs _ lo hg ho hz hA=>bq h (λz ez h=>ag h λhl h=>?_) λ_ h=>ag h λh1 h=>bq h (λ_ _ h=>nomatch h) λh2 h=>?_
  ·rw[lL ez] at q_
   refine bV (rF q_ hv) λt ek=>?_
   have hl:=fu hl
   have hgz:gz c.σ l.2<=1000000:=by
    rcases l.2 with _|g
    ·exact fv _
    ·exact F.z g
   rw[ek]
   refine wpAny_setItem_pairs (hsz:=fV (by lia)) (intKind_is PW c.w _ t) (ll.mpr ⟨ob,hg,ho⟩) λh' hmm hs=>(ll.mp hmm).elim λYM G_=>S.one (o':=.di ((z,x)::l.1) l.2) hj g_ (DX.one g_) hs G_.1 ⟨ad,dd,g_,lo,YM,_,rfl,G_.2,?_,λy=>?_⟩ λS=>P _ _ S h
   ·have:=stored_length_le xs (z.ev c.σ.ν) ux
    rw[gq];lia
   ·rw[b7];exact pe (hA y) hx
  ·rw[aG h1,h2] at hz hj
   have E:=oY ho hz
   refine bq h (λz ez h=>?_) λ_ h=>ag h λZC h=>?_
   ·rw[lK ez] at q_
    refine bV (rE q_ hv) λt ek=>?_
    rw[ek]
    exact Cd (l:=[]) S hj g_ (DX.one g_) lo hg (E.1 _) (fG _) (λ_=>trivial) (fv _) hx h P
   ·refine bV (rD q_ ZC hv) λb eb=>?_
    rw[eb] at hv ⊢
    exact Cc (l:=[]) hu S hj g_ (DX.one g_) lo hg (E.2 _) (fG _) ⟨ae,λ_=>trivial⟩ ZC (fv _) q_ hv hx h P
 ·rw[iB e] at R hj
  refine ay h λz ez h=>ag h λh0 h=>ag h λhl h=>DX.take R g_ g λob xs _ lo hg ho hz hA=>?_
  rw[lL ez,ce h0] at q_
  refine bV (rF q_ hv) λt ek=>?_
  have hl:=fu hl
  rw[ek]
  refine wpAny_setItem_pairs (hsz:=fV (by lia)) (intKind_is PW c.w z.i t) (ll.mpr ⟨ob,hg,ho⟩) λh' hmm hs=>(ll.mp hmm).elim λYM G_=>S.one (o':=.dc ((z.i,x,some true)::l)) hj g_ (DX.one g_) hs G_.1 ⟨ad,dd,g_,lo,YM,_,rfl,G_.2,dK (stored_length_le _ _ _) (j3 hz),λy=>?_⟩ λS=>P _ _ S h
  show bE c p (if z.i=y then _ else _) _
  rw[b7]
  by_cases e:z.i=y
  ·rw[if_pos e,if_pos e];exact hx
  ·rw[if_neg e,if_neg e];exact hA y
 ·rw[fS e] at R hj
  refine ag h λZC h=>ag h λhl h=>DX.take R g_ g λob xs _ lo hg ho hz hA=>?_
  refine bV (rD q_ ZC hv) λb eb=>?_
  rw[eb] at hv ⊢
  exact Cc hu S hj g_ (DX.one g_) lo hg ho hz hA ZC (fu hl) q_ hv hx h P
end
end
section
variable{c:Cx}{p q:Pt}{kx:Nat->Sy->Bool}{names:cu}{n:Nat}{σ:Sg}
def dz(ν:Nat->Int)(v:V):Option PyData:=V.rec (motive_1:=λ_=>Option PyData) (motive_2:=λ_=>Unit) (motive_3:=λ_=>Option (List PyData)) (motive_4:=λ_=>Unit) (motive_5:=λ_=>Unit) (motive_6:=λ_=>Unit)
 (some .none) (λb=>some (.bool b)) (λi=>some (.int i)) (λe=>some (.int (e.ev ν))) .none (λ_=>.none) (λ_=>.none) (λ_ _=>.none) (λ_ _=>.none) (λs=>some (.str s)) (λ_ f=>f.map .tuple) (λ_=>.none) (λ_=>.none) (λ_=>.none) (λ_=>.none) (λ_ f=>f.map .list) (λ_ _ _=>.none) (λ_=>.none)
 () (λ_ _ _ _=>()) (some []) (λ_ _ f g=>f.bind λk=>g.map (k::·)) () (λ_ _ _ _=>()) (λ_ _ _=>()) (λ_ _ _=>()) v
def fF(ν:Nat->Int)(l:List V):Option (List PyData):=List.rec (some []) (λv _ g=>(dz ν v).bind λk=>g.map (k::·)) l
def EA(ν:Nat->Int)(C:List PyData->PyData)(F:List V->V)(h1:∀l,dz ν (F l)=(V.rec_2 (motive_1:=λ_=>Option PyData) (motive_2:=λ_=>Unit) (motive_3:=λ_=>Option (List PyData)) (motive_4:=λ_=>Unit) (motive_5:=λ_=>Unit) (motive_6:=λ_=>Unit)
 (some .none) (λb=>some (.bool b)) (λi=>some (.int i)) (λe=>some (.int (e.ev ν))) .none (λ_=>.none) (λ_=>.none) (λ_ _=>.none) (λ_ _=>.none) (λs=>some (.str s)) (λ_ f=>f.map .tuple) (λ_=>.none) (λ_=>.none) (λ_=>.none) (λ_=>.none) (λ_ f=>f.map .list) (λ_ _ _=>.none) (λ_=>.none)
 () (λ_ _ _ _=>()) (some []) (λ_ _ f g=>f.bind λk=>g.map (k::·)) () (λ_ _ _ _=>()) (λ_ _ _=>()) (λ_ _ _=>()) l).map C) (l:List V):dz ν (F l)=(fF ν l).map C:=by
 rw[h1]
 congr 1
 induction l with
 | nil=>rfl
 | cons v l ih=>exact bl (λg=>(dz ν v).bind λk=>g.map (k::·)) ih
def hO(ν)(l:List V):dz ν (.tup l)=(fF ν l).map .tuple:=EA ν .tuple .tup (λ_=>rfl) l
def hP(ν)(l:List V):dz ν (.fls l)=(fF ν l).map .list:=EA ν .list .fls (λ_=>rfl) l
def CY(v:V):Nat->Bool:=V.rec (motive_1:=λ_=>Nat->Bool) (motive_2:=λ_=>Unit) (motive_3:=λ_=>Nat->Bool) (motive_4:=λ_=>Unit) (motive_5:=λ_=>Unit) (motive_6:=λ_=>Unit)
 (λ_=>true) (λ_ _=>true) (λ_ _=>true) (λ_ _=>true) (λ_=>false) (λ_ _=>false) (λ_ _=>false) (λ_ _ _=>false) (λ_ _ _=>false) (λs _=>PyData.canLay0 (.str s)) (λ_ f n=>Nat.rec false (λm _=>f m) n) (λ_ _=>false) (λ_ _=>false) (λ_ _=>false) (λ_ _=>false) (λ_ f n=>Nat.rec false (λm _=>f m) n) (λ_ _ _ _=>false) (λ_ _=>false)
 () (λ_ _ _ _=>()) (λ_=>true) (λ_ _ f g n=>bb (f n) (g n)) () (λ_ _ _ _=>()) (λ_ _ _=>()) (λ_ _ _=>()) v
def QU(l:List V)(n:Nat):Bool:=List.rec true (λv _ g=>bb (CY v n) g) l
def yl(n:Nat)(l:List V):CY (.tup l) (n+1)=QU l n:=by
 induction l with
 | nil=>rfl
 | cons v l ih=>exact bl (bb (CY v n)) ih
def q9(ν:Nat->Int)(v:V):∀n,CY v n=true->∃d,dz ν v=some d/\d.canLay0=true/\d.depth<=n:=by
 refine V.rec (motive_1:=λv=>∀n,CY v n=true->∃d,dz ν v=some d/\d.canLay0=true/\d.depth<=n) (motive_2:=λ_=>True) (motive_3:=λl=>∀n,QU l n=true->∃d,fF ν l=some d/\PyData.canLayAll0 d=true/\PyData.depthAll d<=n) (motive_4:=λ_=>True) (motive_5:=λ_=>True) (motive_6:=λ_=>True)
  (λn _=>⟨_,rfl,rfl,fv _⟩) (λ_ n _=>⟨_,rfl,rfl,fv _⟩) (λ_ n _=>⟨_,rfl,rfl,fv _⟩) (λ_ n _=>⟨_,rfl,rfl,fv _⟩) (λ_=>ff) (λ_ _=>ff) (λ_ _=>ff) (λ_ _ _=>ff) (λ_ _ _=>ff) (λs n h=>⟨_,rfl,h,fv _⟩) (λl ih n h=>?_)
  (λ_ _=>ff) (λ_ _=>ff) (λ_ _=>ff) (λ_ _=>ff) (λl ih n h=>?_) (λ_ _ _ _=>ff) (λ_ _=>ff) trivial (λ_ _ _ _=>trivial) (λn _=>⟨[],rfl,rfl,fv _⟩) (λv l ih1 ih2 n h=>ag h λh1 h2=>?_) trivial (λ_ _ _ _=>trivial) (λ_ _ _=>trivial) (λ_ _ _=>trivial) v
 ·induction n using nC with
  | zero=>exact ff h
  | succ n=>
   rw[yl] at h
   refine lj (ih n h) λd e h1 h2=>?_
   exact⟨.tuple d,by rw[hO,e];rfl,h1,j3 h2⟩
 ·induction n using nC with
  | zero=>exact ff h
  | succ n=>
   have h:CY (.tup l) (n+1)=true:=h
   rw[yl] at h
   refine lj (ih n h) λd e h1 h2=>?_
   exact⟨.list d,by rw[hP,e];rfl,h1,j3 h2⟩
 ·refine lj (ih1 n h1) λd e k1 k2=>?_
  refine lj (ih2 n h2) λd' e' k1' k2'=>?_
  refine⟨d::d',?_,(show(_ && _)=true by rw[k1,k1'];rfl),Nat.max_le.mpr ⟨k2,k2'⟩⟩
  show(dz ν v).bind (λk=>(fF ν l).map (k::·))=_
  rw[e,e'];rfl
def fX{h:Heap}(im:∀{b o},nB c p b o->h.get? b=some o){v u}(r:RV c p v u):∀d,dz c.σ.ν v=some d->∃as,Reads h u d as:=
 RV.rec (motive_1:=λv u _=>∀d,dz c.σ.ν v=some d->∃as,Reads h u d as) (motive_2:=λl us _=>∀d,fF c.σ.ν l=some d->∃as,ReadsAll h us d as) (motive_3:=λ_ _ _=>True) (motive_4:=λ_ _ _=>True)
  (λd e=>by obtain rfl:=oI e;exact⟨_,.none⟩) (λb d e=>by obtain rfl:=oI e;exact⟨_,.bool _⟩) (λi t d e=>by obtain rfl:=oI e;exact⟨_,.int _ _⟩) (λx t d e=>by obtain rfl:=oI e;exact⟨_,.int _ _⟩) (λ_ _=>aj) (λ_ _ _=>aj) (λ_ _ _=>aj) (λ_ _=>aj) (λ_ _ _ _ _ _=>aj) (λs t d e=>by obtain rfl:=oI e;exact⟨_,.str _ _⟩)
  (λhi _ ih d e=>by
   rw[hO] at e
   refine aH (fp e) λx e1 e2=>?_
   refine bV (ih x e1) λas q=>?_
   subst e2;exact⟨_,.tuple (im hi) rfl rfl q⟩)
  (λ_ _=>aj) (λ_ _=>aj) (λ_ _ _=>aj) (λ_ _=>aj)
  (λhi _ ih d e=>by
   rw[hP] at e
   refine aH (fp e) λx e1 e2=>?_
   refine bV (ih x e1) λas q=>?_
   subst e2;exact⟨_,.list (im hi) rfl rfl q⟩)
  (λ_ _ _ _ _=>aj) (λ_ _ _=>aj)
  (λd e=>by obtain rfl:=oI e;exact⟨_,.nil⟩)
  (λ{v _ l _} _ _ i1 i2 d e=>by
   refine aH (cU (show(dz c.σ.ν v).bind (λk=>(fF c.σ.ν l).map (k::·))=some d from e)) λk e1 e=>?_
   refine aH (fp e) λx e2 e=>?_
   refine bV (i1 k e1) λas q1=>?_
   refine bV (i2 x e2) λbs q2=>?_
   subst e;exact⟨_,.cons q1 q2⟩) trivial (λ_ _ _ _=>trivial) trivial (λ_ _ _ _=>trivial) r
def zO{h:Heap}(im:∀{b o},nB c p b o->h.get? b=some o)(l:List V):∀{us},bG c p l us->∀d,fF c.σ.ν l=some d->∃as,ReadsAll h us d as:=by
 induction l with
 | nil=>intro us r d e;obtain rfl:=oI e;have e:us=[]:=r.inv;rw[e];exact⟨_,.nil⟩
 | cons v l ih=>
  intro us r d e
  refine eC r.inv λu r' e' r1 r2=>?_
  refine aH (cU (show(dz c.σ.ν v).bind (λk=>(fF c.σ.ν l).map (k::·))=some d from e)) λk e1 e=>?_
  refine aH (fp e) λx e2 e=>?_
  refine bV (fX im r1 k e1) λas q1=>?_
  refine bV (ih r2 x e2) λbs q2=>?_
  subst e;rw[e'];exact⟨_,.cons q1 q2⟩
def dq(v:V):Nat:=match v with
 | .none=>0
 | .int _| .sym _=>1
 | .str _=>2
 | .tup _=>3
 | .fls _=>4
 | _=>5
def uf(d:PyData):Nat:=match d with
 | .none=>0
 | .int _=>1
 | .str _=>2
 | .tuple _=>3
 | .list _=>4
 | _=>5
def dO(a b:Nat):Option Bool:=Bool.rec (Bool.rec (Bool.rec (some false) .none (Nat.beq a b)) .none (Nat.ble 5 b)) .none (Nat.ble 5 a)
def TC(ft:FT)(v:V):V->Option Bool:=V.rec (motive_1:=λ_=>V->Option Bool) (motive_2:=λ_=>Unit) (motive_3:=λ_=>List V->Option Bool) (motive_4:=λ_=>Unit) (motive_5:=λ_=>Unit) (motive_6:=λ_=>Unit)
 (λx=>Bool.rec (dO 0 (dq x)) (some true) (Nat.beq x.tag 0)) (λa x=>Bool.rec .none (some (pQ a x.xb)) (Nat.beq x.tag 1)) (λi x=>Option.rec (dO 1 (dq x)) (λe=>yS ft (.lit i) e) (nz x)) (λi x=>Option.rec (dO 1 (dq x)) (λe=>yS ft i e) (nz x))
 (λ_=>.none) (λ_ _=>.none) (λ_ _=>.none) (λ_ _ _=>.none) (λ_ _ _=>.none) (λs x=>Bool.rec (dO 2 (dq x)) (some (kX s x.xs)) (Nat.beq x.tag 9)) (λ_ f x=>Bool.rec (dO 3 (dq x)) (f x.xl) (Nat.beq x.tag 10)) (λ_ _=>.none) (λ_ _=>.none) (λ_ _=>.none) (λ_ _=>.none) (λ_ f x=>Bool.rec (dO 4 (dq x)) (f x.xl) (Nat.beq x.tag 15)) (λ_ _ _ _=>.none) (λ_ _=>.none)
 () (λ_ _ _ _=>()) (λb=>some (bf b)) (λ_ _ f g b=>List.rec (some false) (λx r _=>AX (f x) (g r)) b) () (λ_ _ _ _=>()) (λ_ _ _=>()) (λ_ _ _=>()) v
def JG{ν}{v:V}{e d}(h:nz v=some e)(q:dz ν v=some d):d=.int (e.ev ν):=
 eX h (λe1 e2=>by rw[V.is e1] at q;rw[<-e2];obtain rfl:=oI q;rfl) λ_ h=>eX h (λe1 e2=>by rw[V.is e1] at q;rw[<-e2];obtain rfl:=oI q;rfl) λ_ h=>aj h
def ue{ν}{v:V}{d}(q:dz ν v=some d)(h:Nat.ble 5 (dq v)=false):uf d=dq v:=by
 induction v using V.casesOn with
 | none=>obtain rfl:=oI q;rfl
 | int|sym|str=>obtain rfl:=oI q;rfl
 | tup=>rw[hO] at q;refine aH (fp q) λ_ _ e=>?_;rw[<-e];rfl
 | fls=>rw[hP] at q;refine aH (fp q) λ_ _ e=>?_;rw[<-e];rfl
 | _=>exact bF h
def zP{d d':PyData}(h:Nat.ble 5 (uf d)=false)(h':Nat.ble 5 (uf d')=false)(n:Nat.beq (uf d) (uf d')=false):PyData.eqv d d'=false:=by
 induction d using PyData.casesOn <;> first|(cases h;done)|(induction d' using PyData.casesOn <;> first|(cases h';done)|(cases n;done)|rfl)
def gO{ν}{v x:V}{d d' r}(h:dO (dq v) (dq x)=some r)(h1:dz ν v=some d)(h2:dz ν x=some d'):PyData.eqv d d'=r:=by
 unfold dO at h
 rcases e1:Nat.ble 5 (dq v) with _|_
 ·rcases e2:Nat.ble 5 (dq x) with _|_
  ·rcases e3:Nat.beq (dq v) (dq x) with _|_
   ·rw[e1,e2,e3] at h
    obtain rfl:=oI h
    have k1:=ue h1 e1
    have k2:=ue h2 e2
    rw[<-k1] at e1 e3
    rw[<-k2] at e2 e3
    exact zP e1 e2 e3
   ·rw[e1,e2,e3] at h;exact aj h
  ·rw[e1,e2] at h;exact aj h
 ·rw[e1] at h;exact aj h
def bp{α:Type}{b:Bool}{x y:Option α}{r:α}{C:Prop}(h:(Bool.rec y x b:Option α)=some r)(k:b=true->x=some r->C)(k':b=false->y=some r->C):C:=match b with
 | true=>k rfl h
 | false=>k' rfl h
def tL{α β:Type}{b:Option β}{x:β->Option α}{y:Option α}{r:α}{C:Prop}(h:(Option.rec y x b:Option α)=some r)(k:∀z,b=some z->x z=some r->C)(k':b=.none->y=some r->C):C:=match b with
 | some z=>k z rfl h
 | .none=>k' rfl h
def oK{P:Prop}{r b:Bool}(h:r=true↔P)(h':b=true↔P):b=r:=Bool.eq_iff_iff.mpr (h'.trans h.symm)
def FQ{x y:Option Bool}{a b r:Bool}(hx:∀z,x=some z->a=z)(hy:∀z,y=some z->b=z)(h:AX x y=some r):(a && b)=r:=
 oK (zk (P:=a=true) (Q:=b=true) (λz e=>by rw[hx z e]) (λz e=>by rw[hy z e]) (Bool.and_eq_true_iff) h) Iff.rfl
def BI{ft:FT}(F:aI σ ft)(v:V):∀x r d d',TC ft v x=some r->dz σ.ν v=some d->dz σ.ν x=some d'->PyData.eqv d d'=r:=by
 have nums:∀(i:SE) (v x:V) (r d d'),dq v=1->(Option.rec (dO 1 (dq x)) (λe=>yS ft i e) (nz x):Option Bool)=some r->d=.int (i.ev σ.ν)->dz σ.ν v=some d->dz σ.ν x=some d'->PyData.eqv d d'=r:=λi v x r d d' hk h h1 hv h2=>
  tL h (λe ex h=>by rw[h1,JG ex h2];exact jS F h) λ_ h=>gO (v:=v) (by rw[hk];exact h) hv h2
 refine V.rec (motive_1:=λv=>∀x r d d',TC ft v x=some r->dz σ.ν v=some d->dz σ.ν x=some d'->PyData.eqv d d'=r) (motive_2:=λ_=>True)
  (motive_3:=λl=>∀x r d d',(V.rec_2 (motive_1:=λ_=>V->Option Bool) (motive_2:=λ_=>Unit) (motive_3:=λ_=>List V->Option Bool) (motive_4:=λ_=>Unit) (motive_5:=λ_=>Unit) (motive_6:=λ_=>Unit)
 (λx=>Bool.rec (dO 0 (dq x)) (some true) (Nat.beq x.tag 0)) (λa x=>Bool.rec .none (some (pQ a x.xb)) (Nat.beq x.tag 1)) (λi x=>Option.rec (dO 1 (dq x)) (λe=>yS ft (.lit i) e) (nz x)) (λi x=>Option.rec (dO 1 (dq x)) (λe=>yS ft i e) (nz x))
 (λ_=>.none) (λ_ _=>.none) (λ_ _=>.none) (λ_ _ _=>.none) (λ_ _ _=>.none) (λs x=>Bool.rec (dO 2 (dq x)) (some (kX s x.xs)) (Nat.beq x.tag 9)) (λ_ f x=>Bool.rec (dO 3 (dq x)) (f x.xl) (Nat.beq x.tag 10)) (λ_ _=>.none) (λ_ _=>.none) (λ_ _=>.none) (λ_ _=>.none) (λ_ f x=>Bool.rec (dO 4 (dq x)) (f x.xl) (Nat.beq x.tag 15)) (λ_ _ _ _=>.none) (λ_ _=>.none)
 () (λ_ _ _ _=>()) (λb=>some (bf b)) (λ_ _ f g b=>List.rec (some false) (λx r _=>AX (f x) (g r)) b) () (λ_ _ _ _=>()) (λ_ _ _=>()) (λ_ _ _=>()) l) x=some r->fF σ.ν l=some d->fF σ.ν x=some d'->PyData.eqvAll d d'=r) (motive_4:=λ_=>True) (motive_5:=λ_=>True) (motive_6:=λ_=>True)
  (λx r d d' h h1 h2=>bp h (λe h=>by rw[V.is e] at h2;obtain rfl:=oI h;obtain rfl:=oI h1;obtain rfl:=oI h2;rfl) λ_ h=>gO (v:=.none) h h1 h2) (λa x r d d' h h1 h2=>bp h (λe h=>by rw[V.is e] at h2;obtain rfl:=oI h1;obtain rfl:=oI h2;rw[<-j1 h];show(a == x.xb)=_;induction a using bC <;> induction x.xb using bC <;> rfl) λ_ h=>aj h)
  (λi x r d d' h h1 h2=>nums (.lit i) (.int i) x r d d' rfl h (by obtain rfl:=oI h1;rfl) h1 h2) (λi x r d d' h h1 h2=>nums i (.sym i) x r d d' rfl h (by obtain rfl:=oI h1;rfl) h1 h2) (λ_ _ _ _=>aj) (λ_ _ _ _ _=>aj) (λ_ _ _ _ _=>aj) (λ_ _ _ _ _ _=>aj) (λ_ _ _ _ _ _=>aj)
  (λs x r d d' h h1 h2=>bp h (λe h=>by rw[V.is e] at h2;obtain rfl:=oI h1;obtain rfl:=oI h2;rw[<-j1 h];exact oK dn cS) λ_ h=>gO (v:=.str s) h h1 h2)
  (λl ih x r d d' h h1 h2=>bp h (λe h=>?_) λ_ h=>gO (v:=.tup l) h h1 h2) (λ_ _ _ _ _=>aj) (λ_ _ _ _ _=>aj) (λ_ _ _ _ _=>aj) (λ_ _ _ _ _=>aj)
  (λl ih x r d d' h h1 h2=>bp h (λe h=>?_) λ_ h=>gO (v:=.fls l) h h1 h2) (λ_ _ _ _ _ _ _=>aj) (λ_ _ _ _ _=>aj) trivial (λ_ _ _ _=>trivial)
  (λx r d d' h h1 h2=>?_) (λv l i1 i2 x r d d' h h1 h2=>?_) trivial (λ_ _ _ _=>trivial) (λ_ _ _=>trivial) (λ_ _ _=>trivial) v
 ·rw[V.is e,show V.of x 10=.tup x.xl from rfl,hO] at h2
  rw[hO] at h1
  refine aH (fp h1) λa e1 e1'=>?_
  refine aH (fp h2) λb e2 e2'=>?_
  rw[<-e1',<-e2'];exact ih _ _ _ _ h e1 e2
 ·rw[V.is e,show V.of x 15=.fls x.xl from rfl,hP] at h2
  rw[hP] at h1
  refine aH (fp h1) λa e1 e1'=>?_
  refine aH (fp h2) λb e2 e2'=>?_
  rw[<-e1',<-e2'];exact ih _ _ _ _ h e1 e2
 ·obtain rfl:=oI h1
  rcases x with _|⟨v,x⟩
  ·obtain rfl:=oI h;obtain rfl:=oI h2;rfl
  ·obtain rfl:=oI h
   refine aH (cU (show(dz σ.ν v).bind (λk=>(fF σ.ν x).map (k::·))=some d' from h2)) λk _ e=>?_
   refine aH (fp e) λ_ _ e=>?_
   rw[<-e];rfl
 ·refine aH (cU (show(dz σ.ν v).bind (λk=>(fF σ.ν l).map (k::·))=some d from h1)) λk e1 e=>?_
  refine aH (fp e) λk' e2 e=>?_
  rw[<-e]
  rcases x with _|⟨v',x⟩
  ·obtain rfl:=oI h;obtain rfl:=oI h2;rfl
  ·refine aH (cU (show(dz σ.ν v').bind (λk=>(fF σ.ν x).map (k::·))=some d' from h2)) λj f1 f=>?_
   refine aH (fp f) λj' f2 f=>?_
   rw[<-f]
   exact FQ (λz e=>i1 _ _ _ _ e e1 f1) (λz e=>i2 _ _ _ _ e e2 f2) h
def P6(ft:FT)(x:V)(l:List V):Option Bool:=List.rec (some false) (λv _ g=>(TC ft v x).bind λb=>Bool.rec g (some true) b) l
def Gy{ft:FT}(F:aI σ ft){x:V}{d'}(h2:dz σ.ν x=some d')(l:List V):∀{r d},P6 ft x l=some r->fF σ.ν l=some d->(d.any λy=>PyData.eqv y d')=r:=by
 induction l with
 | nil=>intro r d h h1;obtain rfl:=oI h;obtain rfl:=oI h1;rfl
 | cons v l ih=>
  intro r d h h1
  refine aH (cU (show(dz σ.ν v).bind (λk=>(fF σ.ν l).map (k::·))=some d from h1)) λk e1 e=>?_
  refine aH (fp e) λk' e2 e=>?_
  refine aH (cU h) λb f1 f2=>?_
  rw[<-e,List.any_cons,BI F v x b k d' f1 e1 h2]
  rcases b with _|_
  ·exact ih f2 e2
  ·obtain rfl:=oI f2;rfl
def It(op:CmpOp):Option Bool:=match op with
 | .Eq=>some true
 | .NotEq=>some false
 | _=>.none
def NM(op:CmpOp):Option Bool:=match op with
 | .In=>some true
 | .NotIn=>some false
 | _=>.none
def RM(op:CmpOp):Option Bool:=match op with
 | .Is=>some true
 | .IsNot=>some false
 | _=>.none
def tw(b t:Bool):Bool:=Bool.rec t.not t b
def vJ{op:CmpOp}{b:Bool}{P:CmpOp->Prop}(h:It op=some b)(h1:b=true->P .Eq)(h2:b=false->P .NotEq):P op:=by
 induction op using CmpOp.casesOn with
 | Eq=>obtain rfl:=oI h;exact h1 rfl
 | NotEq=>obtain rfl:=oI h;exact h2 rfl
 | _=>exact aj h
def BP{op:CmpOp}{b:Bool}{P:CmpOp->Prop}(h:NM op=some b)(h1:b=true->P .In)(h2:b=false->P .NotIn):P op:=by
 induction op using CmpOp.casesOn with
 | In=>obtain rfl:=oI h;exact h1 rfl
 | NotIn=>obtain rfl:=oI h;exact h2 rfl
 | _=>exact aj h
def LS{op:CmpOp}{b:Bool}{P:CmpOp->Prop}(h:RM op=some b)(h1:b=true->P .Is)(h2:b=false->P .IsNot):P op:=by
 induction op using CmpOp.casesOn with
 | Is=>obtain rfl:=oI h;exact h1 rfl
 | IsNot=>obtain rfl:=oI h;exact h2 rfl
 | _=>exact aj h
def KI(op:CmpOp):Bool:=match op with
 | .Eq| .NotEq| .Lt| .LtE| .Gt| .GtE=>true
 | _=>false
def z7{op:CmpOp}(h:KI op=true)(i j:Int):∃r,ws op i j=some r:=by induction op using CmpOp.casesOn <;> first|exact ff h|exact⟨_,rfl⟩
def F9(r:Rn kx c names n)(f:Value->Value->Sem Value)(x y:V)(loc:cL)(Y:Sy)(k:KV):Prop:=
 ∀p s G u v,aN r.toAct p loc Y s->jc r.toAct p loc k G->RV c p x u->RV c p y v->wpAny (Mo c) r.A (f u v) G r.E s
def jz.u20{A:Around}(h:jz A n):A.units+20<=cLine:=dK (Nat.add_le_add_right (j2 _ _) 20) h.units
def sy{A:Around}{E:Value->Shared->Prop}{s:Shared}{op i j t u r}{G:Value->Shared->Prop}(h:ws op i j=some r)(P:G (.bool r) s):wpAny (Mo c) A (compareOp op (.int i t) (.int j u)) G E s:=by
 have hn:∀a b:Int,(decide (b < a)).not=decide (a<=b):=λa b=>Bool.eq_iff_iff.mpr ⟨λh=>by rw[Bool.not_eq_true',Bt] at h;exact gJ (Int.not_lt.mp h),λh=>by rw[Bool.not_eq_true',Bt];exact Int.not_lt.mpr (mB h)⟩
 induction op using CmpOp.casesOn with
 | Eq=>obtain rfl:=oI h;exact eq_int P
 | NotEq=>obtain rfl:=oI h;exact ne_int P
 | Lt=>obtain rfl:=oI h;exact lt_int P
 | LtE=>obtain rfl:=oI h;rw[hn] at P;exact le_int P
 | Gt=>obtain rfl:=oI h;exact gt_int P
 | GtE=>obtain rfl:=oI h;rw[hn] at P;exact ge_int P
 | _=>exact aj h
def zM(H:Hp)(v:V):V:=Bool.rec v (Option.rec v (λo=>Option.rec v .fls (dw o)) (bh H v.xn)) (Nat.beq v.tag 11)
def aN.list{a:Act c}{loc Y s j l u}(S:aN a p loc Y s)(hj:Y.H[j]? =some (.lst l))(hu:RV c p (.ref j) u):∃d vs m dd,u=.ref d/\p.ρ[j]? =some (d,dd)/\s.heap.get? d=some (cJ vs m)/\bG c p l vs:=by
 refine iR hu.inv λad dd eu g_=>?_
 refine aH (S.look hj) λx J_ g=>?_;obtain⟨a',d',e,vs,m,h1,h2⟩:=J_
 rw[g_] at e;refine bS (fI (oI e)) λX_ YO=>?_;obtain rfl:=X_;obtain rfl:=YO
 exact⟨ad,vs,m,dd,eu,g_,g _ (by rw[h2];exact .head _),h1⟩
def pX{a:Act c}{loc Y s v u d}(S:aN a p loc Y s)(hv:RV c p v u)(h:dz c.σ.ν (zM Y.H v)=some d):∃as,Reads s.heap u d as:=by
 unfold zM at h
 rcases e:Nat.beq v.tag 11 with _|_
 ·rw[e] at h;exact fX (λh=>S.get h) hv _ h
 ·rw[e] at h
  have ev:=V.is e
  have fin:dz c.σ.ν v=some d->∃as,Reads s.heap u d as:=λh=>fX (λh=>S.get h) hv _ h
  rcases e1:bh Y.H v.xn with _|o
  ·rw[e1] at h;exact fin h
  ·rcases e2:dw o with _|l
   ·rw[e1] at h;have h:dz c.σ.ν (Option.rec v V.fls (dw o))=some d:=h;rw[e2] at h;exact fin h
   ·rw[e1] at h
    have h:dz c.σ.ν (Option.rec v V.fls (dw o))=some d:=h
    rw[e2] at h
    have h:dz c.σ.ν (.fls l)=some d:=h
    rw[ev] at hv
    rw[bU e2] at e1
    refine li (S.list (eQ e1) hv) λd' vs m dd eu _ hg hl=>?_
    rw[hP] at h
    refine aH (fp h) λx e3 e4=>?_
    refine bV (zO (λh=>S.get h) l hl x e3) λas R=>?_
    rw[<-e4,eu];exact⟨_,.list hg rfl rfl R⟩
def VE(ft:FT)(op:CmpOp)(x y:V)(k:KV)(Y:Sy):Bool:=ob (It op) λb=>bb (CY (zM Y.H x) 8) (bb (CY (zM Y.H y) 8) (ob (TC ft (zM Y.H x) (zM Y.H y)) λt=>k (.bool (tw b t)) Y))
def Eu{ft:FT}(F:aI c.σ ft){r:Rn kx c names n}{op x y loc Y k}(h:VE ft op x y k Y=true):F9 r (compareOp op) x y loc Y k:=λp s G u v S P hu hv=>
 ay h λb hb h=>ag h λh1 h=>ag h λh2 h=>ay h λt ht h=>by
  refine lj (q9 c.σ.ν _ _ h1) λd e1 k1 l1=>?_
  refine lj (q9 c.σ.ν _ _ h2) λd' e2 k2 l2=>?_
  refine bV (pX S hu e1) λas R=>?_
  refine bV (pX S hv e2) λbs R'=>?_
  have e:=BI F _ _ _ _ _ ht e1 e2
  have hr:r.A.units+min d.depth d'.depth < cLine:=by have:=r.room.u20;lia
  have z:=P.here S (.bool _) h
  exact vJ (P:=λop=>wpAny (Mo c) r.A (compareOp op u v) G r.E s) hb (λeb=>PySem.SeqAt.compareEq_reads R R' k1 k2 hr (by rw[e];rw[eb] at z;exact z)) λeb=>PySem.SeqAt.compareNe_reads R R' k1 k2 hr (by rw[e];rw[eb] at z;exact z)
def Pz(i:Int)(l:List (Int×V)):Option V:=List.rec .none (λx _ f=>Bool.rec f (some x.2) (pN x.1 i)) l
def Cz(l:List (Int×V)):∀{es:List DictEntry},vw c p l es->∃kvs:List (Int×Value),kvs.map (·.1)=l.map (·.1)/\(∀e∈es,∃k,(intKind PW c.w).is k e.key=true/\e.hash=(intKind PW c.w).hash k)/\Pairs (intKind PW c.w) es kvs/\∀i,au c p (Pz i l) (valueAt kvs i):=by
 induction l with
 | nil=>intro es h;have e:es=[]:=h.inv;rw[e];exact⟨[],rfl,ae,.nil,λi=>trivial⟩
 | cons x l ih=>
  intro es h
  refine mE h.inv λt u r e h1 h2=>?_
  refine Uo (ih h2) λkvs e1 e2 e3 e4=>?_
  rw[e]
  refine⟨(x.1,u)::kvs,by rw[jr,jr,e1],λe he=>(dL.mp he).elim (λq=>by rw[q];exact⟨x.1,intKind_is PW c.w x.1 t,rfl⟩) (e2 e),.cons (intKind_is PW c.w x.1 t) rfl e3,λj=>?_⟩
  rw[dh]
  show au c p (Bool.rec (Pz j l) (some x.2) (pN x.1 j)) (if x.1=j then some u else valueAt kvs j)
  rcases q:pN x.1 j with _|_
  ·rw[if_neg (D2 q)];exact e4 j
  ·rw[if_pos (cw.mp q)];exact h1
def oX{a:Act c}{loc Y s l u i iu}(S:aN a p loc Y s)(hu:RV c p (.Y8 l) u)(hi:RV c p (.int i) iu):∃d r,u=.ref d/\pB c s d iu r/\au c p (Pz i l) r:=by
 refine bV hi.inv λt et=>?_
 refine Um hu.inv λad es m eu him lo hr hn=>?_
 refine Uo (Cz l hr) λkvs e1 e2 e3 e4=>?_
 have D:(dictOf es m).IsDictOf (intKind PW c.w) kvs:=⟨es.toArray,m,⟨rfl,rfl,rfl⟩,rfl,(λe he=>e2 e (List.mem_toArray.mp he)),e3,by rw[e1];exact hn⟩
 exact⟨ad,_,eu,et▸eS (S.get him) D lo (intKind_is PW c.w i t),e4 i⟩
def WM(ft:FT)(b:Bool)(x y:V)(k:KV)(Y:Sy):Bool:=
 bi (Nat.beq y.tag 10) (bb (CY x 8) (bb (CY y 8) (ob (P6 ft x y.xl) λt=>k (.bool (tw b t)) Y)))
 (bi (Nat.beq y.tag 11) (ob (bh Y.H y.xn) λo=>ob (lJ x) λkey=>TM ft y.xn key o (λr Y=>k (.bool (tw b r.isSome)) Y) Y)
 (bb (Nat.beq y.tag 7) (bb (Nat.beq x.tag 2) (k (.bool (tw b (Pz x.xi y.xj).isSome)) Y))))
def NQ{ft:FT}(F:aI c.σ ft){r:Rn kx c names n}{op b x y loc Y k}(hb:NM op=some b)(h:WM ft b x y k Y=true):F9 r (compareOp op) x y loc Y k:=λp s G u v S P hu hv=>by
 have hr:=r.room.u20
 have look:∀{d rr Y' t},v=.ref d->pB c s d u rr->rr.isSome=t->aN r.toAct p loc Y' s->k (.bool (tw b t)) Y'=true->wpAny (Mo c) r.A (compareOp op u v) G r.E s:=λ{d rr Y' t} ev D et S' hk=>by
  rw[ev]
  refine BP (P:=λop=>wpAny (Mo c) r.A (compareOp op u (.ref d)) G r.E s) hb (λeb=>D.inn (by lia) λm=>?_) λeb=>D.notin (by lia) λm=>?_
  ·rw[eb] at hk;rw[et];exact P.toks S' (.bool _) hk m
  ·rw[eb] at hk;rw[et];exact P.toks S' (.bool _) hk m
 refine bH h (λe h=>ag h λh1 h=>ag h λh2 h=>ay h λt ht h=>?_) λ_ h=>bH h (λe h=>ay h λo ho h=>ay h λkey hk h=>?_) λ_ h=>ag h λe h=>ag h λe' h=>?_
 ·rw[V.is e] at hv h2
  have h2:CY (.tup y.xl) 8=true:=h2
  refine lj (q9 c.σ.ν _ _ h1) λd e1 k1 l1=>?_
  refine lj (q9 c.σ.ν _ _ h2) λd' e2 k2 l2=>?_
  refine bV (fX (λh=>S.get h) hu d e1) λas R=>?_
  refine bV (fX (λh=>S.get h) hv d' e2) λbs R'=>?_
  rw[hO] at e2
  refine aH (fp e2) λxs e3 e4=>?_
  rw[<-e4] at R' k2 l2
  have e:=Gy F e1 y.xl ht e3
  have hz:r.A.units+1+min (PyData.depthAll xs) d.depth < cLine:=by lia
  have z:=P.here S (.bool _) h
  exact BP (P:=λop=>wpAny (Mo c) r.A (compareOp op u v) G r.E s) hb (λeb=>PySem.SeqAt.in_tuple_reads R' R k2 k1 hz (by rw[e];rw[eb] at z;exact z)) λeb=>PySem.SeqAt.notIn_tuple_reads R' R k2 k1 hz (by rw[e];rw[eb] at z;exact z)
 ·rw[V.is e] at hv
  exact wj F S (eQ ho) hv hk hu h λd rr ro Y' ed D hA S' hk=>look ed D (hY hA) S' hk
 ·rw[V.is e] at hv
  rw[V.is e'] at hu
  refine eC (oX S hv hu) λd rr ed D hA=>?_
  exact look ed D (hY hA) S h
noncomputable def C1(x:V):Option Bool:=match x with
 | .none=>some true
 | .bool _| .int _| .sym _| .str _| .tup _| .fls _| .ref _| .fin _ _=>some false
 | _=>.none
def zR{x u b}(h:C1 x=some b)(r:RV c p x u):(u == Value.none)=b:=by
 have r:=r.inv
 induction x using V.casesOn with
 | none=>obtain rfl:=oI h;rw[show u=.none from r];rfl
 | bool=>obtain rfl:=oI h;rw[show u=_ from r];rfl
 | int|sym|str=>obtain rfl:=oI h;refine bV r λt e=>?_;rw[e];rfl
 | tup|fls=>obtain rfl:=oI h;refine J9 r λ_ _ _ e _=>?_;rw[e];rfl
 | ref=>obtain rfl:=oI h;refine iR r λ_ _ e _=>?_;rw[e];rfl
 | fin=>obtain rfl:=oI h;refine TA r λ_ _ _ _ e _=>?_;rw[e];rfl
 | _=>exact aj h
def X4(ft:FT)(x y:V):Option Bool:=(mq (λz=>bb (Nat.beq y.xn z.1) (kX x.xs z.2.1)) ft.oe).map (·.2.2)
def X3(ft:FT)(x y:V):Option Bool:=Bool.rec .none (Bool.rec .none (X4 ft x y) (Nat.beq y.tag 6)) (Nat.beq x.tag 9)
def Yu(ft:FT)(op:CmpOp)(x y:V):Option Nat:=(It op).bind λb=>Bool.rec .none ((nz x).bind λa=>(nz y).bind λe=>(mq (λz=>bb (SE.beq a z.1) (SE.beq e z.2.1)) ft.cb).map (·.2.2)) b
def EC(ft:FT)(op:CmpOp)(x y:V)(k:KV)(Y:Sy):Bool:=
 oi (RM op) (λb=>bb (Nat.beq y.tag 0) (ob (C1 x) λt=>k (.bool (tw b t)) Y))
 (oi (NM op) (λb=>WM ft b x y k Y)
 (oi (Yu ft op x y) (λm=>k (.b_ m) Y)
 (oi (nz x) (λa=>oi (nz y) (λe=>oi (SI ft op a e) (λt=>k (.bool t) Y) (bb (KI op) (bb (k (.bool true) Y) (k (.bool false) Y)))) (VE ft op x y k Y))
 (oi (X3 ft x y) (λt=>ob (It op) λb=>k (.bool (tw b t)) Y) (VE ft op x y k Y)))))
def nr{ft:FT}(F:aI c.σ ft){r:Rn kx c names n}{op x y loc Y k}(h:EC ft op x y k Y=true):F9 r (compareOp op) x y loc Y k:=λp s G u v S P hu hv=>by
 refine bq h (λb hb h=>ag h λh1 h=>ay h λt ht h=>?_) λ_ h=>bq h (λb hb h=>NQ F hb h p s G u v S P hu hv) λ_ h=>bq h (λm hm h=>?_) λ_ h=>bq h (λa ha h=>bq h (λe he h=>?_) λ_ h=>Eu F h p s G u v S P hu hv) λ_ h=>bq h (λt ht h=>ay h λb hb h=>?_) λ_ h=>Eu F h p s G u v S P hu hv
 ·rw[V.is h1] at hv
  rw[show v=.none from hv.inv]
  have e:=zR ht hu
  have z:=P.here S (.bool _) h
  exact LS (P:=λop=>wpAny (Mo c) r.A (compareOp op u .none) G r.E s) hb (λeb=>is_none_gen (by rw[e];rw[eb] at z;exact z)) λeb=>isnot_none_gen (by rw[e];rw[eb] at z;exact z)
 ·refine aH (cU hm) λb eb hm=>?_
  refine bp hm (λe hm=>?_) λ_ h=>aj h
  refine aH (cU hm) λa ha hm=>?_
  refine aH (cU hm) λe' he hm=>?_
  refine aH (fp hm) λz hz hm=>?_
  refine cD hz λac4 ht=>?_
  refine bS (al.mp ht) λt1 t2=>?_
  have hc:=F.cb z ac4
  rw[<-SE.eq_of_beq _ t1,<-SE.eq_of_beq _ t2,hm] at hc
  refine bV (dN hu ha) λt eu=>?_
  refine bV (dN hv he) λt' ev=>?_
  rw[eu,ev]
  exact vJ (P:=λop=>wpAny (Mo c) r.A (compareOp op (.int _ t) (.int _ t')) G r.E s) eb (λ_=>sy rfl (P.here S (.b_ (by rw[hc];exact .bool _)) h)) λeb'=>by rw[e] at eb';exact bF eb'
 ·refine bV (dN hu ha) λt eu=>?_
  refine bV (dN hv he) λt' ev=>?_
  rw[eu,ev]
  refine bq h (λt ht h=>sy (Ja F ht) (P.here S (.bool _) h)) λ_ h=>ag h λhc h=>ag h λh1 h2=>?_
  refine bV (z7 hc (a.ev c.σ.ν) (e.ev c.σ.ν)) λz hz=>?_
  refine sy hz (P.here S (.bool _) ?_)
  rcases z with _|_
  ·exact h2
  ·exact h1
 ·refine bp ht (λhx ht=>bp ht (λhy ht=>?_) λ_ h=>aj h) λ_ h=>aj h
  rw[V.is hx] at hu
  rw[V.is hy] at hv
  refine aH (fp ht) λz hz hm=>?_
  refine cD hz λac4 ht=>?_
  refine bS (al.mp ht) λt1 t2=>?_
  refine Uo (F.oe z ac4) λw h1 h2 h3 h4=>?_
  rw[<-dn.mp t2] at h3 h4
  rw[<-cf t1] at h1
  have hv:RV c p (c.σ.ω y.xn) v:=hv.inv
  rw[h1] at hv
  refine bV (fX (λh=>S.get h) hu _ rfl) λa1 R=>?_
  refine bV (fX (λh=>S.get h) hv _ rfl) λa2 R'=>?_
  have e:PyData.eqv (.str x.xs) (.str w)=t:=by rw[<-hm,<-h4];exact oK ⟨mB,gJ⟩ cS
  have hr:r.A.units+min (PyData.str x.xs).depth (PyData.str w).depth < cLine:=by have:=r.room.u20;show _+min 0 0 < _;lia
  have z:=P.here S (.bool _) h
  exact vJ (P:=λop=>wpAny (Mo c) r.A (compareOp op u v) G r.E s) hb (λeb=>PySem.SeqAt.compareEq_reads R R' h3 h2 hr (by rw[e];rw[eb] at z;exact z)) λeb=>PySem.SeqAt.compareNe_reads R R' h3 h2 hr (by rw[e];rw[eb] at z;exact z)
def Kh(ft:FT)(v:V)(k:KB)(Y:Sy):Bool:=
 bi (Nat.beq v.tag 1) (k v.xb Y)
 (bi (Nat.beq v.tag 0) (k false Y)
 (oi (nz v) (λe=>oi (yS ft e (.lit 0)) (λt=>k t.not Y) (bb (k true Y) (k false Y)))
 (bb (Nat.beq v.tag 9) (bb (Nat.ble v.xs.length 4000) (k (Nat.beq v.xs.length 0).not Y)))))
def mu.here{a:Act c}{loc k G Y s b}(P:mu a p loc k G)(S:aN a p loc Y s)(h:k b Y=true):G b s:=P _ _ _ _ (Le.refl _) S h
def lw{ft:FT}(F:aI c.σ ft){r:Rn kx c names n}{v u loc Y k s G}(S:aN r.toAct p loc Y s)(P:mu r.toAct p loc k G)(hv:RV c p v u)(h:Kh ft v k Y=true):wpAny (Mo c) r.A (truthy u) G r.E s:=by
 refine bH h (λe h=>?_) λ_ h=>bH h (λe h=>?_) λ_ h=>bq h (λe he h=>?_) λ_ h=>ag h λe h=>ag h λhz h=>?_
 ·rw[V.is e] at hv
  rw[show u=_ from hv.inv]
  exact wpAny_truthy_bool (P.here S h)
 ·rw[V.is e] at hv
  rw[show u=.none from hv.inv]
  exact dF (P.here S h)
 ·refine bV (dN hv he) λt eu=>?_
  rw[eu]
  refine truthy_int (bq h (λt ht h=>P.here S ?_) λ_ h=>ag h λh1 h2=>P.here S ?_)
  ·have e0:(e.ev c.σ.ν == 0)=t:=jS F ht
   rw[bne,e0];exact h
  ·rcases(e.ev c.σ.ν != 0) with _|_
   ·exact h2
   ·exact h1
 ·rw[V.is e] at hv
  refine bV hv.inv λt eu=>?_
  rw[eu]
  have hz:=fu hz
  refine PySem.P.truthy_str (by lia) (P.here (S.toks _) ?_)
  have e:((v.xs.length:Int) != 0)=(Nat.beq v.xs.length 0).not:=by induction v.xs.length using nC <;> rfl
  rw[e];exact h
def S6(ft:FT)(op:CmpOp)(r:Expr)(f g:CE):CE:=λloc Y k=>bb (behindInMarks op r).not (f loc Y λx Y=>g loc Y λy Y=>EC ft op x y k Y)
def OZ{b:Bool}(h:b.not=true):b=false:=by
 rcases b with _|_
 ·rfl
 ·exact bT h
def Jr{ft:FT}(F:aI c.σ ft){l e:Expr}{op:CmpOp}{pos:Pos}{f g:CE}(hf:b6 kx c names n l f)(hg:b6 kx c names n e g):b6 kx c names n (.Compare l [op] [e] pos) (S6 ft op e f g):=λr loc Y k h p s G S P=>ag h λhm h=>
 wpAny_Compare1 (hf r loc Y _ h p s _ S λbP u x bn aJ bA aC hx h=>hg r loc bn _ h bP aJ _ aC λgu v y cW b8 bL aO hy h=>nr F h gu b8 G u v aO (P.le (bA.trans bL)) (hx.mono bL) hy) (OZ hm)
def Li(ft:FT)(op:CmpOp)(r:Expr)(f g:CE):CB:=λloc Y k=>bb (behindInMarks op r).not (f loc Y λx Y=>g loc Y λy Y=>EC ft op x y (λv Y=>Kh ft v k Y) Y)
def Fc{ft:FT}(F:aI c.σ ft){l e:Expr}{op:CmpOp}{pos:Pos}{f g:CE}(hf:b6 kx c names n l f)(hg:b6 kx c names n e g):jW kx c names n (.Compare l [op] [e] pos) (Li ft op e f g):=λr loc Y k h p s G S P=>ag h λhm h=>
 wpAny_isTrue_Compare1 (hf r loc Y _ h p s _ S λbP u x bn aJ bA aC hx h=>hg r loc bn _ h bP aJ _ aC λgu v y cW b8 bL aO hy h=>
  nr F h gu b8 _ u v aO (λCI u v xk B1 iq cK hv h=>lw F cK (P.le ((bA.trans bL).trans iq)) hv h) (hx.mono bL) hy) (OZ hm)
def CK(e:Expr):Bool:=match e with
 | .UnaryOp .Not _ _| .BoolOp _ _ _| .IfExp _ _ _ _| .Compare _ _ _ _=>false
 | _=>true
def SU(ft:FT)(e:Expr)(f:CE):CB:=λloc Y k=>bb (CK e) (f loc Y λv Y=>Kh ft v k Y)
def Jg{ft:FT}(F:aI c.σ ft){e:Expr}{f:CE}(hf:b6 kx c names n e f):jW kx c names n e (SU ft e f):=λr loc Y k h p s G S P=>ag h λhp h=>
 isTrue_plain (hf r loc Y _ h p s _ S λbP u v bn aJ bA aC hv h=>lw F aC (P.le bA) hv h) (by induction e using Expr.casesOn <;> first|rfl|exact ff hp|(rename_i op x p;induction op using UnaryOp.casesOn <;> first|rfl|exact ff hp))
def EY{e:Expr}{pos:Pos}{f:CB}(hf:jW kx c names n e f):jW kx c names n (.UnaryOp .Not e pos) (λloc Y k=>f loc Y λb Y=>k b.not Y):=λr loc Y k h p s G S P=>
 isTrue_not (hf r loc Y _ h p s _ S λbP b bn aJ bA aC h=>P _ _ _ _ bA aC h)
def SV(ft:FT)(f:CE):CE:=λloc Y k=>f loc Y λv Y=>Kh ft v (λb Y=>k (.bool b.not) Y) Y
def Jh{ft:FT}(F:aI c.σ ft){e:Expr}{pos:Pos}{f:CE}(hf:b6 kx c names n e f):b6 kx c names n (.UnaryOp .Not e pos) (SV ft f):=λr loc Y k h p s G S P=>
 UnaryOp_ (hf r loc Y _ h p s _ S λbP u v bn aJ bA aC hv h=>not_of (lw F aC (λgu b cW b8 bL aO h=>P _ _ _ _ _ (bA.trans bL) aO (.bool _) h) hv h))
def OT(t:CB)(f g:CE):CE:=λloc Y k=>t loc Y λb Y=>bi b (f loc Y k) (g loc Y k)
def y6{t x y:Expr}{pos:Pos}{ct:CB}{f g:CE}(ht:jW kx c names n t ct)(hf:b6 kx c names n x f)(hg:b6 kx c names n y g):b6 kx c names n (.IfExp t x y pos) (OT ct f g):=λr loc Y k h p s G S P=>
 IfExp_ (ht r loc Y _ h p s _ S λbP b bn aJ bA aC h=>bH h (λe h=>by rw[e];exact hf r loc bn k h bP aJ G aC (P.le bA)) λe h=>by rw[e];exact hg r loc bn k h bP aJ G aC (P.le bA))
def SZ(t f g:CB):CB:=λloc Y k=>t loc Y λb Y=>bi b (f loc Y k) (g loc Y k)
def Jm{t x y:Expr}{pos:Pos}{ct f g:CB}(ht:jW kx c names n t ct)(hf:jW kx c names n x f)(hg:jW kx c names n y g):jW kx c names n (.IfExp t x y pos) (SZ ct f g):=λr loc Y k h p s G S P=>
 isTrue_IfExp (ht r loc Y _ h p s _ S λbP b bn aJ bA aC h=>bH h (λe h=>by rw[e];exact hf r loc bn k h bP aJ G aC (P.le bA)) λe h=>by rw[e];exact hg r loc bn k h bP aJ G aC (P.le bA))
def uw(op:BoolOp):Bool:=match op with
 | .And=>true
 | .Or=>false
def wZ(op:BoolOp)(f:Expr->CB)(es:List Expr):CB:=List.rec (λ_ Y k=>k (uw op) Y) (λe _ g loc Y k=>f e loc Y λb Y=>bi (pQ b (uw op)) (g loc Y k) (k b Y)) es
def AK{op:BoolOp}{pos:Pos}{f:Expr->CB}(hf:∀e,jW kx c names n e (f e))(es:List Expr):jW kx c names n (.BoolOp op es pos) (wZ op f es):=by
 induction es with
 | nil=>
  intro r loc Y k h p s G S P
  induction op using BoolOp.casesOn with
  | And=>exact isTrue_and_nil (P.here S h)
  | Or=>exact isTrue_or_nil (P.here S h)
 | cons e es ih=>
   intro r loc Y k h p s G S P
   have h:f e loc Y (λb Y=>bi (pQ b (uw op)) (wZ op f es loc Y k) (k b Y))=true:=h
   have z:=λG' Q=>hf e r loc Y _ h p s G' S Q
   induction op using BoolOp.casesOn with
   | And=>exact isTrue_and (z _ λbP b bn aJ bA aC h=>by
    rcases b with _|_
    ·exact P _ _ _ _ bA aC h
    ·exact ih r loc bn k h bP aJ G aC (P.le bA))
   | Or=>exact isTrue_or (z _ λbP b bn aJ bA aC h=>by
    rcases b with _|_
    ·exact ih r loc bn k h bP aJ G aC (P.le bA)
    ·exact P _ _ _ _ bA aC h)
def y8(ft:FT)(op:BoolOp)(f:Expr->CE)(es:List Expr):CE:=List.rec (λ_ _ _=>false) (λe es g loc Y k=>bi (bf es) (f e loc Y k) (f e loc Y λv Y=>Kh ft v (λb Y=>bi (pQ b (uw op)) (g loc Y k) (k v Y)) Y)) es
def AJ{ft:FT}(F:aI c.σ ft){op:BoolOp}{pos:Pos}{f:Expr->CE}(hf:∀e,b6 kx c names n e (f e))(es:List Expr):∀(r:Rn kx c names n) loc Y k,y8 ft op f es loc Y k=true->∀p s G,aN r.toAct p loc Y s->jc r.toAct p loc k G->wpAny (Mo c) r.A (boolOp pos op (evalEach es r.env)) G r.E s:=by
 induction es with
 | nil=>exact λr loc Y k h=>ff h
 | cons e es ih=>
   intro r loc Y k h p s G S P
   have h:bi (bf es) (f e loc Y k) (f e loc Y λv Y=>Kh ft v (λb Y=>bi (pQ b (uw op)) (y8 ft op f es loc Y k) (k v Y)) Y)=true:=h
   refine bH h (λe1 h=>by rw[aG e1];exact hf e r loc Y k h p s G S P) λe1 h=>?_
   rcases es with _|⟨e',es⟩
   ·exact bF e1
   ·show wpAny (Mo c) r.A (do
     let v<-eval e r.env
     standAt pos
     let t<-holding [v] (truthy v)
     match op,t with
     | .And,false| .Or,true=>pure v
     | _,_=>boolOp pos op (evalEach (e'::es) r.env)) _ r.E s
    refine bX (hf e r loc Y _ h p s _ S λbP u v bn aJ bA aC hv h=>bX (wpAny_standAt (bX (wpAny_holding (lw F aC (λgu b cW b8 bL aO h=>?_) hv h)))))
    have go:=λh=>ih r loc cW k h gu b8 G aO (P.le (bA.trans bL))
    have out:=λh=>P gu u v cW b8 (bA.trans bL) aO (hv.mono bL) h
    induction op using BoolOp.casesOn with
    | And=>
     rcases b with _|_
     ·exact dF (out h)
     ·exact go h
    | Or=>
     rcases b with _|_
     ·exact go h
     ·exact dF (out h)
def Fj{ft:FT}(F:aI c.σ ft){op:BoolOp}{pos:Pos}{f:Expr->CE}(hf:∀e,b6 kx c names n e (f e))(es:List Expr):b6 kx c names n (.BoolOp op es pos) (y8 ft op f es):=λr loc Y k h p s G S P=>by
 rw[arm_eval_BoolOp];exact AJ F hf es r loc Y k h p s G S P
def Ji{i:Int}{j pos pos'}:b6 kx c names n (.UnaryOp .USub (.Constant (.int i) j pos) pos') (λ_ Y k=>k (.int (-i)) Y):=λr loc Y k h p s G S P=>
 UnaryOp_ (wpAny_Constant_int (neg_int (P.toks S (.int _ _) h _)))
structure xz(K:Frag)(C:Addr)(x:Str):Prop where
 get:plainGet K C x=true
 dict:hasDictIn K C=true
 at_:∃at_,findIn K (.ref C) x=some at_/\noGet K at_=true
structure F7(K:Frag)(C:Addr)(x:Str):Prop where
 sa:findIn K (.ref C) "__setattr__" =some (some (.builtin "object.__setattr__"))
 over:plainOver K C=true
 taker:takerIn K C x=some none
 dict:hasDictIn K C=true
structure sN(K:Frag)(C:Addr)(name:Str)(f:Addr):Prop where
 get:plainGet K C name=true
 find:findIn K (.ref C) name=some (some (.ref f))
 fn:isFn K (.ref f)=true
structure xr(K:Frag)(C f:Addr):Prop where
 makes:makesIn K C=true
 find:findIn K (.ref C) "__init__" =some (some (.ref f))
 fn:isFn K (.ref f)=true
 keep:keepIn K (.ref C)=true
structure sO(K:Frag)(C:Addr):Prop where
 makes:makesIn K C=true
 find:findIn K (.ref C) "__init__" =some (some (.builtin "object.__init__"))
 keep:keepIn K (.ref C)=true
structure gx where
 gl:List (Nat×V)
 attr:Addr->Nat->Bool
 sets:Addr->Nat->Bool
 mth:Addr->Nat->Option Addr
 mkI:Addr->Option Addr
 mk0:Addr->Bool
 exc:Addr->Option Addr
 xat:Addr->Nat->Bool
 ft:FT
 rx:Nat->Sy->Bool
 tr:(Nat->Sy->Bool)->Addr->Option (List V->Sy->(V->Sy->Bool)->Bool)
structure bY(c:Cx)(X:gx):Prop where
 glob:∀x v,lk (code x) X.gl=some v->xu c x v
 attr:∀C x,X.attr C (code x)=true->xz c.K C x
 sets:∀C x,X.sets C (code x)=true->F7 c.K C x
 mth:∀C x f,X.mth C (code x)=some f->sN c.K C x f
 mkI:∀C f,X.mkI C=some f->xr c.K C f
 mk0:∀C,X.mk0 C=true->sO c.K C
 exc:∀C f,X.exc C=some f->A6 c.K C f
 xat:∀C x,X.xat C (code x)=true->findIn c.K (.ref C) x=some none
 ft:aI c.σ X.ft
def oJ(H:Hp)(v:V):Option (Addr×List (Nat×V)):=Bool.rec (Bool.rec .none ((bh H v.xn).bind eU) (Nat.beq v.tag 11)) (some (v.xn,v.xa)) (Nat.beq v.tag 16)
def aN.gfr{a:Act c}{loc Y s}{C:Prop}(S:aN a p loc Y s)(k:∀g m own,c.K.In g->Fr g a.env.locals s.heap m->News g a.env.locals s.heap (own++(a.X++p.I))->C):C:=match S with
 | ⟨m,⟨⟨g,own,tn,F,N,_,_,_⟩,_,_,_,_,_⟩,r⟩=>k g m own (a.KX.keeps (a.Zz tn)) F N
def aN.inst{a:Act c}{loc Y s v u r}(S:aN a p loc Y s)(hv:RV c p v u)(h:oJ Y.H v=some r):∃x d es m,u=.ref x/\InstAt s.heap x (instObj r.1 d) r.1 (some (dictOf es m))/\RA c p r.2 es:=by
 refine bp h (λe h=>?_) λ_ h=>bp h (λe h=>?_) λ_ h=>aj h
 ·rw[V.is e] at hv
  refine li hv.inv λa d es m eu h1 h2 h3=>?_
  obtain rfl:=oI h
  exact⟨a,d,es,m,eu,⟨S.get h1,rfl,rfl,S.get h2⟩,h3⟩
 ·rw[V.is e] at hv
  refine aH (cU h) λo ho h=>?_
  rw[bZ h] at ho
  refine iR hv.inv λad dd eu g_=>?_
  refine aH (S.look (eQ ho)) λx J_ g=>?_;obtain⟨a',d',e',es,m,h1,h2⟩:=J_
  rw[g_] at e';refine bS (fI (oI e')) λX_ YO=>?_;obtain rfl:=X_;obtain rfl:=YO
  exact⟨ad,dd,es,m,eu,⟨g _ (by rw[h2];exact .head _),rfl,rfl,g _ (by rw[h2];exact .tail _ (.head _))⟩,h1⟩
def uq(x y:Str)(t:Tok):(Value.str y t).isStr x=Nat.beq (code y) (code x):=by
 by_cases q:y=x
 ·rw[q,mz];exact beq_self_eq_true x
 ·rw[sC (fN q)];exact pG.mpr q
def Ah(x y:Str)(t:Tok)(u:Value)(z)(r:List DictEntry):getL x (⟨z,.str y t,u⟩::r)=Bool.rec (getL x r) (some (some u)) (Nat.beq (code y) (code x)):=by
 unfold getL
 rw[List.find?_cons,List.any_cons,show(DictEntry.key ⟨z,.str y t,u⟩).isStr x=_ from uq x y t]
 rcases Nat.beq (code y) (code x) with _|_
 ·rfl
 ·rfl
def RA.look{x:Str}(l:List (Nat×V)):∀{es},RA c p l es->(∀v,lk (code x) l=some v->∃u,getL x es=some (some u)/\RV c p v u)/\(lk (code x) l=.none->getL x es=some .none):=by
 induction l with
 | nil=>intro es h;rw[show es=[] from h.inv];exact⟨λv=>aj,λ_=>rfl⟩
 | cons y l ih=>
  intro es h
  refine li h.inv λz t u r ez e h1 h2=>?_
  obtain⟨y1,y2⟩:=y
  have ez:y1=code z:=ez
  subst ez
  rw[e,Ah,show lk (code x) ((code z,y2)::l)=Bool.rec (lk (code x) l) (some y2) (Nat.beq (code z) (code x)) from rfl]
  rcases Nat.beq (code z) (code x) with _|_
  ·exact ih h2
  ·exact⟨λv e=>by obtain rfl:=oI e;exact⟨u,rfl,h1⟩,nofun⟩
def qA(o:AO):Option (Addr×List (Nat×V)):=match o with
 | .exc C l=>some (C,l)
 | _=>.none
def pg{o l}(h:qA o=some l):o=.exc l.1 l.2:=by induction o using AO.casesOn with
 | exc=>obtain rfl:=oI h;rfl
 | _=>exact aj h
def KU(H:Hp)(v:V):Option (Addr×List (Nat×V)):=Bool.rec .none ((bh H v.xn).bind qA) (Nat.beq v.tag 11)
def aN.ah2{a:Act c}{loc Y s v u r x w}(S:aN a p loc Y s)(hv:RV c p v u)(h:KU Y.H v=some r)(hw:lk (code x) r.2=some w):∃ad oe es n,u=.ref ad/\InstAt s.heap ad oe r.1 (some (dictOf es n))/\RA c p r.2 es:=by
 refine bp h (λe h=>?_) λ_ h=>aj h
 rw[V.is e] at hv
 refine aH (cU h) λo ho h=>?_
 rw[pg h] at ho
 refine iR hv.inv λad dd eu g_=>?_
 refine aH (S.look (eQ ho)) λled R g=>(eF.gt R g_).casesOn λes oe vs dl hR hc hd h0 ZW hx=>?_
 have mem:∀z∈(ad,oe)::dl,z∈led:=λz hz=>hx.elim (λh=>by rw[h.2];exact hz) λh=>h.elim λT h=>h.elim λoT h=>h.elim λts h=>by
  rw[h.2.2.2]
  exact(dL.mp hz).elim (λe=>e▸.head _) λhz=>.tail _ (.tail _ hz)
 have no:notCls oe=true:=by unfold notCls;rw[hd]
 refine ZW.elim (λh=>?_) λh=>?_
 ·refine nJ h λ_ e2 _=>?_
  rw[e2] at hR
  refine aH ((hR.look r.2).1 w hw) λu' hu' _=>?_
  cases hu'
 ·refine iR h λd n h1 h2=>?_
  refine⟨ad,oe,es,n,eu,⟨g _ (mem _ (.head _)),hc,no,?_⟩,hR⟩
  rw[h1]
  exact g _ (mem _ (by rw[h2];exact .tail _ (.head _)))
def Fq(X:gx)(o:Expr)(x:Str)(f:CE):CE:=λloc Y k=>bb (pZ o) (f loc Y λv Y=>oi (oJ Y.H v) (λz=>bb (X.attr z.1 (code x)) (ob (lk (code x) z.2) λu=>k u Y)) (ob (KU Y.H v) λz=>ob (X.exc z.1) λ_=>bb (X.xat z.1 (code x)) (ob (lk (code x) z.2) λu=>k u Y)))
def u7{X:gx}(C:bY c X){o:Expr}{x:Str}{pos:Pos}{f:CE}(hf:b6 kx c names n o f):b6 kx c names n (.Attribute o x pos) (Fq X o x f):=λr loc Y k h p s G S P=>ag h λhp h=>
 Attribute_any_ (hf r loc Y _ h p s _ S λbP u v bn aJ bA aC hv h=>bq h (λz hz h=>ag h λha h=>ay h λw hw h=>by
  refine PS (aC.inst hv hz) λad d es m eu IA hA=>?_
  refine aH ((hA.look z.2).1 w hw) λu' hu' hR=>?_
  have ok:=C.attr _ _ ha
  refine aH ok.at_ λat_ e1 e2=>?_
  rw[eu]
  exact aC.gfr λg m own KX F N=>get_own (w:=c.w) (K:=c.K) (C:=z.1) F KX IA ok.get ok.dict e1 e2 hu' hR.handed (P _ _ _ _ _ bA (aC.toks _) hR h)) λ_ h=>ay h λz hz h=>ay h λfi hfi h=>ag h λha h=>ay h λw hw h=>by
  refine PS (aC.ah2 hv hz hw) λad oe es m eu IA hA=>?_
  refine aH ((hA.look z.2).1 w hw) λu' hu' hR=>?_
  have ok:=C.exc _ _ hfi
  rw[eu]
  exact Vm (w:=c.w) aC.X IA ok.ga ok.gt ok.base (findObj_own (attr:=none) ok.dict (C.xat _ _ ha) rfl (by rw[lookIn_dict];exact hu')) hR.handed (P _ _ _ _ _ bA (aC.toks _) hR h)) (by rw[arm_eval_Attribute,(fz hp).base])
def bG.get(l:List V):∀{us} {j:Nat} {x:V},bG c p l us->bh l j=some x->∃u,us[j]? =some u/\RV c p x u:=by
 induction l with
 | nil=>exact λ_=>aj
 | cons v l ih=>
  intro us j x h e
  refine eC h.inv λu r e' h1 h2=>?_
  rw[e']
  induction j using nC with
  | zero=>obtain rfl:=oI e;exact⟨u,rfl,h1⟩
  | succ j=>rw[s7];exact ih h2 e
def Nh(ft:FT)(g:Nat):Option SE:=(mq (λz=>Nat.beq g z.1) ft.len).map (·.2)
def yx{ft:FT}(F:aI σ ft){g e}(h:Nh ft g=some e):((σ.γ g).length:Int)=e.ev σ.ν:=
 (fp h).elim λz h=>cD h.1 λm t=>by rw[cf t,<-h.2];exact F.len z m
def Kw(ft:FT)(g:Nat)(e:SE):Option V:=(mq (λz=>bb (Nat.beq g z.1) (SE.beq e z.2.1)) ft.lf).map (·.2.2)
def Dy{ft:FT}(F:aI σ ft){g e r}(h:Kw ft g e=some r):0<=e.ev σ.ν/\∃v,(σ.γ g)[(e.ev σ.ν).toNat]? =some v/\ak σ v r:=
 (fp h).elim λz h=>cD h.1 λm t=>by
  refine bS (al.mp t) λt1 t2=>?_
  rw[cf t1,SE.eq_of_beq _ t2,<-h.2];exact F.lf z m
def lY(a b:SE):SE:=Bool.rec (.add a b) (Bool.rec (Bool.rec (Bool.rec (.add a b) (.add a.l (.lit (a.r.i+b.i))) (bb (Nat.beq a.tag 2) (Nat.beq a.r.tag 0))) a (pN b.i 0)) (.lit (a.i+b.i)) (Nat.beq a.tag 0)) (Nat.beq b.tag 0)
def gB(ν)(a b:SE):(lY a b).ev ν=a.ev ν+b.ev ν:=by
 unfold lY
 rcases h:Nat.beq b.tag 0 with _|_
 ·rfl
 ·have hb:=ce h
  rcases h1:Nat.beq a.tag 0 with _|_
  ·rcases h2:pN b.i 0 with _|_
   ·rcases h3:bb (Nat.beq a.tag 2) (Nat.beq a.r.tag 0) with _|_
    ·rfl
    ·refine bS (al.mp h3) λt1 t2=>?_
     have ha:=SE.of_eq a
     rw[cf t1] at ha
     have ha:SE.add a.l a.r=a:=ha
     rw[ce t2] at ha
     rw[hb,<-ha]
     exact(Int.add_assoc ..).symm
   ·rw[hb,cw.mp h2];exact(Int.add_zero _).symm
  ·rw[hb,ce h1];rfl
def Ea(ft:FT)(e:SE)(post:List V):SE->Option V:=List.rec (λ_=>.none) (λv _ g l=>Bool.rec (g (lY l (.lit 1))) (some v) (bo (yS ft e l))) post
where bo (o:Option Bool):Bool:=Option.rec false (λb=>b) o
def Ae{ft:FT}(F:aI σ ft){e v}(post:List V):∀{l:SE} {m:Nat},l.ev σ.ν=m->Ea ft e post l=some v->∃j,e.ev σ.ν=((m+j:Nat):Int)/\bh post j=some v:=by
 induction post with
 | nil=>exact λ_=>aj
 | cons x post ih=>
  intro l m hl h
  refine bp h (λe1 h=>⟨0,?_,h⟩) λ_ h=>?_
  ·rcases e2:yS ft e l with _|b
   ·rw[e2] at e1;exact ff e1
   ·rw[e2] at e1;rw[cS.mp ((jS F e2).trans e1),hl];rfl
  ·obtain⟨j,h1,h2⟩:=ih (m:=m+1) (by rw[gB,hl];rfl) h
   exact⟨j+1,by rw[h1,Nat.add_right_comm m 1 j];rfl,h2⟩
def Qk(x:Str)(n:Nat):Option Nat:=bh x.cps.toList n
def KL(i:V)(f:Nat->Bool):Bool:=bb (Nat.beq i.tag 2) (bb (KJ 0 i.xi) (bb (Nat.ble i.xi.toNat 100000) (f i.xi.toNat)))
def oM{i:V}{f:Nat->Bool}{C:Prop}{iu}(h:KL i f=true)(hi:RV c p i iu)(K:∀(m:Nat) t,iu=.int m t->m<=100000->f m=true->C):C:=ag h λh1 h=>ag h λh2 h=>ag h λh3 h=>by
 rw[V.is h1] at hi
 refine bV hi.inv λt e=>?_
 exact K _ t (by rw[e,pF (jn.mp h2)]) (fu h3) h
def Cg{n m:Nat}(h:n < m):seqIndex? (n:Int) m=some n:=by
 rw[seqIndex_of (k:=(n:Int)) (n:=m) (nI n) (Int.ofNat_lt.mpr h)];rfl
def Tw(r:Rn kx c names n)(x y:V)(loc:cL)(Y:Sy)(k:KV):Prop:=
 ∀p s G u v,aN r.toAct p loc Y s->jc r.toAct p loc k G->RV c p x u->RV c p y v->∃T id,s.TypeIs u T/\typeLookup (.type T) "__getitem__" =pure (some (.builtin id))/\wpAny (Mo c) r.A (getItem u v) G r.E s
def Ws(ft:FT)(e:SE)(l:List V):Option V:=(mq (λz=>bb (SE.beq e z.1) (jF l z.2.1)) ft.pk).map (·.2.2)
def XA(ft:FT)(m:Nat)(l:List (Nat×V)):Option V:=(mq (λz=>bb (Nat.beq m z.1) ((V.fin 0 l).beq (.fin 0 z.2.1))) ft.sf).map (·.2.2)
def Sb(ft:FT)(v i:V)(k:KV)(Y:Sy):Bool:=
 bi (Nat.beq v.tag 10) (bi (Nat.beq i.tag 3) (ob (Ws ft i.xe v.xl) λu=>k u Y) (KL i λm=>ob (bh v.xl m) λu=>k u Y))
 (bi (Nat.beq v.tag 15) (KL i λm=>ob (bh v.xl m) λu=>k u Y)
 (bi (Nat.beq v.tag 9) (KL i λm=>ob (Qk v.xs m) λch=>k (.str ⟨#[ch]⟩) Y)
 (bi (Nat.beq v.tag 7) (bb (Nat.beq i.tag 2) (ob (Pz i.xi v.xj) λu=>k u Y))
 (bb (Nat.beq v.tag 11) (ob (bh Y.H v.xn) λo=>
  oi (dw o) (λl=>bi (Nat.beq i.tag 3) (ob (Ws ft i.xe l) λu=>k u Y) (KL i λm=>ob (bh l m) λu=>k u Y))
  (oi (jG o) (λg=>ob (nz i) λe=>oi (Kw ft g.1 e) (λu=>k u Y) (bb (Nat.ble g.2.length 100000) (ob (Nh ft g.1) λl=>ob (Ea ft e g.2 l) λu=>k u Y)))
  (bi (Nat.beq i.tag 6) (ob (lU o) λl=>ob (XA ft i.xn l) λu=>k u Y)
  (ob (lJ i) λkey=>TM ft v.xn key o (λz Y=>ob z λu=>k u Y) Y))))))))
def aN.seq{a:Act c}{loc Y s j o u}(S:aN a p loc Y s)(hj:Y.H[j]? =some o)(hu:RV c p (.ref j) u){l:List V}(hl:(∃g:Nat×List V,o=.v_ g.1 g.2/\l=c.σ.γ g.1++g.2)\/o=.lst l):∃d vs m dd,u=.ref d/\p.ρ[j]? =some (d,dd)/\s.heap.get? d=some (cJ vs m)/\bG c p l vs:=by
 refine hl.elim (λhl=>?_) λhl=>S.list (hl▸hj) hu
 refine aH hl λg e1 e2=>?_
 rw[e1] at hj
 refine iR hu.inv λad dd eu g_=>?_
 refine aH (S.look hj) λx zz7 g=>?_;obtain⟨a',d',e,vs,m,h1,h2⟩:=zz7
 rw[g_] at e;refine bS (fI (oI e)) λzz8 zz9=>?_;obtain rfl:=zz8;obtain rfl:=zz9
 exact⟨ad,vs,m,dd,eu,g_,g _ (by rw[h2];exact .head _),e2▸h1⟩
def oQ{A:Around}{E:Value->Shared->Prop}{s:Shared}{d m t l vs x nn}{G:Value->Shared->Prop}(hg:s.heap.get? d=some (cJ vs nn))(hl:bG c p l vs)(hm:(m:Nat)<=2100000)(hx:bh l m=some x)(P:∀u,RV c p x u->G u s):
  ∃T id,s.TypeIs (.ref d) T/\typeLookup (.type T) "__getitem__" =pure (some (.builtin id))/\wpAny (Mo c) A (getItem (.ref d) (.int m t)) G E s:=by
 refine aH (hl.get l hx) λy hy hR=>?_
 have L:s.heap.IsList d vs.toArray:=⟨_,hg,rfl,nn,rfl⟩
 exact⟨_,_,L.typeIs,slot_list_getitem.lookup,wpAny_getItem_list L (nI m) (by omega) (by rw[vB];exact hy) (P y hR)⟩
def yJ{A:Around}{E:Value->Shared->Prop}{s:Shared}{d m t l vs x nn}{G:Value->Shared->Prop}(hg:s.heap.get? d=some (lu vs nn))(hl:bG c p l vs)(hm:(m:Nat)<=2100000)(hx:bh l m=some x)(P:∀u,RV c p x u->G u s):
  ∃T id,s.TypeIs (.ref d) T/\typeLookup (.type T) "__getitem__" =pure (some (.builtin id))/\wpAny (Mo c) A (getItem (.ref d) (.int m t)) G E s:=by
 refine aH (hl.get l hx) λy hy hR=>?_
 have T:IsTup s.heap d vs.toArray:=⟨_,hg,rfl,nn,rfl⟩
 exact⟨_,_,T.typeIs,slot_tuple_getitem.lookup,getItem_tuple T (by lia) (by lia) (by rw[iJ];exact Cg (oD hy).1) (by rw[vB];exact hy) (P y hR)⟩
def lS{r:Rn kx c names n}{A:Around}{E:Value->Shared->Prop}{s:Shared}{u iu d rr ro}{G:Value->Shared->Prop}(eu:u=.ref d)(hA:A.units+20<=cLine)(D:pB c s d iu rr)(h:au c p (some ro) rr)(P:∀m v,RV c p ro v->G v {s with toks:=m}):
  ∃T id,s.TypeIs u T/\typeLookup (.type T) "__getitem__" =pure (some (.builtin id))/\wpAny (Mo c) A (getItem u iu) G E s:=by
 rw[eu]
 rcases rr with _|v
 ·exact h.elim
 ·exact⟨_,_,D.ty,slot_dict_getitem.lookup,D.item rfl (by lia) λm=>P m v h⟩
def IH{ft:FT}(F:aI c.σ ft){r:Rn kx c names n}{v i loc Y k}(h:Sb ft v i k Y=true):Tw r v i loc Y k:=λp s G u iu S P hu hi=>by
 have hr:=r.room.u20
 refine bH h (λe h=>?_) λ_ h=>bH h (λe h=>?_) λ_ h=>bH h (λe h=>?_) λ_ h=>bH h (λe h=>?_) λ_ h=>ag h λe h=>ay h λo ho h=>?_
 ·rw[V.is e] at hu
  refine mE hu.inv λad items m eu h1 h2=>?_
  rw[eu]
  refine bH h (λe h=>ay h λx hx h=>?_) λ_ h=>oM h hi λm t ei hm h=>ay h λx hx h=>?_
  ·rw[V.is e] at hi
   refine bV hi.inv λt ei=>?_
   refine aH (fp hx) λz hz ez=>?_
   refine cD hz λmm ht=>?_
   refine bS (al.mp ht) λt1 t2=>?_
   have hb:=F.pkz z mm
   refine eC (F.pk z mm) λj w k1 k2 k3=>?_
   rw[<-SE.eq_of_beq _ t1] at k1 hb
   rw[<-i9 _ t2,<-bK] at k2
   rw[ez] at k3
   rw[ei,k1]
   exact yJ (S.get h1) h2 (by lia) k2 λu ru=>P.here S (k3 rfl ru) h
  ·rw[ei]
   exact yJ (S.get h1) h2 (by lia) hx λu ru=>P.here S ru h
 ·rw[V.is e] at hu
  refine mE hu.inv λad items m eu h1 h2=>?_
  rw[eu]
  exact oM h hi λm t ei hm h=>ay h λx hx h=>by rw[ei];exact oQ (S.get h1) h2 (by lia) hx λu ru=>P.here S ru h
 ·rw[V.is e] at hu
  refine bV hu.inv λt' eu=>?_
  rw[eu]
  refine oM h hi λm t ei hm h=>ay h λx hx h=>?_
  have hx:v.xs.cps.toList[m]? =some x:=eQ hx
  have YF:m < v.xs.length:=(oD hx).1
  rw[ei]
  exact⟨_,_,typeIs_str s _ _,PySem.F.slot_str_getitem.lookup,PyProof.Rows.getItem_str (c:=x) (by rw[Bool.or_eq_false_iff,Bt,Bt];lia) (by rw[Cg YF];exact(Array.getElem?_toList ..).symm.trans hx) (P.here (S.toks _) (.str _ _) h)⟩
 ·rw[V.is e] at hu
  refine ag h λe' h=>ay h λx hx h=>?_
  rw[V.is e'] at hi
  refine eC (oX S hu hi) λd rr eu D hA=>?_
  rw[hx] at hA
  exact lS (r:=r) eu hr D hA λm v rv=>P.here (S.toks m) rv h
 ·rw[V.is e] at hu
  have ho:=eQ ho
  refine bq h (λl hl h=>?_) λ_ h=>bq h (λg hg h=>ay h λe he h=>?_) λ_ h=>bH h (λe h=>ay h λl hl h=>ay h λx hx h=>?_) λ_ h=>ay h λkey hk h=>wj F S ho hu hk hi h λd rr ro Y' eu D hA S' h=>ay h λx hx h=>?_
  ·rw[bU hl] at ho
   refine li (S.list ho hu) λd vs m dd eu _ hg hl=>?_
   rw[eu]
   refine bH h (λe h=>ay h λx hx h=>?_) λ_ h=>oM h hi λm t ei hm h=>ay h λx hx h=>by rw[ei];exact oQ hg hl (by lia) hx λu ru=>P.here S ru h
   rw[V.is e] at hi
   refine bV hi.inv λt ei=>?_
   refine aH (fp hx) λz hz ez=>?_
   refine cD hz λmm ht=>?_
   refine bS (al.mp ht) λt1 t2=>?_
   have hb:=F.pkz z mm
   refine eC (F.pk z mm) λj w k1 k2 k3=>?_
   rw[<-SE.eq_of_beq _ t1] at k1 hb
   rw[<-i9 _ t2,<-bK] at k2
   rw[ez] at k3
   rw[ei,k1]
   exact oQ hg hl (by lia) k2 λu ru=>P.here S (k3 rfl ru) h
  ·refine li (S.seq ho hu (.inl ⟨g,eA hg,rfl⟩)) λd vs m dd eu _ hgt hl=>?_
   refine bV (dN hi he) λt ei=>?_
   have hb:=F.big g.1
   rw[eu,ei]
   refine bq h (λx hx h=>?_) λ_ h=>ag h λhz h=>ay h λle hle h=>ay h λx hx h=>?_
   ·obtain⟨h0,w,h1,h2⟩:=Dy F hx
    have YF:=(oD h1).1
    rw[<-pF h0]
    exact oQ hgt hl (by lia) (by rw[bK,qI YF];exact h1) λu ru=>P.here S (h2 rfl ru) h
   ·refine aH (Ae F _ (yx F hle).symm hx) λj h1 h2=>?_
    have hz:=fu hz
    rw[bK] at h2
    have YF:=(oD h2).1
    rw[h1]
    exact oQ hgt hl (by lia) (by rw[bK,List.getElem?_append_right (j2 _ _),Nat.add_sub_cancel_left];exact h2) λu ru=>P.here S ru h
  ·rw[V.is e] at hi
   have hi:RV c p (c.σ.ω i.xn) iu:=hi.inv
   refine aH (fp hx) λz hz ez=>?_
   refine cD hz λmm ht=>?_
   refine bS (al.mp ht) λt1 t2=>?_
   refine eC (F.sf z mm) λxx w k1 k2 k3=>?_
   have e2:l=z.2.1:=by have:=V.eq_of_beq _ t2;injection this
   rw[<-cf t1] at k1
   rw[<-e2] at k2
   rw[k1] at hi
   rw[ez] at k3
   refine bV hi.inv λt ei=>?_
   refine iR hu.inv λad dd eu g_=>?_
   rw[dp hl] at ho
   refine aH (S.look ho) λy R g=>?_
   refine DX.take R g_ g λob xs _ lo hg hob _ hA=>?_
   have hb:=hA xx
   rw[k2] at hb
   rw[ei]
   exact lS (r:=r) eu hr (eS hg hob lo (strKind_is PW c.w xx t)) hb λm v rv=>P.here (S.toks m) (k3 rfl rv) h
  ·rw[hx] at hA
   exact lS (r:=r) eu hr D hA λm v rv=>P.here (S'.toks m) rv h
def res(ft:FT)(v:V):V:=Bool.rec v (Option.rec v (λz=>z.2) (mq (λz=>Nat.beq v.xn z.1) ft.om)) (Nat.beq v.tag 6)
def Cu{ft:FT}(F:aI c.σ ft){v u}(h:RV c p v u):RV c p (res ft v) u:=by
 unfold res
 rcases e:Nat.beq v.tag 6 with _|_
 ·exact h
 ·induction e1:mq (λz=>Nat.beq v.xn z.1) ft.om using oC with
  | none=>exact h
  | some z=>
   refine cD e1 λm t=>?_
   have h':RV c p (c.σ.ω v.xn) u:=h.at e
   rw[cf t,F.om z m] at h';exact h'
def x9(e:Expr):Bool:=(Nat.beq e.ctorIdx 26).not
def vR{sl:Expr}{o i:Value}(h:x9 sl=true):subscripted sl false o i=operate [o,i] (getItem o i):=by
 induction sl using Expr.casesOn with
 | Slice=>exact bT h
 | _=>rfl
def SS(ft:FT)(i:Expr)(f g:CE):CE:=λloc Y k=>bb (x9 i) (f loc Y λv Y=>g loc Y λj Y=>Sb ft v (res ft j) k Y)
def Je{ft:FT}(F:aI c.σ ft){o i:Expr}{pos:Pos}{f g:CE}(hf:b6 kx c names n o f)(hg:b6 kx c names n i g):b6 kx c names n (.Subscript o i pos) (SS ft i f g):=λr loc Y k h p s G S P=>ag h λhp h=>
 Subscript_ (hf r loc Y _ h p s _ S λbP u v bn aJ bA aC hv h=>hg r loc bn _ h bP aJ _ aC λgu iu j cW b8 bL aO hj h=>by
  refine eC (IH F h gu b8 G u iu aO (P.le (bA.trans bL)) (hv.mono bL) (Cu F hj)) λT id h1 h2 h3=>?_
  exact tail_any h1 h2 h3 (vR hp))
def I8(l:List V)(lo hi:Option Int):List V:=
 (sliceRange (sliceBounds lo hi .none l.length).1 (sliceBounds lo hi .none l.length).2.1 (sliceBounds lo hi .none l.length).2.2).filterMap (bh l)
def Cn{l:List V}{us:List Value}(h:bG c p l us)(is:List Nat):bG c p (is.filterMap (bh l)) (is.filterMap (us.toArray[·]?)):=by
 induction is with
 | nil=>exact .nil
 | cons i is ih=>
  rw[Bm,Bm,vB]
  rcases e:bh l i with _|x
  ·rw[bK,zt,h.length,<-zt] at e
   rw[e];exact ih
  ·refine aH (h.get l e) λu hu hr=>?_
   rw[hu]
   exact .cons hr ih
def OF{l:List V}{us:List Value}(h:bG c p l us)(lo hi:Option Int):bG c p (I8 l lo hi) (slicePick us.toArray lo hi .none).toList:=by
 unfold I8 slicePick
 rw[h.length,iJ]
 exact Cn h _
def Dw(e:Expr):Option Int:=match e with
 | .Constant (.int i) _ _=>some i
 | _=>.none
def Q1(e:Expr):Option Int:=match e with
 | .UnaryOp .USub e _=>Dw e
 | _=>.none
def rq{e i}(h:Dw e=some i):∃j q,e=.Constant (.int i) j q:=by
 induction e using Expr.casesOn with
 | Constant x j q=>induction x using Const.casesOn with
  | int=>obtain rfl:=Eq.symm (oI h);exact⟨_,_,rfl⟩
  | _=>exact aj h
 | _=>exact aj h
def HM{e i}(h:Q1 e=some i):∃e' q,e=.UnaryOp .USub e' q/\Dw e'=some i:=by
 induction e using Expr.casesOn with
 | UnaryOp op x q=>induction op using UnaryOp.casesOn with
  | USub=>exact⟨_,_,rfl,h⟩
  | _=>exact aj h
 | _=>exact aj h
def CQ(x:Option Expr):Option (Option Int):=Option.rec (some .none) (λe=>Option.rec ((Q1 e).map λi=>some (-i)) (λi=>some (some i)) (Dw e)) x
def kr{A:Around}{E:Value->Shared->Prop}{x:Option Expr}{z:Option Int}{env:Env}{Q:Value->Shared->Prop}{s:Shared}(h:CQ x=some z)(k:∀v n,IsPart v z->Q v {s with toks:=n}):wpAny (Mo c) A (evalPart x env) Q E s:=by
 rcases x with _|e
 ·obtain rfl:=oI h;exact dF (k _ _ .none)
 ·refine tL h (λi hi h=>?_) λ_ h=>?_
  ·refine xE (rq hi) λj q e'=>?_
   rw[e',evalPart_some,Mo,eval_Constant]
   obtain rfl:=oI h
   exact λ_ _ _=>k _ _ (.int _ _)
  ·refine aH (fp h) λi hi h=>?_
   refine iR (HM hi) λe1 q e' hl=>?_
   refine xE (rq hl) λj q' e2=>?_
   subst h
   rw[e',e2,evalPart_some]
   exact UnaryOp_ (wpAny_Constant_int (neg_int (k _ _ (.int _ _))))
def kP{α:Type}(o:Option α):Bool:=Option.rec true (λ_=>false) o
def gb{α:Type}{o:Option α}(h:kP o=true):o=.none:=by
 rcases o with _|_
 ·rfl
 ·exact bT h
def gH(H:Hp)(v:V):Option (List V):=Bool.rec (Bool.rec .none ((bh H v.xn).bind dw) (Nat.beq v.tag 11)) (some v.xl) (Nat.beq v.tag 15)
def aN.listAt{a:Act c}{loc Y s v u l}(S:aN a p loc Y s)(hv:RV c p v u)(h:gH Y.H v=some l):∃d vs m,u=.ref d/\s.heap.get? d=some (cJ vs m)/\bG c p l vs:=by
 refine bp h (λe h=>?_) λ_ h=>bp h (λe h=>?_) λ_ h=>aj h
 ·rw[V.is e] at hv
  refine mE hv.inv λa items m eu h1 h2=>?_
  obtain rfl:=oI h
  exact⟨a,items,m,eu,S.get h1,h2⟩
 ·rw[V.is e] at hv
  refine aH (cU h) λo ho h=>?_
  rw[bU h] at ho
  refine li (S.list (eQ ho) hv) λd vs m dd eu _ hg hl=>?_
  exact⟨d,vs,m,eu,hg,hl⟩
def S5(lo hi st:Option Expr)(f:CE):CE:=λloc Y k=>bb (kP st) (ob (CQ lo) λpl=>ob (CQ hi) λph=>f loc Y λv Y=>
 bi (Nat.beq v.tag 9) (ob pl λi=>bb (kP hi) (bb (Nat.ble v.xs.length 4000) (k (.str (Txt.slice v.xs (some i) .none)) Y)))
 (ob (gH Y.H v) λl=>bb (Nat.ble l.length 4000) (k (.ref Y.H.length) ⟨Y.pc,Y.H++[.lst (I8 l pl ph)]⟩)))
def aN.lay{a:Act c}{loc Y s b o}{x:Obj}{W:Prop}{Q:Heap->Prop}(S:aN a p loc Y s)(hb:s.heap.objs.size<=b)
  (step:∀g m l,c.K.In g->Fr g a.env.locals s.heap m->News g a.env.locals s.heap l->(∀h',Fr g a.env.locals h' m->News g a.env.locals h' ((b,x)::l)->Q h')->W)
  (R:∀q,Le p q->q.ρ[Y.H.length]? =some (b,b)->RO c q Y.H.length [(b,x)] o)
  (K:∀h' q,Le p q->RV c q (.ref Y.H.length) (.ref b)->(∀k,aN a q loc ⟨Y.pc,Y.H++[o]⟩ {s with heap:=h',toks:=k})->Q h'):W:=by
 refine S.el λm g own tn F N hn hH hr le cv pc ge os rl=>?_
 refine step g m _ (a.KX.keeps (a.Zz tn)) F N λh' F' N'=>?_
 have l:Le p ⟨p.ρ++[(b,b)],p.I,p.τ⟩:=⟨⟨_,rfl⟩,λ_ h=>h,rfl⟩
 have pm:((own++[(b,x)])++(a.X++p.I)).Perm ((b,x)::(own++(a.X++p.I))):=by rw[gK];exact nG
 have hk:(p.ρ++[(b,b)])[Y.H.length]? =some (b,b):=by rw[<-hr];exact vC
 have nd:(((b,x)::(own++(a.X++p.I))).map (·.1)).Nodup:=by
  rw[jr,fH]
  exact⟨λhm=>(fw.mp hm).elim λz h=>absurd (my (N z h.1).1) (by rw[h.2];exact Nat.not_lt.mpr hb),hn⟩
 exact K h' _ l (.ref hk) λk=>⟨m,⟨⟨g,_,tn,F',News.perm N' pm,aY nd pm,(hH.mono l).snoc (by rw[eM];exact R _ l hk),by rw[nE,nE,hr];rfl⟩,le.trans l,eh l cv,pc,ge,os⟩,rl.mono l⟩
def Jq{o:Expr}{lo hi st:Option Expr}{z pos:Pos}{f:CE}(hf:b6 kx c names n o f):b6 kx c names n (.Subscript o (.Slice lo hi st z) pos) (S5 lo hi st f):=λr loc Y k h p s G S P=>ag h λhs h=>ay h λpl hl h=>ay h λph hh h=>by
 rw[gb hs]
 refine Subscript_ (hf r loc Y _ h p s _ S λbP u v bn aJ bA aC hv h=>bH h (λe h=>ay h λi YL h=>ag h λhn h=>ag h λhz h=>?_) λ_ h=>ay h λl Ze h=>ag h λhz h=>?_)
 ·rw[V.is e] at hv
  refine bV hv.inv λt eu=>?_
  rw[eu,gb hn]
  refine wpAny_Slice (kr hl λlv m hp=>?_)
  rw[YL] at hp
  cases hp
  rw[evalPart_none]
  refine dF (dF ?_)
  have aO:=aC.toks m
  refine aO.el λm' g own tn F N Zs hH hr le cv pc ge os rl=>?_
  refine slice_strN_sn F N (λh' t' k F' N'=>?_) (ht:=λr=>by induction o using Expr.casesOn <;> rfl) (hsz:=by have:=fu hz;rw[qH];lia)
  exact P _ _ _ _ _ bA ⟨m',⟨⟨g,own,tn,F',N',Zs,hH,hr⟩,le,cv,pc,ge,os⟩,rl⟩ (.str _ _) h
 ·refine wpAny_Slice (kr hl λlv m hp=>kr hh λuv m' ZV=>?_)
  rw[evalPart_none]
  refine dF ?_
  have aO:=aC.toks m'
  refine mE (aO.listAt hv Ze) λad vs nn eu hg hR=>?_
  rw[eu]
  refine aO.lay (b:=aJ.heap.objs.size+1) (x:=cJ (slicePick vs.toArray pl ph none).toList 0) (o:=.lst (I8 l pl ph)) (lm _) (λg m l _ F N K=>kba_turn (value':=.Name "x" z) (λ_=>rfl) (slice_list F N (l:=ad) (items:=vs.toArray) ⟨_,hg,rfl,nn,rfl⟩ hp ZV K (hsz:=by have:=fu hz;rw[iJ,<-hR.length,qH];lia)))
   (λq l e=>⟨_,_,e,_,0,(OF hR pl ph).mono l,rfl⟩) λh' q l i S=>P q _ _ _ _ (bA.trans l) (S m') i h
def KF(op:Operator):Bool:=match op with
 | .Pow=>true
 | _=>false
def KG(op:Operator):Bool:=match op with
 | .Mult=>true
 | _=>false
def DZ(op:Operator):Bool:=match op with
 | .Add=>true
 | _=>false
def UG(op:Operator):Nat:=match op with
 | .Mod=>0
 | .Mult=>1
 | .Add=>2
 | .Sub=>3
 | .FloorDiv=>4
 | _=>5
def qP(i:Int):Bool:=bb (KJ 1 i) (KJ i 10000000000)
def Wv(o:Nat)(a b:SE):Option SE:=
 Bool.rec (Bool.rec (Bool.rec (Bool.rec (Bool.rec .none
  (Bool.rec .none (Bool.rec (some (.fdiv a b)) (some (.lit (a.i.fdiv b.i))) (Nat.beq a.tag 0)) (bb (Nat.beq b.tag 0) (qP b.i))) (Nat.beq o 4))
  (Bool.rec (some (.sub a b)) (some (lY a (.lit (-b.i)))) (Nat.beq b.tag 0)) (Nat.beq o 3))
  (some (lY a b)) (Nat.beq o 2))
  (Bool.rec .none (some (.lit (a.i * b.i))) (bb (bb (Nat.beq a.tag 0) (Nat.beq b.tag 0)) (bb (Nat.ble a.i.natAbs 1000000) (Nat.ble b.i.natAbs 1000000)))) (Nat.beq o 1))
  (Bool.rec .none (Bool.rec (some (.mod a b)) (some (.lit (a.i.fmod b.i))) (Nat.beq a.tag 0)) (bb (Nat.beq b.tag 0) (qP b.i))) (Nat.beq o 0)
def sw{b:Int}(h:b.natAbs < 2 ^ 60)(x:Int):Builtin.divisionGoesByPylong x b=false:=by
 unfold Builtin.divisionGoesByPylong
 have:(if(b == 0)=true then 0 else b.natAbs.log2 / 30+1)<=3:=by
  by_cases hb:b=0
  ·rw[hb];decide
  ·rw[if_neg (by rw[cS];exact hb)]
   have:=(Nat.log2_lt (Int.natAbs_ne_zero.mpr hb)).mpr h
   lia
 rw[Bool.and_eq_false_iff,Bt]
 exact .inl (by dsimp only;lia)
def zG{i:Int}(h:qP i=true):1<=i/\i<=10000000000:=(al.mp h).imp jn.mp jn.mp
def ME{A:Around}{E:Value->Shared->Prop}{s:Shared}{ν:Nat->Int}{op:Operator}{a b e:SE}{t t'}{G:Value->Shared->Prop}(h:Wv (UG op) a b=some e)(P:∀t k,G (.int (e.ev ν) t) {s with toks:=k}):wpAny (Mo c) A (binaryOp op (.int (a.ev ν) t) (.int (b.ev ν) t')) G E s:=by
 have dv:∀{b:SE},bb (Nat.beq b.tag 0) (qP b.i)=true->b.ev ν≠0/\(b.ev ν).natAbs < 2 ^ 60:=λ{b} h=>by
  refine bS (al.mp h) λh1 h2=>?_
  refine bS (zG h2) λk1 k2=>?_
  rw[ce h1]
  exact⟨λe=>by have e:b.i=(0:Int):=e;omega,by show(b.i).natAbs < _;omega⟩
 induction op using Operator.casesOn with
 | Mod=>
  refine bp h (λh1 h=>?_) λ_ h=>aj h
  have k:e.ev ν=(a.ev ν).fmod (b.ev ν):=by
   rw[ce (al.mp h1).1]
   exact bp h (λh2 h=>by obtain rfl:=oI h;rw[ce h2];rfl) λ_ h=>by obtain rfl:=oI h;rw[<-ce (al.mp h1).1];rfl
  rw[k] at P
  exact mod_int' (dv h1).1 (P _ _)
 | Mult=>
  refine bp h (λh1 h=>?_) λ_ h=>aj h
  obtain rfl:=oI h
  refine bS (al.mp h1) λk1 k2=>?_
  refine bS (al.mp k1) λk1 k3=>?_
  refine bS (al.mp k2) λk2 k4=>?_
  have k2:=fu k2
  have k4:=fu k4
  rw[ce k1,ce k3]
  exact mul_int (P _ _) (IntMulOk.of_left (intBits_le_64 (by show -2 ^ 64 < a.i;omega) (by show a.i < 2 ^ 64;omega)))
 | Add=>
  obtain rfl:=oI h
  rw[gB] at P
  exact add_int (P _ _)
 | Sub=>
  have k:e.ev ν=a.ev ν - b.ev ν:=bp h (λh1 h=>by obtain rfl:=oI h;rw[gB,ce h1];exact(Int.sub_eq_add_neg ..).symm) λ_ h=>by obtain rfl:=oI h;rfl
  rw[k] at P
  exact sub_int (P _ _)
 | FloorDiv=>
  refine bp h (λh1 h=>?_) λ_ h=>aj h
  have k:e.ev ν=(a.ev ν).fdiv (b.ev ν):=by
   rw[ce (al.mp h1).1]
   exact bp h (λh2 h=>by obtain rfl:=oI h;rw[ce h2];rfl) λ_ h=>by obtain rfl:=oI h;rw[<-ce (al.mp h1).1];rfl
  rw[k] at P
  exact floordiv_int (dv h1).1 (P _ _) (.inl (sw (dv h1).2 _))
 | _=>exact aj h
def eO{l':List V}{Za:List Value}(r:bG c p l' Za)(l:List V):∀{us},bG c p l us->bG c p (l++l') (us++Za):=by
 induction l with
 | nil=>intro us h;rw[show us=[] from h.inv];exact r
 | cons v l ih=>intro us h;refine eC h.inv λu r' e h1 h2=>?_;rw[e];exact .cons h1 (ih h2)
def Mp(n:Nat)(l:List V):List V:=Nat.rec [] (λ_ g=>l++g) n
def Ha{l:List V}{us:List Value}(h:bG c p l us)(n:Nat):bG c p (Mp n l) (List.replicate n us).flatten:=by
 induction n with
 | zero=>exact .nil
 | succ n ih=>rw[List.replicate_succ,List.flatten_cons];exact eO ih l h
def TW(ft:FT)(v:V):V:=Bool.rec v (Option.rec v (λz=>HH z.2) (mq (λz=>SE.beq v.xe z.1) ft.ef)) (Nat.beq v.tag 3)
def Ev{ft:FT}(F:aI c.σ ft){v u}(h:RV c p v u):RV c p (TW ft v) u:=by
 unfold TW
 rcases e:Nat.beq v.tag 3 with _|_
 ·exact h
 ·induction e1:mq (λz=>SE.beq v.xe z.1) ft.ef using oC with
  | none=>exact h
  | some z=>
   refine cD e1 λm t=>?_
   refine bV (h.at e) λt' eu=>?_
   rw[eu,SE.eq_of_beq _ t,F.ef z m]
   exact ly _ _
def VY(ft:FT)(o:Nat)(a b:SE):Option SE:=(mq (λz=>bb (Nat.beq o z.1) (bb (SE.beq a z.2.1) (SE.beq b z.2.2.1))) ft.fm).map (·.2.2.2)
def VP(ft:FT)(b:Bool)(s:Str)(m:Nat):Option Nat:=(mq (λz=>bb (pQ b z.1) (bb (kX s z.2.1) (Nat.beq m z.2.2.1))) ft.ca).map (·.2.2.2)
def VO(b:Bool)(s t:Str):Str:=Bool.rec (t++s) (s++t) b
def EN{ft:FT}(F:aI σ ft){b s m r}(h:VP ft b s m=some r):∃t:Str,σ.ω m=.str t/\s.length+t.length<=4000/\σ.ω r=.str (VO b s t):=
 (fp h).elim λz h=>cD h.1 λmm t=>by
  refine bS (al.mp t) λt1 t2=>?_
  refine bS (al.mp t2) λt2 t3=>?_
  rw[sD t1,dn.mp t2,cf t3,<-h.2]
  exact(F.ca z mm).elim λt h=>⟨t,h.1,h.2.1,h.2.2.trans (by induction z.1 using bC <;> rfl)⟩
def VN(ft:FT)(op:Operator)(x y:V):Option Nat:=Bool.rec .none (Bool.rec (Bool.rec .none (VP ft false y.xs x.xn) (bb (Nat.beq x.tag 6) (Nat.beq y.tag 9))) (VP ft true x.xs y.xn) (bb (Nat.beq x.tag 9) (Nat.beq y.tag 6))) (DZ op)
def Te(ft:FT)(op:Operator)(x y:V)(a b:SE)(k:KV)(Y:Sy):Bool:=oi (VY ft (UG op) a b) (λe=>k (HH e) Y)
  (bi (KF op) (bb (bb (Nat.beq x.tag 2) (pN x.xi 2)) (KL y λm=>bb (Nat.ble m 100) (k (.int (2 ^ m)) Y))) (ob (Wv (UG op) a b) λe=>k (TW ft (HH e)) Y))
def Td(ft:FT)(op:Operator)(x y:V)(k:KV)(Y:Sy):Bool:=
 oi (VN ft op x y) (λm=>k (.b_ m) Y)
 (oi (nz x) (λa=>ob (nz y) λb=>Te ft op x y a b k Y)
 (bi (Nat.beq x.tag 9) (bb (bb (Nat.beq y.tag 9) (DZ op)) (bb (Nat.ble (x.xs.length+y.xs.length) 4000) (k (.str (x.xs++y.xs)) Y)))
 (bb (KG op) (ob (gH Y.H x) λl=>KL y λm=>bb (Nat.ble (l.length * m) 4000) (bb (Nat.ble m 4000) (k (.ref Y.H.length) ⟨Y.pc,Y.H++[.lst (Mp m l)]⟩))))))
def qN{A:Around}{E:Value->Shared->Prop}{s:Shared}{x y:Str}{t t'}{G:Value->Shared->Prop}(hz:x.length+y.length<=4000)(P:∀t k,G (.str (x++y) t) {s with toks:=k}):wpAny (Mo c) A (binaryOp .Add (.str x t) (.str y t')) G E s:=
 PyProof.Rows.add_str (λt' tk=>P _ _) (hsz:=by rw[qH];lia)
def uy{op}(h:DZ op=true):op=.Add:=by induction op using Operator.casesOn with
 | Add=>rfl
 | _=>exact ff h
def DT{op}(h:KG op=true):op=.Mult:=by induction op using Operator.casesOn with
 | Mult=>rfl
 | _=>exact ff h
def DR{op}(h:KF op=true):op=.Pow:=by induction op using Operator.casesOn with
 | Pow=>rfl
 | _=>exact ff h
def JB{ft:FT}(F:aI c.σ ft){r:Rn kx c names n}{op x y a b loc Y k}(ha:nz x=some a)(hb:nz y=some b)(h:Te ft op x y a b k Y=true):F9 r (binaryOp op) x y loc Y k:=λp s G u v S P hu hv=>by
 refine bV (dN hu ha) λt eu=>?_
 refine bV (dN hv hb) λt' ev=>?_
 refine bq h (λe he h=>?_) λ_ h=>bH h (λhp h=>ag h λe h=>oM h hv λm t2 ev' _ h=>ag h λhm h=>?_) λ_ h=>ay h λe he h=>?_
 ·rw[eu,ev]
  refine aH (fp he) λz hz ez=>?_
  refine cD hz λmm ht=>?_
  refine bS (al.mp ht) λt1 t2=>?_
  refine bS (al.mp t2) λt2 t3=>?_
  have hf:=F.fm z mm
  rw[<-SE.eq_of_beq _ t2,<-SE.eq_of_beq _ t3,<-cf t1,ez] at hf
  have fin:∀t k,G (.int (e.ev c.σ.ν) t) {s with toks:=k}:=λt k=>P.here (S.toks k) (ly e t) h
  refine hf.elim (λhf=>?_) λhf=>?_
  ·rw[show op=.Mod by induction op using Operator.casesOn <;> first|rfl|(exact absurd hf.1 (by decide))]
   rw[hf.2.2] at fin
   exact mod_int' (by have:=hf.2.1;omega) (fin _ _)
  ·rw[show op=.Mult by induction op using Operator.casesOn <;> first|rfl|(exact absurd hf.1 (by decide))]
   rw[hf.2.2.2] at fin
   exact mul_int (fin _ _) (IntMulOk.of_left (intBits_le_64 (by have:=hf.2.1;omega) (by have:=hf.2.1;omega)))
 ·refine bS (al.mp e) λe1 e2=>?_
  rw[V.is e1] at hu
  refine bV hu.inv λt1 eu=>?_
  rw[DR hp,eu,ev',cw.mp e2]
  have hm:=fu hm
  have e:Builtin.Int.intBits 2=2:=by decide +kernel
  exact PyProof.Rows.pow_int (by omega) (by rw[e];omega) (P.toks S (.int _ _) h _)
 ·rw[eu,ev]
  have fin:∀t k,G (.int (e.ev c.σ.ν) t) {s with toks:=k}:=λt k=>P.here (S.toks k) (Ev F (ly e t)) h
  exact ME (e:=e) he fin
def JA{ft:FT}(F:aI c.σ ft){r:Rn kx c names n}{op x y loc Y k}(h:Td ft op x y k Y=true):F9 r (binaryOp op) x y loc Y k:=λp s G u v S P hu hv=>by
 refine bq h (λm hm h=>bp hm (λha hm=>?_) λ_ h=>aj h) λ_ h=>bq h (λa ha h=>ay h λb hb h=>?_) λ_ h=>bH h (λe h=>ag h λe' h=>ag h λhz h=>?_) λ_ h=>ag h λhm h=>ay h λl hl h=>oM h hv λm t ev hm' h=>ag h λhz h=>ag h λhz' h=>?_
 ·rw[uy ha]
  refine bp hm (λe hm=>?_) λ_ hm=>bp hm (λe hm=>?_) λ_ h=>aj h
  ·refine bS (al.mp e) λe1 e2=>?_
   rw[V.is e1] at hu
   rw[V.is e2] at hv
   refine lj (EN F hm) λt h1 h2 h3=>?_
   have hv:RV c p (c.σ.ω y.xn) v:=hv.inv
   rw[h1] at hv
   refine bV hu.inv λt1 eu=>?_
   refine bV hv.inv λt2 ev=>?_
   rw[eu,ev]
   exact qN h2 λt k=>P.here (S.toks k) (.b_ (by rw[h3];exact .str _ _)) h
  ·refine bS (al.mp e) λe1 e2=>?_
   rw[V.is e1] at hu
   rw[V.is e2] at hv
   refine lj (EN F hm) λt h1 h2 h3=>?_
   have hu:RV c p (c.σ.ω x.xn) u:=hu.inv
   rw[h1] at hu
   refine bV hu.inv λt1 eu=>?_
   refine bV hv.inv λt2 ev=>?_
   rw[eu,ev]
   exact qN (by lia) λt k=>P.here (S.toks k) (.b_ (by rw[h3];exact .str _ _)) h
 ·exact JB F ha hb h p s G u v S P hu hv
 ·refine bS (al.mp e') λe1 e2=>?_
  rw[V.is e] at hu
  rw[V.is e1] at hv
  refine bV hu.inv λt1 eu=>?_
  refine bV hv.inv λt2 ev=>?_
  rw[eu,ev,uy e2]
  exact qN (fu hz) λt k=>P.here (S.toks k) (.str _ _) h
 ·refine mE (S.listAt hu hl) λd vs nn eu hg hR=>?_
  have hz:=fu hz
  have hz':=fu hz'
  rw[eu,ev,DT hm]
  refine S.lay (b:=s.heap.objs.size) (x:=cJ (List.replicate m vs).flatten 0) (o:=.lst (Mp m l)) (fG _) (λg mm l' _ F N K=>PyProof.Rows.mul_list F N hg (by lia) (by lia) (by rw[iJ,<-hR.length,Int.toNat_natCast];lia) λh' F' N'=>K h' F' (by
   rw[PyProof.Rows.listMul_foldl_if] at N';exact N')) (λq l e=>⟨_,_,e,_,0,(Ha hR m).mono l,rfl⟩) λh' q l i S=>P q _ _ _ _ l (S _) i h
def S9(ft:FT)(op:Operator)(f g:CE):CE:=λloc Y k=>f loc Y λx Y=>g loc Y λy Y=>Td ft op x y k Y
def Ju{ft:FT}(F:aI c.σ ft){l e:Expr}{op:Operator}{pos:Pos}{f g:CE}(hf:b6 kx c names n l f)(hg:b6 kx c names n e g):b6 kx c names n (.BinOp l op e pos) (S9 ft op f g):=λr loc Y k h p s G S P=>
 wpAny_BinOp (hf r loc Y _ h p s _ S λbP u x bn aJ bA aC hx h=>hg r loc bn _ h bP aJ _ aC λgu v y cW b8 bL aO hy h=>JA F h gu b8 G u v aO (P.le (bA.trans bL)) (hx.mono bL) hy)
def S7(ft:FT)(op op':CmpOp)(e e':Expr)(f g g':CE):CB:=λloc Y k=>bb (lastMarks [op,op'] [e,e']).not (f loc Y λx Y=>g loc Y λy Y=>EC ft op x y (λv Y=>Kh ft v (λb Y=>bi b (g' loc Y λz Y=>EC ft op' y z (λv Y=>Kh ft v k Y) Y) (k false Y)) Y) Y)
def Js{ft:FT}(F:aI c.σ ft){l e e':Expr}{op op':CmpOp}{pos:Pos}{f g g':CE}(hf:b6 kx c names n l f)(hg:b6 kx c names n e g)(Zf:b6 kx c names n e' g'):jW kx c names n (.Compare l [op,op'] [e,e'] pos) (S7 ft op op' e e' f g g'):=λr loc Y k h p s G S P=>ag h λhm h=>
 PyProof.Rows.isTrue_chain (hf r loc Y _ h p s _ S λbP u x bn aJ bA aC hx h=>PyProof.Rows.test_link (hg r loc bn _ h bP aJ _ aC λgu v y cW b8 bL aO hy h=>
  nr F h gu b8 _ u v aO (λCI w z xk B1 iq cK hw h=>lw F cK (λUC b V6 nP MZ gI h=>by
   have l:=((bA.trans bL).trans iq).trans MZ
   rcases b with _|_
   ·exact P _ _ _ _ l gI h
   ·exact PyProof.Rows.test_last (Zf r loc V6 _ h UC nP _ gI λUB v' z Pf nO wf ia hz h=>nr F h UB nO _ v v' ia (λXZ w z V5 Qi Dn xo hw h=>lw F xo (P.le ((l.trans wf).trans Dn)) hw h) (hy.mono ((iq.trans MZ).trans wf)) hz)) hw h) (hx.mono bL) hy)) (OZ hm)
def LR{d:Addr}{o o':Obj}{post:fh}(pre:fh):((pre++(d,o)::post).map (·.1)).Nodup->Upd d o o' (pre++(d,o)::post) (pre++(d,o')::post):=by
 induction pre with
 | nil=>exact λh=>.head λz hz=>lB (pre:=[]) h (.inr hz)
 | cons z pre ih=>exact λh=>.tail (lB h (.inl (.head _))) (ih (fH.mp h).2)
def aN.up{a:Act c}{loc Y s j o o'}{W:Prop}{Q:Heap->Prop}(S:aN a p loc Y s)(hj:Y.H[j]? =some o)
  (step:∀x,RO c p j x o->(∀z∈x,s.heap.get? z.1=some z.2)->∃xa d ob YM xb,x=xa++(d,ob)::xb/\RO c p j (xa++(d,YM)::xb) o'/\∀g m l l',c.K.In g->Fr g a.env.locals s.heap m->News g a.env.locals s.heap l->Upd d ob YM l l'->(∀h',Fr g a.env.locals h' m->News g a.env.locals h' l'->Q h')->W)
  (K:∀h',(∀k,aN a p loc ⟨Y.pc,bW j o' Y.H⟩ {s with heap:=h',toks:=k})->Q h'):W:=by
 refine S.el λm g own tn F N hn hH hr le cv pc ge os rl=>?_
 refine hH.split hj λpre x post e P=>?_
 have P0:=eM j▸P.1
 obtain⟨xa,d,ob,YM,xb,ex,R,st⟩:=step x P0 λz hz=>(N z (by rw[e];exact j5 _ (j0 _ (j5 _ hz)))).1
 have e1:∀o,(pre++((xa++(d,o)::xb)++post))++(a.X++p.I)=(pre++xa)++(d,o)::(xb++(post++(a.X++p.I))):=λo=>by simp only [gK,List.cons_append]
 rw[e,ex,e1] at N hn
 refine st g m _ _ (a.KX.keeps (a.Zz tn)) F N (LR _ hn) λh' F' N'=>K h' λk=>⟨m,⟨⟨g,pre++((xa++(d,YM)::xb)++post),tn,F',?_,?_,?_,by show _=(bW j o' Y.H).length;rw[dj,List.length_set];exact hr⟩,le,cv,pc,ge,os⟩,rl⟩
 ·rw[e1];exact N'
 ·rw[e1]
  rw[sX,jr] at hn ⊢;exact hn
 ·show RH c p 0 (bW j o' Y.H) _
  rw[dj]
  exact P.2 p (Le.refl _) o' _ ((eM j).symm▸R)
def RA.some{l es}(h:RA c p l es)(x:Str):(getL x es).isSome=true:=by
 rcases e:lk (code x) l with _|v
 ·rw[(h.look l).2 e];rfl
 ·refine aH ((h.look l).1 v e) λu e _=>?_;rw[e];rfl
def RA.put{x:Str}{v:V}{u:Value}{t:Tok}(hv:RV c p v u)(l:List (Nat×V)):∀{es},RA c p l es->RA c p (pt (code x) v l) (putL x (PyData.keyHash c.w.params x) (.str x t) u es):=by
 induction l with
 | nil=>intro es h;rw[show es=[] from h.inv];exact .cons hv .nil
 | cons y l ih=>
  intro es h
  refine li h.inv λz t' u' r ez e h1 h2=>?_
  obtain⟨y1,y2⟩:=y
  have ez:y1=code z:=ez
  subst ez
  rw[e]
  show RA c p (Bool.rec ((code z,y2)::pt (code x) v l) ((code z,v)::l) (Nat.beq (code z) (code x))) (ite _ _ _)
  rw[show(DictEntry.key ⟨PyData.keyHash c.w.params z,.str z t',u'⟩).isStr x=_ from uq x z t']
  rcases Nat.beq (code z) (code x) with _|_
  ·exact .cons h1 (ih h2)
  ·exact .cons hv h2
theorem RA.length(l:List (Nat×V)):∀{es},RA c p l es->l.length=es.length:=by
 induction l with
 | nil=>intro es h;rw[show es=[] from h.inv];rfl
 | cons y l ih=>intro es h;refine li h.inv λz t' u' r ez e h1 h2=>?_;rw[e,gq,gq,ih h2]
def pY{α:Type}(x:Nat)(v:α)(l:List (Nat×α)):(pt x v l).length<=l.length+1:=by
 rw[iD,mY]
 rcases(look x l).isSome with _|_
 ·exact fG _
 ·exact lm _
def Uv{a:Act c}{A E loc Y s j C l x u rv ru fi}{G:Unit->Shared->Prop}(S:aN a p loc Y s)(hv:RV c p (.ref j) rv)(hj:Y.H[j]? =some (.exc C l))(ok:A6 c.K C fi)(hx:findIn c.K (.ref C) x=some none)(hz:l.length<=900)(hu:RV c p u ru)
  (P:∀s',aN a p loc ⟨Y.pc,bW j (.exc C (pt (code x) u l)) Y.H⟩ s'->G () s'):wpAny (Mo c) A (setAttr rv x ru) G E s:=by
 have X:=S.X
 refine S.el λm g own tn F N hn hH hr le cv pc ge os rl=>?_
 refine iR hv.inv λad d0 eu g_=>?_
 rw[eu]
 refine hH.split hj λpre xl post e PP=>?_
 have e0:p.ρ[0+j]? =some (ad,d0):=(eM j).symm▸g_
 refine(eF.gt PP.1 e0).casesOn λes oe vs dl hR hc hd h0 ZW hx'=>?_
 have no:notCls oe=true:=by unfold notCls;rw[hd]
 have tk:takerIn c.K C x=some none:=by unfold takerIn;rw[hx];rfl
 have tr:∃tr:fh,xl=(ad,oe)::(tr++dl)/\∀YE ZY,(vs[1]? =some .none/\(ad,YE)::(tr++ZY)=(ad,YE)::ZY)\/∃T oT ts,vs[1]? =some (.ref T)/\oT.data=.fields ts/\(∃f,ts[3]? =some f)/\(ad,YE)::(tr++ZY)=(ad,YE)::(T,oT)::ZY:=
  hx'.elim (λh=>⟨[],h.2,λ_ _=>.inl ⟨h.1,rfl⟩⟩) λh=>h.elim λT h=>h.elim λoT h=>h.elim λts h=>⟨[(T,oT)],h.2.2.2,λ_ _=>.inr ⟨T,oT,ts,h.1,h.2.1,h.2.2.1,rfl⟩⟩
 refine aH tr λtr exl mk=>?_
 have fin:∀h' YE ZY Zk,Fr g a.env.locals h' m->News g a.env.locals h' ((pre++(((ad,YE)::(tr++ZY))++post))++(a.X++p.I))->(((pre++(((ad,YE)::(tr++ZY))++post))++(a.X++p.I)).map (·.1)).Nodup->YE.cls=.ref C->YE.data=.fields vs->RA c p (pt (code x) u l) Zk->(∃d n,YE.dict=some d/\ZY=[(d,dictOf Zk n)])->G () {s with heap:=h',toks:=s.toks+2}:=λh' YE ZY Zk F' N' nd hc' Q_ hR' ag2=>by
  refine P _ ⟨m,⟨⟨g,_,tn,F',N',nd,?_,by show _=(bW j _ Y.H).length;rw[dj,List.length_set];exact hr⟩,le,cv,pc,ge,os⟩,rl⟩
  show RH c p 0 (bW j _ Y.H) _
  rw[dj]
  exact PP.2 p (Le.refl _) _ _ ((eM j).symm▸⟨ad,d0,g_,Zk,YE,vs,ZY,hR',hc',Q_,h0,.inr ag2,mk YE ZY⟩)
 have hlen:(putL x (PyData.keyHash c.w.params x) (.str x (s.toks+1)) ru es).length<=1000:=by
  rw[<-(hR.put (x:=x) (t:=s.toks+1) hu l).length]
  exact dK (pY ..) (dK (j3 hz) (by decide))
 rw[e,exl] at N hn
 refine ZW.elim (λh=>?_) λh=>?_
 ·refine nJ h λh1 h2 h3=>?_
  rw[h2] at hR hlen
  rw[h3] at N hn
  have pm:((pre++(((ad,oe)::(tr++[]))++post))++(a.X++p.I)).Perm ((ad,oe)::(pre++(tr++(post++(a.X++p.I))))):=by
   simp only [gK,List.cons_append,gN]
   exact nG
  have nd:=(pm.map (·.1)).nodup_iff.mp hn
  have nf:∀d,({oe with dict:=some d}:Obj).isFreed=false:=λd=>Bq hd
  refine Ce (pre:=[]) (post:=pre++(tr++(post++(a.X++p.I)))) F (News.perm N pm.symm) X hc no h1 nf ok.sa ok.over tk ok.dict (λ_ h=>nomatch h) (λz hz q=>(fH.mp nd).1 (q▸vA (f:=(·.1)) hz)) (putName_dict _ _ _ _ [] 0) rfl hlen λh' d fr F' N'=>?_
  have pm2:((pre++(((ad,{oe with dict:=some d})::(tr++[(d,dictOf (putL x (PyData.keyHash c.w.params x) (.str x (s.toks+1)) ru []) (putN x [] 0))]))++post))++(a.X++p.I)).Perm ((d,dictOf (putL x (PyData.keyHash c.w.params x) (.str x (s.toks+1)) ru []) (putN x [] 0))::(ad,{oe with dict:=some d})::(pre++(tr++(post++(a.X++p.I))))):=by
   have q:∀z:Addr×Obj,((pre++(((ad,{oe with dict:=some d})::(tr++[z]))++post))++(a.X++p.I))=(pre++(ad,{oe with dict:=some d})::tr)++z::(post++(a.X++p.I)):=λz=>by simp[gK]
   rw[q]
   refine nG.trans (List.Perm.cons _ ?_)
   rw[gK,List.cons_append]
   exact nG
  refine fin h' _ _ _ F' (News.perm N' pm2) (((pm2.map (·.1)).nodup_iff).mpr ?_) hc hd (hR.put hu l) ⟨d,_,rfl,rfl⟩
  rw[jr,fH]
  refine⟨λhm=>?_,nd⟩
  refine aH (fw.mp hm) λz hz ez=>?_
  have ez:z.1=d:=ez
  refine(dL.mp hz).elim (λq=>?_) λhz=>?_
  ·have:=fr (ad,oe) (.head _)
   rw[<-ez,q] at this;exact zq _ this
  ·have:=fr z (.tail _ hz)
   rw[ez] at this;exact zq _ this
 ·refine iR h λd nn h1 h2=>?_
  rw[h2] at N hn
  have pm:∀z:Addr×Obj,((pre++(((ad,oe)::(tr++[z]))++post))++(a.X++p.I)).Perm (z::((pre++(ad,oe)::tr)++(post++(a.X++p.I)))):=λz=>by
   have q:((pre++(((ad,oe)::(tr++[z]))++post))++(a.X++p.I))=(pre++(ad,oe)::tr)++z::(post++(a.X++p.I)):=by simp[gK]
   rw[q]
   exact nG
  have nd:=((pm _).map (·.1)).nodup_iff.mp hn
  have N1:=News.perm N (pm _).symm
  have I:InstAt s.heap ad oe C (some (dictOf es nn)):=⟨(N1 _ (.tail _ (j5 _ (j0 _ (.head _))))).1,hc,no,by rw[h1];exact(N1 _ (.head _)).1⟩
  exact zH (pre:=[]) (post:=(pre++(ad,oe)::tr)++(post++(a.X++p.I))) F N1 X I h1 ok.sa ok.over tk ok.dict (hR.some x) (λ_ h=>nomatch h) (λz hz q=>(fH.mp nd).1 (q▸vA (f:=(·.1)) hz)) (putName_dict _ _ _ _ es nn) rfl hlen λh' F' N'=>
   fin h' oe _ _ F' (News.perm N' (pm _)) ((((pm (d,dictOf (putL x (PyData.keyHash c.w.params x) (.str x (s.toks+1)) ru es) (putN x es nn))).map (·.1)).nodup_iff).mpr nd) hc hd (hR.put hu l) ⟨d,_,h1,rfl⟩
def L7(X:gx)(v:V)(x:Str)(u:V)(k:Sy->Bool)(Y:Sy):Bool:=bb (Nat.beq v.tag 11) (oi ((bh Y.H v.xn).bind eU) (λz=>bb (X.sets z.1 (code x)) (bb (Nat.ble z.2.length 900) (k ⟨Y.pc,bW v.xn (.inst z.1 (pt (code x) u z.2)) Y.H⟩)))
 (ob ((bh Y.H v.xn).bind qA) λz=>ob (X.exc z.1) λ_=>bb (X.xat z.1 (code x)) (bb (Nat.ble z.2.length 900) (k ⟨Y.pc,bW v.xn (.exc z.1 (pt (code x) u z.2)) Y.H⟩))))
def xQ{X:gx}(C:bY c X){a:Act c}{A E loc Y s v x u k rv ru}{G:Unit->Shared->Prop}(S:aN a p loc Y s)(hv:RV c p v rv)(hu:RV c p u ru)(h:L7 X v x u k Y=true)(P:∀Y' s',aN a p loc Y' s'->k Y'=true->G () s'):wpAny (Mo c) A (setAttr rv x ru) G E s:=
 ag h λe h=>bq h (λz ez h=>ag h λhs h=>ag h λhz h=>by
  rw[V.is e] at hv
  refine aH (cU ez) λo ho ez=>?_
  rw[bZ ez] at ho
  refine iR hv.inv λad dd eu g_=>?_
  have ok:=C.sets _ _ hs
  rw[eu]
  refine S.up (eQ ho) (o':=.inst z.1 (pt (code x) u z.2)) (Q:=λh'=>G () {s with heap:=h',toks:=s.toks+2}) (λw R g=>?_) λh' S=>P _ _ (S _) h
  obtain⟨a',d',e',es,m,h1,h2⟩:=R
  rw[g_] at e';refine bS (fI (oI e')) λzz7 zz8=>?_;obtain rfl:=zz7;obtain rfl:=zz8
  refine⟨[(ad,instObj z.1 dd)],dd,dictOf es m,dictOf (putL x (PyData.keyHash c.w.params x) (.str x (s.toks+1)) ru es) (putN x es m),[],h2,⟨ad,dd,g_,_,_,h1.put hu z.2,rfl⟩,λg' mm l l' V7 F N U q=>set_dict (w:=c.w) (K:=c.K) (C:=z.1) (ox:=instObj z.1 dd) F V7 N ⟨g _ (by rw[h2];exact .head _),rfl,rfl,g _ (by rw[h2];exact .tail _ (.head _))⟩ rfl ok.sa ok.over ok.taker ok.dict (h1.some x) rfl U ?_ q⟩
  rw[<-(h1.put (x:=x) (t:=s.toks+1) hu z.2).length]
  exact dK (pY ..) (dK (j3 (fu hz)) (by decide))) λ_ h=>ay h λz ez h=>ay h λfi hfi h=>ag h λha h=>ag h λhz h=>by
  refine aH (cU ez) λo ho ez=>?_
  rw[pg ez] at ho
  rw[V.is e] at hv
  exact Uv S hv (eQ ho) (C.exc _ _ hfi) (C.xat _ _ ha) (fu hz) hu λs' S'=>P _ _ S' h
def sS(r:Rn kx c names n)(f:Value)(vs:List V)(loc:cL)(Y:Sy)(k:KV):Prop:=
 ∀p s G us,aN r.toAct p loc Y s->jc r.toAct p loc k G->bG c p vs us->wpAny (Mo c) r.A (call f us) G r.E s
def qi(K:Frag)(f:Value):Bool:=match f with
 | .builtin _=>true
 | .type _=>true
 | f=>keepIn K f
def fK(pos:Pos)(env:Env)(es:List Expr):es.all Bb=true->(backTo pos (starEach es env)).any (·.1)=false:=by
 induction es with
 | nil=>exact λ_=>rfl
 | cons e r ih=>
  intro h
  rw[List.all_cons,s5] at h
  rw[oj h.1]
  exact(Bool.false_or _).trans (ih h.2)
def yZ{r:Rn kx c names n}{f:Expr->CE}(hf:∀e,b6 kx c names n e (f e)){g:Value}{first:List Value}{vf:List V}{es:List Expr}{pos:Pos}{loc Y k kk}(hk:qi c.K g=true)(hp:es.all Bb=true)(h:iI f es loc Y kk=true)
  (H:∀vs Y,kk vs Y=true->sS r g (vf++vs) loc Y k) {s G} (S:aN r.toAct p loc Y s) (P:jc r.toAct p loc k G) (hv:bG c p vf first):wpAny (Mo c) r.A (callWith pos g first (backTo pos (starEach es r.env)) []) G r.E s:=by
 rcases es with _|⟨e,es⟩
 ·have h0:wpAny (Mo c) r.A (call g first) G r.E s:=H [] Y h p s G first S P (by rw[gN];exact hv)
  induction g using Value.casesOn with
  | builtin id=>exact callWith_method0 h0
  | type n=>exact PyProof.Rows.callWith_type rfl (PyProof.Rows.evalArgs_none (by rw[gN];exact h0))
  | _=>exact callWith_K0 S.X hk (by rw[gN];exact h0)
 ·have step:wpAny (Mo c) r.A (spliced (backTo pos (starEach (e::es) r.env))) (λvs aJ=>c.K.In aJ.heap/\wpAny (Mo c) r.A (call g (first++vs)) G r.E aJ) r.E s:=kZ hf (e::es) r pos loc Y kk h p s _ S λq us vs bn aJ l aC p_ h=>⟨aC.X,H vs bn h q aJ G _ aC (P.le l) (eO p_ vf (hv.mono l))⟩
  have ZV:=hp
  rw[List.all_cons,s5] at ZV
  induction g using Value.casesOn with
  | builtin id=>exact callWith_method1 (wpAny_mono step (λ_ _ h=>h.2) λ_ _ h=>h) (oj ZV.1 _ _) (fK _ _ _ ZV.2)
  | type n=>
   have e1:=oj ZV.1 es r.env
   rw[e1] at step ⊢
   exact PyProof.Rows.callWith_type ((Bool.false_or _).trans (fK pos r.env es ZV.2)) (evalArgs_plain (wpAny_mono step (λ_ _ h=>h.2) λ_ _ h=>h))
  | _=>exact callWith_K r.KX hk step (oj ZV.1 _ _) (fK _ _ _ ZV.2)
def Ai(v:V):Option Value:=Bool.rec (Bool.rec (Bool.rec .none (some (.type v.xd)) (Nat.beq v.tag 14)) (some (.builtin v.xd)) (Nat.beq v.tag 13)) (some (.ref v.xn)) (Nat.beq v.tag 12)
def xU{v f u}(h:Ai v=some f)(hv:RV c p v u):u=f:=by
 refine eX h (λe h=>?_) λ_ h=>eX h (λe h=>?_) λ_ h=>eX h (λe h=>?_) λ_ h=>aj h
 ·rw[V.is e] at hv;exact hv.inv.1.trans h
 ·rw[V.is e] at hv;exact hv.inv.1.trans h
 ·rw[V.is e] at hv;exact hv.inv.trans h
def u3{r:Rn kx c names n}{f:Expr->CE}(hf:∀e,b6 kx c names n e (f e)){x:Str}{ps pos:Pos}{es:List Expr}{loc Y k}{kf:KV}(hp:es.all Bb=true)(h:f (.Name x ps) loc Y kf=true)
  (H:∀v Y,kf v Y=true->∃g kk,Ai v=some g/\qi c.K g=true/\iI f es loc Y kk=true/\∀vs Y,kk vs Y=true->sS r g vs loc Y k):TE r (.Call (.Name x ps) es [] pos) loc Y k:=λp s G S P=>
 Call_ (hf _ r loc Y _ h p s _ S λq u v bn aJ l aC hv h=>(H v bn h).elim λg hg=>hg.elim λkk hg=>by
  rw[xU hg.1 hv]
  exact yZ hf (vf:=[]) hg.2.1 hp hg.2.2.1 hg.2.2.2 aC (P.le l) .nil)
def wJ{o:Expr}{name:Str}{apos pos:Pos}{es:List Expr}{env:Env}(hb:pZ o=true)(hp:es.all Bb=true)(hn:es.length < 30)(hl:(apos.endLine == pos.line)=true):
  eval (.Call (.Attribute o name apos) es [] pos) env=(do
   let ov<-eval o env
   standAt apos.atName
   let(f,first)<-holding [ov] (getMethod ov name (do return (<-importBound o env).getD true))
   callWith pos f first (backTo pos (starEach es env)) []):=by
 have h1:methodCallForm es.length (backTo pos (starEach es env)) []=true:=by
  unfold methodCallForm
  rw[show(backTo pos (starEach es env)).all (!·.1)=true by rw[List.all_eq_not_any_not];simpa using fK pos env es hp]
  simp[hn]
 rw[arm_eval_Call,(fz hb).base]
 refine bl (Sem.bind (eval o env)) (funext λov=>bl (Sem.bind _) (funext λ_=>?_))
 show methodCall o name apos pos env ov (es.length+0) (backTo pos (starEach es env)) []=_
 rw[Nat.add_zero]
 unfold methodCall
 rw[h1,show methodCallPos true o env apos pos=pure pos from if_pos hl]
 rfl
def sR(a:Act c)(loc:cL)(v:V)(mn:Str)(Y:Sy)(f:Value):Prop:=
 ∀p s u (A:Around) (E:Value->Shared->Prop) pl (Qg:Value×List Value->Shared->Prop),aN a p loc Y s->RV c p v u->Qg (f,[u]) s->wpAny (Mo c) A (getMethod u mn pl) Qg E s
def u4{r:Rn kx c names n}{f:Expr->CE}(hf:∀e,b6 kx c names n e (f e)){o:Expr}{mn:Str}{apos pos:Pos}{es:List Expr}{loc Y k}{kf:KV}(hb:pZ o=true)(hp:es.all Bb=true)(hn:es.length < 30)(hl:(apos.endLine == pos.line)=true)
  (h:f o loc Y kf=true) (H:∀v Y,kf v Y=true->∃g kk,sR r.toAct loc v mn Y g/\qi c.K g=true/\iI f es loc Y kk=true/\∀vs Y,kk vs Y=true->sS r g (v::vs) loc Y k):TE r (.Call (.Attribute o mn apos) es [] pos) loc Y k:=λp s G S P=>
 MethodCall_ (hf _ r loc Y _ h p s _ S λq u v bn aJ l aC hv h=>(H v bn h).elim λg hg=>hg.elim λkk hg=>hg.1 q aJ u _ _ _ _ aC hv (yZ hf (vf:=[v]) hg.2.1 hp hg.2.2.1 hg.2.2.2 aC (P.le l) (.cons hv .nil))) (wJ hb hp hn hl)
abbrev FS:=List V->Sy->KV->Bool
def l9(kx:Nat->Sy->Bool)(c:Cx)(n:Nat)(g:Value)(sp:FS):Prop:=∀{names} (r:Rn kx c names n) vs loc Y k,sp vs Y k=true->sS r g vs loc Y k
def pj(l:List V)(f:V->Bool):Bool:=bR l λx r=>bb (bf r) (f x)
def Lw(l:List V)(f:V->V->Bool):Bool:=bR l λx r=>pj r (f x)
def jq{C:Prop}{l us f}(h:pj l f=true)(p_:bG c p l us)(K:∀x u,us=[u]->RV c p x u->f x=true->C):C:=aZ h λx r e h=>ag h λh1 h=>by
 rw[e,aG h1] at p_
 refine eC p_.inv λu r e hu hr=>?_
 exact K x u (by rw[e,show r=[] from hr.inv]) hu h
def JK{C:Prop}{l us f}(h:Lw l f=true)(p_:bG c p l us)(K:∀x y u v,us=[u,v]->RV c p x u->RV c p y v->f x y=true->C):C:=aZ h λx r e h=>by
 rw[e] at p_
 refine eC p_.inv λu r e hu hr=>?_
 exact jq h hr λy v e' hv h=>K x y u v (by rw[e,e']) hu hv h
def Tg:FS:=λvs Y k=>Lw vs λx v=>bb (Nat.beq x.tag 11) (ob (bh Y.H x.xn) λo=>
 oi (dw o) (λl=>bb (Nat.ble l.length 4000) (k .none ⟨Y.pc,bW x.xn (.lst (l++[v])) Y.H⟩))
 (ob (jG o) λg=>bb (Nat.ble g.2.length 4000) (k .none ⟨Y.pc,bW x.xn (.v_ g.1 (g.2++[v])) Y.H⟩)))
def wa{s:Shared}{j ad dd}(g_:p.ρ[j]? =some (ad,dd)){l}(x)(R:eF p j λa _=>LX c p l x a)(g:∀z∈x,s.heap.get? z.1=some z.2):∃ob,x=[(ad,ob)]:=by
 obtain⟨a',d',e,vs,m,h1,h2⟩:=R
 rw[g_] at e;refine bS (fI (oI e)) λJ_ X_=>?_;obtain rfl:=J_;obtain rfl:=X_
 exact⟨_,h2⟩
def xg{a:Act c}{A E loc Y s j o o' u v uv k G}{l:List V}(S:aN a p loc Y s)(P:jc a p loc k G)(hj:Y.H[j]? =some o)(ho:∀q x,RO c q j x o=eF q j λa _=>LX c q l x a)(G_:∀q x,RO c q j x o'=eF q j λa _=>LX c q (l++[v]) x a)(hz:l.length<=4000+1000000)
  (hu:RV c p (.ref j) u) (hv:RV c p v uv) (h:k .none ⟨Y.pc,bW j o' Y.H⟩=true):wpAny (Mo c) A (call (.builtin "list.append") [u,uv]) G E s:=by
 refine iR hu.inv λad dd eu g_=>?_
 refine aH (S.look hj) λx R g=>?_
 obtain⟨a',d',e',vs,m,h1,h2⟩:=(ho p x).mp R
 rw[g_] at e';refine bS (fI (oI e')) λYO Zx=>?_;obtain rfl:=YO;obtain rfl:=Zx
 rw[eu]
 refine append_at (hsz:=by rw[iJ,<-h1.length];exact fV hz) (g _ (by rw[h2];exact .head _)) λh' hs Zf=>S.one (o':=o') (n:=s.toks) hj g_ (λx R=>wa g_ x ((ho p x).mp R)) hs Zf ((G_ p _).mpr ⟨ad,dd,g_,vs++[uv],m+1,eO (.cons hv .nil) l h1,by simp⟩) λS=>P.here S .none h
def JL{ft:FT}(F:aI c.σ ft):l9 kx c n (.builtin "list.append") Tg:=λr vs loc Y k h p s G us S P p_=>JK h p_ λx v u uv e hu hv h=>ag h λe1 h=>ay h λo ho h=>by
 rw[e]
 rw[V.is e1] at hu
 refine bq h (λl el h=>ag h λhz h=>?_) λ_ h=>ay h λg eg h=>ag h λhz h=>?_
 ·rw[bU el] at ho
  exact xg S P (eQ ho) (λ_ _=>rfl) (λ_ _=>rfl) (dK (fu hz) (by decide)) hu hv h
 ·rw[eA eg] at ho
  exact xg S P (eQ ho) (λ_ _=>rfl) (λq x=>by show eF q _ _=_;rw[gK]) (by rw[nE];have:=F.big g.1;have:=fu hz;lia) hu hv h
def Hz(l:List V):Option (List V×V):=List.rec .none (λv r g=>some (Option.rec ([],v) (λz=>(v::z.1,z.2)) g)) l
def Hw{l:List V}:∀{z},Hz l=some z->l=z.1++[z.2]:=by
 induction l with
 | nil=>exact λh=>aj h
 | cons v r ih=>
  intro z h
  have h':some (Option.rec ([],v) (λz=>(v::z.1,z.2)) (Hz r):List V×V)=some z:=h
  rcases e:Hz r with _|y
  ·rw[e] at h';obtain rfl:=oI h'
   rcases r with _|⟨x,r⟩
   ·rfl
   ·exact oS e
  ·rw[e] at h';obtain rfl:=oI h';rw[ih e];rfl
def jg{l':List V}(l:List V):∀{us},bG c p (l++l') us->∃x y,us=x++y/\bG c p l x/\bG c p l' y:=by
 induction l with
 | nil=>exact λr=>⟨[],_,rfl,.nil,r⟩
 | cons v l ih=>
  intro us h
  refine eC h.inv λu r e h t=>?_
  refine eC (ih t) λx y e' h1 h2=>?_
  exact⟨u::x,y,by rw[e,e'];rfl,.cons h h1,h2⟩
def QK:FS:=λvs Y k=>pj vs λx=>bb (Nat.beq x.tag 11) (ob ((bh Y.H x.xn).bind dw) λl=>bb (Nat.ble l.length 4000) (ob (Hz l) λz=>k z.2 ⟨Y.pc,bW x.xn (.lst z.1) Y.H⟩))
def Hv:l9 kx c n (.builtin "list.pop") QK:=λr vs loc Y k h p s G us S P p_=>jq h p_ λx u e hu h=>ag h λe1 h=>ay h λl el h=>ag h λhz h=>ay h λz ez h=>by
 rw[e]
 rw[V.is e1] at hu
 refine aH (cU el) λo ho el=>?_
 rw[bU el] at ho
 refine li (S.list (eQ ho) hu) λd vs m dd eu g_ hg hl=>?_
 have hz:=fu hz
 have hlen:=hl.length
 rw[Hw ez] at hl
 refine eC (jg _ hl) λxs y ev hx hy=>?_
 refine eC hy.inv λw y' ey hw hn=>?_
 rw[show y'=[] from hn.inv] at ey
 rw[ey] at ev
 rw[ev] at hg hlen
 rw[eu]
 have hk:(xs++[w]).toArray.size - 1=xs.length:=by rw[iJ,nE];rfl
 refine call_meets PySem.F.slot_list_pop ⟨_,hg,rfl⟩ PySem.F.entry_list_pop (PySem.F.args_list_pop_1 _) (PySem.MeetsSeq.list_pop_last d _ m w (by rw[hk];simp) (by rw[iJ,<-hlen];exact fV (by lia))) ⟨hg,?_⟩
 have Zf:(s.heap.update d (Obj.mapSeq λZ3=>Z3.eraseIdxIfInBounds ((xs++[w]).toArray.size - 1))).get? d=some (cJ xs (m+1)):=by
  have q:=PySem.IsL.update hg (λZ3=>Z3.eraseIdxIfInBounds ((xs++[w]).toArray.size - 1))
  rw[show(xs++[w]).toArray.eraseIdxIfInBounds ((xs++[w]).toArray.size - 1)=xs.toArray by rw[hk,kl_erase,gN],if_neg (by simp)] at q
  exact q
 exact S.one (o':=.lst z.1) (n:=s.toks) (eQ ho) g_ (λx R=>wa g_ x R) (Heap.SameBut.update ..) Zf ⟨d,dd,g_,xs,m+1,hx,rfl⟩ λS=>P.here S hw h
def UF(r:Option V)(d:V):V:=Option.rec d (λv=>v) r
def pf{r:Option V}{y:Option Value}{d:V}{du:Value}(h:au c p r y)(hd:RV c p d du):RV c p (UF r d) (y.getD du):=by
 rcases r with _|_
 ·rcases y with _|_
  ·exact hd
  ·exact h.elim
 ·rcases y with _|_
  ·exact h.elim
  ·exact h
def Ef(ft:FT)(v i d:V)(k:KV)(Y:Sy):Bool:=
 bi (Nat.beq v.tag 7) (bb (Nat.beq i.tag 2) (k (UF (Pz i.xi v.xj) d) Y))
 (bb (Nat.beq v.tag 11) (ob (bh Y.H v.xn) λo=>ob (lJ i) λkey=>TM ft v.xn key o (λz Y=>k (UF z d) Y) Y))
def uI{ft:FT}(F:aI c.σ ft){a:Act c}{loc Y s k G v i d u iu du}{C:Prop}(S:aN a p loc Y s)(P:jc a p loc k G)(hu:RV c p v u)(hi:RV c p i iu)(hd:RV c p d du)(h:Ef ft v i d k Y=true)(K:∀dd rr,u=.ref dd->pB c s dd iu rr->(∀m,G (rr.getD du) {s with toks:=m})->C):C:=
 bH h (λe h=>ag h λe1 h=>by
  rw[V.is e] at hu
  rw[V.is e1] at hi
  refine eC (oX S hu hi) λdd rr eu D hA=>?_
  exact K dd rr eu D λm=>P.toks S (pf hA hd) h m) λ_ h=>ag h λe h=>ay h λo ho h=>ay h λkey q_ h=>by
  rw[V.is e] at hu
  exact wj F S (eQ ho) hu q_ hi h λdd rr ro Y' eu D hA S' h=>K dd rr eu D λm=>P.toks S' (pf hA hd) h m
def II(ft:FT):FS:=λvs Y k=>bR vs λv r=>bR r λi r=>bi (bf r) (Ef ft v i .none k Y) (pj r λd=>Ef ft v i d k Y)
def Rn.u11(r:Rn kx c names n):r.A.units+4<=cLine:=by have:=r.room.units;omega
def sj{ft:FT}(F:aI c.σ ft):l9 kx c n (.builtin "dict.get") (II ft):=λr vs loc Y k h p s G us S P p_=>aZ h λv Uy e h=>aZ h λi GV e' h=>by
 rw[e,e'] at p_
 refine eC p_.inv λu x ex hu p_=>?_
 refine eC p_.inv λiu x' ex' hi p_=>?_
 rw[ex,ex']
 refine bH h (λe h=>?_) λ_ h=>jq h p_ λd du e hd h=>?_
 ·rw[aG e] at p_
  rw[show x'=[] from p_.inv]
  exact uI F S P hu hi .none h λdd rr eu D fin=>by rw[eu];exact D.get1 r.u11 fin
 ·rw[e]
  exact uI F S P hu hi hd h λdd rr eu D fin=>by rw[eu];exact D.get2 r.u11 fin
def Ri(ft:FT)(v:V)(H:Hp):Option SE:=
 Bool.rec (Bool.rec (Bool.rec .none ((bh H v.xn).bind λo=>oi2 (dw o) (λl=>ok l .none) ((jG o).bind λg=>(Nh ft g.1).bind λe=>ok g.2 (some e))) (Nat.beq v.tag 11)) (ok v.xl .none) (Nat.beq v.tag 15)) (ok v.xl .none) (Nat.beq v.tag 10)
where
 oi2 (x:Option (List V)) (f:List V->Option SE) (d:Option SE):Option SE:=Option.rec d f x
 ok (l:List V) (e:Option SE):Option SE:=Bool.rec .none (some (Option.rec (.lit (.ofNat l.length)) (λe=>lY e (.lit (.ofNat l.length))) e)) (Nat.ble l.length 100000)
def kK{l e r}(h:Ri.ok l e=some r):l.length<=100000/\r=Option.rec (.lit (.ofNat l.length)) (λe=>lY e (.lit (.ofNat l.length))) e:=eX h (λe h=>⟨fu e,h.symm⟩) λ_ h=>aj h
def Rj(ft:FT):FS:=λvs Y k=>pj vs λv=>ob (Ri ft v Y.H) λe=>k (HH e) Y
def HY{ft:FT}(F:aI c.σ ft):l9 kx c n (.builtin "len") (Rj ft):=λr vs loc Y k h p s G us S P p_=>jq h p_ λv u eu hu h=>ay h λe he h=>by
 rw[eu]
 have fin:∀{m:Int} {t:Tok} {j:Nat},m=e.ev c.σ.ν->G (.int m t) {s with toks:=j}:=λem=>by rw[em];exact P.toks S (ly _ _) h _
 have lst:∀{l:List V} {d vs m},u=.ref d->s.heap.get? d=some (cJ vs m)->bG c p l vs->l.length<=2000000->(l.length:Int)=e.ev c.σ.ν->wpAny (Mo c) r.A (call (.builtin "len") [u]) G r.E s:=λ{l d vs m} eu hg hl hz el=>by
  rw[eu]
  exact PyProof.Rows.len_list ⟨_,hg,rfl,m,rfl⟩ (by rw[iJ,<-hl.length];lia) (fin (by rw[iJ,<-hl.length];exact el))
 refine bp he (λe1 h=>?_) λ_ h=>bp h (λe1 h=>?_) λ_ h=>bp h (λe1 h=>?_) λ_ h=>aj h
 ·rw[V.is e1] at hu
  refine mE hu.inv λad items m eu h1 h2=>?_
  refine bS (kK h) λhz he=>?_
  rw[eu]
  exact PyProof.Rows.len_tuple ⟨_,S.get h1,rfl,m,rfl⟩ (by rw[iJ,<-h2.length];lia) (fin (by rw[iJ,<-h2.length,he];rfl))
 ·rw[V.is e1] at hu
  refine mE hu.inv λad items m eu h1 h2=>?_
  refine bS (kK h) λhz he=>?_
  exact lst eu (S.get h1) h2 (by lia) (by rw[he];rfl)
 ·rw[V.is e1] at hu
  refine aH (cU h) λo ho h=>?_
  refine tL h (λl el h=>?_) λ_ h=>?_
  ·rw[bU el] at ho
   refine li (S.list (eQ ho) hu) λd vs m dd eu g_ hg hl=>?_
   refine bS (kK h) λhz he=>?_
   exact lst eu hg hl (by lia) (by rw[he];rfl)
  ·refine aH (cU h) λg eg h=>?_
   refine aH (cU h) λe' he' h=>?_
   rw[eA eg] at ho
   refine li (S.seq (eQ ho) hu (.inl ⟨g,rfl,rfl⟩)) λd vs m dd eu g_ hg hl=>?_
   refine bS (kK h) λhz he=>?_
   have:=F.big g.1
   exact lst eu hg hl (by rw[nE];lia) (by rw[he,nE];exact(Int.natCast_add ..).trans ((bl (· +_) (yx F he')).trans (gB c.σ.ν e' (.lit (.ofNat g.2.length))).symm))
def Qx:FS:=λvs Y k=>bR vs λx r=>ob (nz x) λe=>bi (bf r) (k (.rng (.lit 0) e) Y) (pj r λy=>ob (nz y) λf=>k (.rng e f) Y)
def G8:l9 kx c n (.type "range") Qx:=λr vs loc Y k h p s G us S P p_=>aZ h λx Uy e h=>ay h λa ha h=>by
 rw[e] at p_
 refine eC p_.inv λu GV ex hu p_=>?_
 refine bV (dN hu ha) λt eu=>?_
 rw[ex,eu]
 refine bH h (λe h=>?_) λ_ h=>jq h p_ λy v e hv h=>ay h λb hb h=>?_
 ·rw[aG e] at p_
  rw[show GV=[] from p_.inv]
  exact PySem.call_range_1 (S.imm (λg m F=>F.push _) (λg m l F N=>News.push F N _) _ λq l i S'=>P q _ _ _ _ l S' (.rng (a:=.lit 0) (b:=a) i) h)
 ·refine bV (dN hv hb) λt' ev=>?_
  rw[e,ev]
  exact PySem.call_range_2 (S.imm (λg m F=>F.push _) (λg m l F N=>News.push F N _) _ λq l i S'=>P q _ _ _ _ l S' (.rng i) h)
def aN.keep{a:Act c}{loc Y s h'}(S:aN a p loc Y s)(hk:∀b o,s.heap.get? b=some o->h'.get? b=some o):aN a p loc Y {s with heap:=h'}:=by
 refine S.el λm g own tn F N hn hH hr le cv pc ge os rl=>?_
 have hs:Heap.ExtBut s.heap.objs.size s.heap h':=λb o _ e=>hk b o e
 exact⟨m,⟨⟨g,own,tn,F.extBut hs (fG _),News.extBut N hs (fG _),hn,hH,hr⟩,le,cv,pc,ge,os⟩,rl⟩
def Qc:FS:=λvs Y k=>pj vs λx=>bb (Nat.beq x.tag 11) (ob ((bh Y.H x.xn).bind dw) λl=>bb (Nat.ble l.length 4000) (k (.tup l) Y))
def GC:l9 kx c n (.type "tuple") Qc:=λr vs loc Y k h p s G us S P p_=>jq h p_ λx u e hu h=>ag h λe1 h=>ay h λl el h=>ag h λhz h=>by
 rw[e]
 rw[V.is e1] at hu
 refine aH (cU el) λo ho el=>?_
 rw[bU el] at ho
 refine li (S.list (eQ ho) hu) λd vs m dd eu g_ hg hl=>?_
 rw[eu]
 exact PySem.call_tuple_list (items:=vs.toArray) ⟨_,hg,rfl,m,rfl⟩ (λh' hk=>(S.keep hk).imm (x:=lu vs 0) (λg m F=>F.push _) (λg m l F N=>News.push F N _) s.toks λq l i S'=>P q _ _ _ _ l S' (.tup i (hl.mono l)) h) (hsz:=by rw[iJ,<-hl.length];exact fV (dK (fu hz) (by decide)))
theorem jz.deeper{A:Around}{n:Nat}{env:Env}(h:jz A (n+1)):jz (A.deeper env) n:=
 ⟨by have:=h.depth;rw[depth_deeper];lia,by have:=h.units;rw[units_deeper];lia,λ_=>h.handled (qG n)⟩
def jz.le{A:Around}{n m:Nat}(h:jz A n)(hm:m<=n):jz A m:=⟨dK (Nat.add_le_add_right (Nat.add_le_add_left (Nat.mul_le_mul_left 2 hm) _) 2) h.depth,dK (Nat.add_le_add_right (Nat.add_le_add_left (Nat.mul_le_mul_left 20 hm) _) 20) h.units,λh0=>h.handled (vz h0 hm)⟩
def ah(kx:Nat->Sy->Bool)(c:Cx)(n:Nat)(f:Addr)(sp:FS):Prop:=
 ∀(a:Act c) (A:Around) p m Y s vs us k (R:Result->Shared->Prop),jz A n->A.frames=some a.fl->sp vs Y k=true->aK a p m Y s->bG c p vs us->
  (∀q u v Y s',Le p q->aK a q m Y s'->RV c q v u->k v Y=true->R (.ok (.ret u)) s')->
  (∀q Y s' j e,Le p q->aK a q m Y s'->RV c q (.ref j) e->gX j Y.H->kx j Y=true->R (.error e) s')->codeAny (Mo c) A (.call (.ref f) ⟨us,[]⟩) R s
def bD(kx:Nat->Sy->Bool)(c:Cx)(n:Nat)(fns:Addr->Option FS):Prop:=∀f sp,fns f=some sp->ah kx c n f sp/\keepIn c.K (.ref f)=true
theorem ah.le{m f sp}(h:ah kx c n f sp)(hm:n<=m):ah kx c m f sp:=
 λa A p m Y s vs us k R hr hA hs S hv hR=>h a A p m Y s vs us k R (hr.le hm) hA hs S hv hR
def ah.call{m f sp}(h:ah kx c m f sp)(hm:m<=n):l9 kx c n (.ref f) sp:=λr vs loc Y k hs p s G us S P p_=>by
 obtain⟨mm,S,rl⟩:=S
 exact wpAny_call (h r.toAct r.A p mm Y s vs us k _ (r.room.le hm) r.hA hs S p_ (λq u v Y s' l S' hv hk=>P q u v Y s' l ⟨mm,S',rl.mono l⟩ hv hk) λq Y s' j e l S'=>r.err q mm Y s' j e S')
theorem aK.inst{a:Act c}{m Y s h' x dx C g own}(tn:KtsTurn (jy a.outer) a.h₀ g)(F:Fr g a.env.locals h' m)(N:News g a.env.locals h' ((x,instObj C dx)::(dx,emptyDict)::(own++(a.X++p.I))))(YF:∀z∈own++(a.X++p.I),z.1 < dx)(hx:dx < x)
  (hn:((own++(a.X++p.I)).map (·.1)).Nodup) (hH:RH c p 0 Y.H own) (hr:p.ρ.length=Y.H.length) (S:aK a p m Y s) (k:Nat):
  ∃q,Le p q/\RV c q (.ref Y.H.length) (.ref x)/\aK a q m ⟨Y.pc,Y.H++[.inst C []]⟩ {s with heap:=h',toks:=k}:=by
 have l:Le p ⟨p.ρ++[(x,dx)],p.I,p.τ⟩:=⟨⟨_,rfl⟩,λ_ h=>h,rfl⟩
 have hk:(p.ρ++[(x,dx)])[Y.H.length]? =some (x,dx):=by rw[<-hr];exact vC
 have pm:((own++[(x,instObj C dx),(dx,dictOf [] 0)])++(a.X++p.I)).Perm ((x,instObj C dx)::(dx,dictOf [] 0)::(own++(a.X++p.I))):=by
  rw[gK]
  exact sZ own [(x,instObj C dx),(dx,dictOf [] 0)] (a.X++p.I)
 have fr:∀y,dx<=y->y∉(own++(a.X++p.I)).map (·.1):=λy hy hm=>(fw.mp hm).elim λz hz=>absurd (YF z hz.1) (by rw[hz.2];exact Nat.not_lt.mpr hy)
 have nd:(((x,instObj C dx)::(dx,dictOf [] 0)::(own++(a.X++p.I))).map (·.1)).Nodup:=by
  rw[jr,jr,fH,fH]
  exact⟨λhm=>(dL.mp hm).elim (λe=>absurd hx (by rw[show x=dx from e];exact zq _)) (fr x (Nat.le_of_lt hx)),fr dx (fG _),hn⟩
 exact⟨_,l,.ref hk,⟨⟨g,_,tn,F,News.perm N pm,aY nd pm,(hH.mono l).snoc (by rw[eM];exact⟨x,dx,hk,[],0,.nil,rfl⟩),by rw[nE,nE,hr];rfl⟩,S.le.trans l,eh l S.cv,S.pc,S.ge,S.os⟩⟩
def WB(C:Addr)(sp:FS):FS:=λvs Y k=>sp (.ref Y.H.length::vs) ⟨Y.pc,Y.H++[.inst C []]⟩ λv Y'=>bb (Nat.beq v.tag 0) (k (.ref Y.H.length) Y')
def Q6(C:Addr):FS:=λvs Y k=>bb (bf vs) (k (.ref Y.H.length) ⟨Y.pc,Y.H++[.inst C []]⟩)
def Dj{C f:Addr}{sp:FS}(MA:xr c.K C f)(hf:ah kx c n f sp):l9 kx c (n+1) (.ref C) (WB C sp):=λr vs loc Y k hs p s G us S P p_=>by
 have X:=S.X
 obtain⟨m,S,rl⟩:=S
 have S0:=S
 refine S.el λg own tn F N hn hH hr _ _ _ _ _=>?_
 refine wpAny_call (make_K F N X MA.makes MA.find (cS.mp MA.fn) λx dx h' F' N' YF hx=>?_)
 refine lj (aK.inst tn F' N' YF hx hn hH hr S0 s.toks) λq l i S'=>?_
 have hr2:jz (A:=r.A.under (.builtin "type.__call__" ⟨.ref C::us,[]⟩)) n:=
  ⟨by have:=r.room.depth;rw[depth_under_make];lia,by have:=r.room.units;rw[units_under_make];lia,λ_=>r.room.handled (qG n)⟩
 refine hf r.toAct _ q m _ _ _ _ _ _ hr2 (show(r.A.under (.builtin "type.__call__" ⟨.ref C::us,[]⟩)).frames=_ from r.hA) hs S' (.cons i (p_.mono l)) (λq' u v Y' s' l' S' hv hk=>ag hk λe hk=>?_) λq' Y' s' j e l' S' he hx hk=>r.err q' m Y' s' j e S' he hx hk
 rw[V.is e] at hv
 exact⟨hv.inv,P q' _ _ Y' s' (l.trans l') ⟨m,S',rl.mono (l.trans l')⟩ (i.mono l') hk⟩
def zW{C:Addr}(MA:sO c.K C):l9 kx c n (.ref C) (Q6 C):=λr vs loc Y k hs p s G us S P p_=>ag hs λe hs=>by
 rw[aG e] at p_
 rw[show us=[] from p_.inv]
 have X:=S.X
 obtain⟨m,S,rl⟩:=S
 have S0:=S
 refine S.el λg own tn F N hn hH hr _ _ _ _ _=>?_
 refine wpAny_call (make_K0 F N X MA.makes MA.find λx dx h' F' N' YF hx=>?_)
 refine lj (aK.inst tn F' N' YF hx hn hH hr S0 s.toks) λq l i S'=>?_
 exact P q _ _ _ _ l ⟨m,S',rl.mono l⟩ i hs
def aK.ae1{a:Act c}{m Y s h' e t C g own}(tn:KtsTurn (jy a.outer) a.h₀ g)(F:Fr g a.env.locals h' m)(N:News g a.env.locals h' ((e,r_ C t)::(own++(a.X++p.I))))(YF:∀z∈own++(a.X++p.I),z.1 < e)
  (hn:((own++(a.X++p.I)).map (·.1)).Nodup) (hH:RH c p 0 Y.H own) (hr:p.ρ.length=Y.H.length) (S:aK a p m Y s) (k:Nat):
  ∃q,Le p q/\RV c q (.ref Y.H.length) (.ref e)/\aK a q m ⟨Y.pc,Y.H++[.exc C []]⟩ {s with heap:=h',toks:=k}:=by
 have l:Le p ⟨p.ρ++[(e,0)],p.I,p.τ⟩:=⟨⟨_,rfl⟩,λ_ h=>h,rfl⟩
 have hk:(p.ρ++[(e,0)])[Y.H.length]? =some (e,0):=by rw[<-hr];exact vC
 have pm:((own++[(e,r_ C t)])++(a.X++p.I)).Perm ((e,r_ C t)::(own++(a.X++p.I))):=by
  rw[gK]
  exact sZ own [(e,r_ C t)] (a.X++p.I)
 have nd:(((e,r_ C t)::(own++(a.X++p.I))).map (·.1)).Nodup:=by
  rw[jr,fH]
  exact⟨λhm=>(fw.mp hm).elim λz hz=>absurd (YF z hz.1) (by rw[hz.2];exact zq _),hn⟩
 exact⟨_,l,.ref hk,⟨⟨g,_,tn,F,News.perm N pm,aY nd pm,(hH.mono l).snoc (by rw[eM];exact⟨e,0,hk,[],r_ C t,#[.ref t,.none,.none,.none,.bool false,.none],[],.nil,rfl,rfl,⟨_,rfl⟩,.inl ⟨rfl,rfl,rfl⟩,.inl ⟨rfl,rfl⟩⟩),by rw[nE,nE,hr];rfl⟩,S.le.trans l,eh l S.cv,S.pc,S.ge,S.os⟩⟩
def WA(C:Addr)(sp:FS):FS:=λvs Y k=>bb (Nat.ble vs.length 100) (sp (.ref Y.H.length::vs) ⟨Y.pc,Y.H++[.exc C []]⟩ λv Y'=>bb (Nat.beq v.tag 0) (k (.ref Y.H.length) Y'))
def Dk{C f:Addr}{sp:FS}(MA:A6 c.K C f)(hf:ah kx c n f sp):l9 kx c (n+1) (.ref C) (WA C sp):=λr vs loc Y k hs p s G us S P p_=>ag hs λhl hs=>by
 have X:=S.X
 obtain⟨m,S,rl⟩:=S
 have S0:=S
 refine S.el λg own tn F N hn hH hr _ _ _ _ _=>?_
 refine MA.at_.casesOn λnm q NN bs bm Zh sn sub ab col dd k0 k1 k2 k3 k5 hC B=>?_
 obtain⟨hh,gs,dr,tk,os⟩:=s
 have F1:=F.push {cls:=.type "tuple",data:=.seq us.toArray}
 have N1:=N.push F {cls:=.type "tuple",data:=.seq us.toArray}
 have F2:=F1.push (r_ C hh.objs.size)
 have N2:=N1.push F1 (r_ C hh.objs.size)
 rw[Heap.size_push] at N2
 refine lj (aK.ae1 (Y:=Y) tn F2 (λz hz=>N2 z ((dL.mp hz).elim (λe=>e▸.head _) λhz=>.tail _ (.tail _ hz))) (λz hz=>Nat.lt_succ_of_lt (my (N z hz).1)) hn hH hr S0 tk) λq l i S'=>?_
 have hr2:jz (A:=r.A.under (.builtin "type.__call__" ⟨.ref C::us,[]⟩)) n:=
  ⟨by have:=r.room.depth;rw[depth_under_make];lia,by have:=r.room.units;rw[units_under_make];lia,λ_=>r.room.handled (qG n)⟩
 have hlen:us.length<=sizeLine:=by
  have:=fu hl
  rw[<-p_.length,qH];lia
 refine MT B (X _ _ hC) (looks_findIn X MA.find) (λself=>bind_fn X self (cS.mp MA.fn)) (wpAny_call ?_) hlen
 refine hf r.toAct _ q m _ _ _ _ _ _ hr2 (show(r.A.under (.builtin "type.__call__" ⟨.ref C::us,[]⟩)).frames=_ from r.hA) hs S' (.cons i (p_.mono l)) (λq' u v Y' s' l' S' hv hk=>ag hk λe hk=>?_) λq' Y' s' j e l' S' he hx hk=>r.err q' m Y' s' j e S' he hx hk
 rw[V.is e] at hv
 exact⟨hv.inv,P q' _ _ Y' s' (l.trans l') ⟨m,S',rl.mono (l.trans l')⟩ (i.mono l') hk⟩
def Vd(a b:String):Bool:=decide (a=b)
def pC{α:Type}(x y:Option α):Option α:=Option.rec y some x
def dS{α:Type}{C:Prop}{x y:Option α}{r}(h:pC x y=some r)(k:x=some r->C)(k':y=some r->C):C:=match x with
 | .none=>k' h
 | some _=>k h
def ij{α:Type}(b:Bool)(x:Option α):Option α:=Bool.rec .none x b
def be{α:Type}{C:Prop}{b:Bool}{x:Option α}{r}(h:ij b x=some r)(k:b=true->x=some r->C):C:=match b with
 | true=>k rfl h
 | false=>nomatch h
def K6(X:gx)(fns:Addr->Option FS)(v:V):Option FS:=
 pC (ij (Nat.beq v.tag 12) (pC (fns v.xn) (pC ((X.mkI v.xn).bind λf=>(fns f).map (WB v.xn)) (pC (ij (X.mk0 v.xn) (some (Q6 v.xn))) ((X.exc v.xn).bind λf=>(fns f).map (WA v.xn))))))
 (pC (ij (Nat.beq v.tag 13) (ij (Vd v.xd "len") (some (Rj X.ft))))
 (ij (Nat.beq v.tag 14) (pC (ij (Vd v.xd "range") (some Qx)) (ij (Vd v.xd "tuple") (some Qc)))))
def kQ{v:V}:(Nat.beq v.tag 12=true->Ai v=some (.ref v.xn))/\(Nat.beq v.tag 13=true->Ai v=some (.builtin v.xd))/\(Nat.beq v.tag 14=true->Ai v=some (.type v.xd)):=by
 induction v using V.casesOn with
 | glob=>exact⟨λ_=>rfl,ff,ff⟩
 | bi=>exact⟨ff,λ_=>rfl,ff⟩
 | ty=>exact⟨ff,ff,λ_=>rfl⟩
 | _=>exact⟨ff,ff,ff⟩
def EM{X:gx}(C:bY c X){fns}(F:bD kx c n fns){v sp}(h:K6 X fns v=some sp):∃g,Ai v=some g/\qi c.K g=true/\l9 kx c (n+1) g sp:=
 dS h (λh=>be h λe h=>⟨_,kQ.1 e,dS h (λh=>⟨(F _ _ h).2,(F _ _ h).1.call (lm n)⟩) λh=>dS h (λh=>by
   refine aH (cU h) λf hf h=>?_
   refine aH (fp h) λsp' hsp h=>?_
   have MA:=C.mkI _ _ hf
   exact⟨MA.keep,h▸Dj MA (F _ _ hsp).1⟩) λh=>dS h (λh=>be h λe h=>by obtain rfl:=oI h;exact⟨(C.mk0 _ e).keep,zW (C.mk0 _ e)⟩) λh=>by
   refine aH (cU h) λf hf h=>?_
   refine aH (fp h) λsp' hsp h=>?_
   have MA:=C.exc _ _ hf
   exact⟨MA.keep,h▸Dk MA (F _ _ hsp).1⟩⟩)
 λh=>dS h (λh=>be h λe h=>be h λe2 h=>⟨_,kQ.2.1 e,rfl,by obtain rfl:=oI h;rw[mB (p:=v.xd="len") e2];exact HY C.ft⟩)
 λh=>be h λe h=>⟨_,kQ.2.2 e,rfl,dS h (λh=>be h λe2 h=>by obtain rfl:=oI h;rw[mB (p:=v.xd="range") e2];exact G8) λh=>be h λe2 h=>by obtain rfl:=oI h;rw[mB (p:=v.xd="tuple") e2];exact GC⟩
def Ff(X:gx)(fns:Addr->Option FS)(f:Expr->CE)(g:Expr)(es:List Expr):CE:=λloc Y k=>bb (es.all Bb) (f g loc Y λv Y=>ob (K6 X fns v) λsp=>iI f es loc Y λvs Y=>sp vs Y k)
def AG{X:gx}(C:bY c X){fns}(F:bD kx c n fns){f:Expr->CE}(hf:∀e,b6 kx c names (n+1) e (f e)){x:Str}{ps pos:Pos}{es:List Expr}:b6 kx c names (n+1) (.Call (.Name x ps) es [] pos) (Ff X fns f (.Name x ps) es):=λr loc Y k h=>ag h λhp h=>
 u3 hf hp h λv Y h=>ay h λsp hsp h=>(EM C F hsp).elim λg hg=>⟨g,_,hg.1,hg.2.1,h,λvs Y h=>hg.2.2 r vs loc Y k h⟩
def Ag{a:Act c}{loc Y}{v:V}{mn:Str}{z:Addr×List (Nat×V)}{f:Addr}(MA:sN c.K z.1 mn f)(hw:oJ Y.H v=some z)(hm:lk (code mn) z.2=.none):sR a loc v mn Y (.ref f):=λp s u A E pl Qg S hv q=>by
 refine PS (S.inst hv hw) λx d es m eu IA hA=>?_
 rw[eu] at q ⊢
 exact S.gfr λg m own X F N=>method_inst (w:=c.w) (K:=c.K) (C:=z.1) F X IA MA.get MA.find MA.fn ((hA.look z.2).2 hm) q
def eK(o:AO):Option Nat:=match o with
 | .t_ i=>some i
 | _=>.none
def gY{o l}(h:eK o=some l):o=.t_ l:=by induction o using AO.casesOn with
 | t_=>obtain rfl:=Eq.symm (oI h);rfl
 | _=>exact aj h
def bt(c:Nat)(l:List Nat):Bool:=List.rec false (λd _ g=>Bool.rec g true (Nat.beq c d)) l
def kF{c:Nat}{l:List Nat}(h:bt c l=true):c∈l:=by
 induction l with
 | nil=>exact ff h
 | cons d r ih=>
  have h':Bool.rec (bt c r) true (Nat.beq c d)=true:=h
  rcases e:Nat.beq c d with _|_
  ·rw[e] at h';exact .tail _ (ih h')
  ·rw[cf e];exact .head _
def Ee{ft:FT}(F:aI c.σ ft){a:Act c}{loc Y j i}{mn:Str}{f:Addr}{z:Addr×List Nat}(MA:sN c.K z.1 mn f)(hH:Y.H[j]? =some (.t_ i))(hc:ft.ac=some z)(hm:code mn∈z.2):sR a loc (.ref j) mn Y (.ref f):=λp s u A E pl Qg S hv q=>by
 refine iR hv.inv λad dd eu g_=>?_
 refine aH (S.look hH) λx R g=>?_
 obtain⟨a',d',es,nn,rest,h1,h2,h3⟩:=F.ac z.1 z.2 hc i _ _ _ _ R
 rw[g_] at h1;refine bS (fI (oI h1)) λZx Z9=>?_;obtain rfl:=Zx;obtain rfl:=Z9
 rw[eu] at q ⊢
 exact S.gfr λg' m own X Fr N=>method_inst (w:=c.w) (K:=c.K) (C:=z.1) Fr X ⟨g _ (by rw[h2];exact .head _),rfl,rfl,g _ (by rw[h2];exact .tail _ (.head _))⟩ MA.get MA.find MA.fn (h3 mn hm) q
def qt{d:Addr}{ob:Obj}{s:Shared}{A:Around}{E pl}{Qg:Value×List Value->Shared->Prop}(hg:s.heap.get? d=some ob)(he:ob.ExactDict)(q:Qg (.builtin "dict.get",[.ref d]) s):wpAny (Mo c) A (getMethod (.ref d) "get" pl) Qg E s:=
 getMethod_builtin ⟨ob,hg,he.1⟩ PySem.F.plainAttrs_dict PySem.F.slot_dict_get PySem.F.type_dict_get (λb e=>by injection e with e;rw[<-e];exact⟨ob,hg,he.2.1⟩) q
def rY(o:AO):Bool:=match o with
 | .ds _| .di _ _| .dc _| .dt _ _=>true
 | _=>false
def I2{a:Act c}{loc Y s j o u}(S:aN a p loc Y s)(hH:Y.H[j]? =some o)(hd:rY o=true)(hu:RV c p (.ref j) u):∃d ob,u=.ref d/\s.heap.get? d=some ob/\ob.ExactDict:=by
 refine iR hu.inv λad dd eu g_=>?_
 refine aH (S.look hH) λx R g=>?_
 have fin:∀{κ:Type} [DecidableEq κ] {knd:KeyKind PW c.w κ} {n:Nat} {G:List (κ×Value)->Prop},(eF p j λa _=>DX x a (Obj.IsDictOf knd) n G)->∃d ob,u=.ref d/\s.heap.get? d=some ob/\ob.ExactDict:=
  λR=>DX.take R g_ g λob xs _ lo hg ho _ _=>ho.elim λ_ h=>h.elim λ_ h=>⟨ad,ob,eu,hg,h.1⟩
 induction o using AO.casesOn with
 | ds|di|dc=>exact fin R
 | dt=>exact DX.take R g_ g λob xs _ lo hg ho _ _=>⟨ad,ob,eu,hg,ho.1⟩
 | _=>exact bT hd
def qp{a:Act c}{loc Y j o}(hH:Y.H[j]? =some o)(hd:rY o=true):sR a loc (.ref j) "get" Y (.builtin "dict.get"):=λp s u A E pl Qg S hu q=>by
 refine eC (I2 S hH hd hu) λd ob eu hg he=>?_
 rw[eu] at q ⊢
 exact qt hg he q
def Ed{a:Act c}{loc Y l}:sR a loc (.Y8 l) "get" Y (.builtin "dict.get"):=λp s u A E pl Qg S hu q=>by
 refine Um hu.inv λad es m eu hi lo hr hn=>?_
 rw[eu] at q ⊢
 exact qt (S.get hi) ⟨rfl,rfl,rfl⟩ q
def ua{a:Act c}{loc Y s j u}{C:Prop}(S:aN a p loc Y s)(hH:(∃l,Y.H[j]? =some (.lst l))\/∃g l,Y.H[j]? =some (.v_ g l))(hu:RV c p (.ref j) u)(K:∀d vs m,u=.ref d->s.heap.get? d=some (cJ vs m)->C):C:=
 hH.elim (λh=>h.elim λl h=>by refine li (S.seq h hu (.inr rfl)) λd vs m dd eu g_ hg hl=>?_;exact K d vs m eu hg) λh=>h.elim λg h=>h.elim λl h=>by refine li (S.seq h hu (.inl ⟨(g,l),rfl,rfl⟩)) λd vs m dd eu g_ hg hl=>?_;exact K d vs m eu hg
def uH{a:Act c}{loc Y j}(hH:(∃l,Y.H[j]? =some (.lst l))\/∃g l,Y.H[j]? =some (.v_ g l)):sR a loc (.ref j) "append" Y (.builtin "list.append"):=λp s u A E pl Qg S hu q=>ua S hH hu λd vs m eu hg=>by
 rw[eu] at q ⊢
 exact getMethod_list_append hg rfl rfl q
def Ec{a:Act c}{loc Y j}(hH:(∃l,Y.H[j]? =some (.lst l))\/∃g l,Y.H[j]? =some (.v_ g l)):sR a loc (.ref j) "pop" Y (.builtin "list.pop"):=λp s u A E pl Qg S hu q=>ua S hH hu λd vs m eu hg=>by
 rw[eu] at q ⊢
 exact getMethod_builtin ⟨_,hg,rfl⟩ PySem.F.plainAttrs_list PySem.F.slot_list_pop PySem.F.type_list_pop (λb e=>by injection e with e;rw[<-e];exact⟨_,hg,rfl⟩) q
def De(X:gx)(fns:Addr->Option FS)(v:V)(mn:Str)(Y:Sy):Option FS:=
 pC ((oJ Y.H v).bind λz=>(X.mth z.1 (code mn)).bind λf=>orN (lk (code mn) z.2) (fns f))
 (pC (ij (kX mn "get") (pC (ij (Nat.beq v.tag 7) (some (II X.ft))) (ij (Nat.beq v.tag 11) ((bh Y.H v.xn).bind λo=>ij (rY o) (some (II X.ft))))))
 (ij (Nat.beq v.tag 11) ((bh Y.H v.xn).bind λo=>pC ((pC ((dw o).map λ_=>()) ((jG o).map λ_=>())).bind λ_=>pC (ij (kX mn "append") (some Tg)) (ij (kX mn "pop") (some QK)))
  ((eK o).bind λ_=>X.ft.ac.bind λz=>ij (bt (code mn) z.2) ((X.mth z.1 (code mn)).bind fns)))))
where orN (x:Option V) (y:Option FS):Option FS:=Option.rec y (λ_=>.none) x
def QQ{C:Prop}{x y r}(h:De.orN x y=some r)(k:x=.none->y=some r->C):C:=match x with
 | .none=>k rfl h
 | some _=>nomatch h
def Dd{X:gx}(C:bY c X){fns}(F:bD kx c n fns){a:Act c}{loc Y}{v:V}{mn:Str}{sp:FS}(h:De X fns v mn Y=some sp):∃g,sR a loc v mn Y g/\qi c.K g=true/\l9 kx c (n+1) g sp:=by
 refine dS h (λh=>?_) λh=>dS h (λh=>be h λe h=>?_) λh=>be h λe h=>?_
 ·refine aH (cU h) λz hz h=>?_
  refine aH (cU h) λf hf h=>?_
  exact QQ h λhm h=>⟨_,Ag (C.mth _ _ _ hf) hz hm,(F f _ h).2,(F f _ h).1.call (lm n)⟩
 ·rw[dn.mp e]
  refine⟨.builtin "dict.get",?_,rfl,?_⟩
  ·refine dS h (λh=>be h λe h=>?_) λh=>be h λe h=>?_
   ·rw[V.is e];exact Ed
   ·refine aH (cU h) λo ho h=>?_
    rw[V.is e]
    exact be h λhd _=>qp (eQ ho) hd
  ·refine dS h (λh=>be h λe h=>?_) λh=>be h λe h=>?_
   ·obtain rfl:=oI h;exact sj C.ft
   ·refine aH (cU h) λo ho h=>?_
    exact be h λhd h=>by obtain rfl:=oI h;exact sj C.ft
 ·refine aH (cU h) λo ho h=>?_
  have ev:=V.is e
  have hj:=eQ ho
  refine dS h (λh=>?_) λh=>?_
  ·refine aH (cU h) λu hu h=>?_
   have hl:(∃l,Y.H[v.xn]? =some (.lst l))\/∃g l,Y.H[v.xn]? =some (.v_ g l):=dS hu (λhu=>(fp hu).elim λl hu=>.inl ⟨l,by rw[hj,bU hu.1]⟩) λhu=>(fp hu).elim λl hu=>.inr ⟨l.1,l.2,by rw[hj,eA hu.1]⟩
   refine dS h (λh=>be h λe h=>?_) λh=>be h λe h=>?_
   ·rw[dn.mp e,ev];obtain rfl:=oI h;exact⟨_,uH hl,rfl,JL C.ft⟩
   ·rw[dn.mp e,ev];obtain rfl:=oI h;exact⟨_,Ec hl,rfl,Hv⟩
  ·refine aH (cU h) λi hi h=>?_
   refine aH (cU h) λz hz h=>?_
   refine be h λhm h=>?_
   refine aH (cU h) λf hf h=>?_
   rw[ev]
   rw[gY hi] at hj
   exact⟨_,Ee C.ft (C.mth _ _ _ hf) hj hz (kF hm),(F f _ h).2,(F f _ h).1.call (lm n)⟩
def Fg(X:gx)(fns:Addr->Option FS)(f:Expr->CE)(o:Expr)(mn:Str)(apos pos:Pos)(es:List Expr):CE:=λloc Y k=>bb (pZ o) (bb (es.all Bb) (bb (Nat.ble es.length 29) (bb (apos.endLine == pos.line) (f o loc Y λv Y=>ob (De X fns v mn Y) λsp=>iI f es loc Y λvs Y=>sp (v::vs) Y k))))
def AH{X:gx}(C:bY c X){fns}(F:bD kx c n fns){f:Expr->CE}(hf:∀e,b6 kx c names (n+1) e (f e)){o:Expr}{mn:Str}{apos pos:Pos}{es:List Expr}:b6 kx c names (n+1) (.Call (.Attribute o mn apos) es [] pos) (Fg X fns f o mn apos pos es):=λr loc Y k h=>ag h λhb h=>ag h λhp h=>ag h λhn h=>ag h λhl h=>
 u4 hf hb hp (Nat.lt_succ_of_le (fu hn)) hl h λv Y h=>ay h λsp hsp h=>(Dd C F hsp).elim λg hg=>⟨g,_,hg.1,hg.2.1,h,λvs Y h=>hg.2.2 r (v::vs) loc Y k h⟩
def Tu(fs:List Addr)(x:Addr->Prop)(h h':Heap):Prop:=∀b o,h.get? b=some o->¬x b->(b∉fs->h'.get? b=some o)/\∃sl,h'.get? b=some {o with slots:=sl}
def o4(f)(o:Obj):(Obj.mapFields f o).dict=o.dict:=by obtain⟨c,d,x,l⟩:=o;induction x using Data.casesOn <;> rfl
section
variable{M:Model}{A:Around}{E:Value->Shared->Prop}{s:Shared}{base:Heap}{env fe:Env}{outer:List Env}{L e:Addr}{oe:Obj}{vs:Array Value}{Q:Unit->Shared->Prop}
def wA{Q:Value->Shared->Prop}(ZF:A.frames=some (fe::outer))(hl:s.heap.FunFrames base (fe::outer))(hfe:fe.frame=some L)(hf:env.frame=some L)
  (h:∀h',Heap.SlotsOnly ((fe::outer).filterMap (·.frame)) s.heap h'->Q (.ref L) {s with heap:=h'}):wpAny M A (PySem.frameOf env) Q E s:=by
 unfold PySem.frameOf
 refine bX (wpAny_frameEnvs ZF ?_)
 rw[show((fe::outer).dropWhile λx=>x.frame != env.frame)=fe::outer by simp[List.dropWhile,hfe,hf]]
 unfold frameObject
 refine bX (bX (wpAny_readyFrames_fun hl λgg qm=>dF ?_))
 rw[hfe]
 exact dF (h gg qm)
def Ge(e:Addr)(oe:Obj)(vs:Array Value)(h:Heap):Prop:=h.get? e=some oe/\oe.data=.fields vs/\(vs[1]? =some .none\/∃T oT ts f,vs[1]? =some (.ref T)/\T≠e/\h.get? T=some oT/\oT.data=.fields ts/\ts[3]? =some f)
inductive lZ(fs:List Addr)(e:Addr)(oe:Obj)(vs:Array Value)(h h':Heap):Prop
 | mk (YE:Obj) (Zp:Array Value) (T:Addr) (oT:Obj) (ts:Array Value) (t1:h'.get? e=some YE) (t2:YE.cls=oe.cls) (t3:YE.dict=oe.dict) (t4:YE.data=.fields Zp) (t5:Zp[0]? =vs[0]?) (t6:Zp[1]? =some (.ref T)) (t7:h'.get? T=some oT) (t8:oT.data=.fields ts) (t9:∃f,ts[3]? =some f) (t10:h.get? T=none\/vs[1]? =some (.ref T))
  (kp:Tu fs (λb=>b=e\/vs[1]? =some (.ref b)) h h'):lZ fs e oe vs h h'
def qs{head:Value}{aa9:Bool}{h₀:Heap}(ZF:A.frames=some (fe::outer))(hl:s.heap.FunFrames base (fe::outer))(hfe:fe.frame=some L)(hf:env.frame=some L)(he:s.heap.get? e=some oe)(hd:oe.data=.fields vs)(hsz:1 < vs.size)
  (hs:∀b,s.heap.get? b=none->h₀.get? b=none) (hk:∀b o,h₀.get? b=some o->¬(b=e\/vs[1]? =some (.ref b))->s.heap.get? b=some o)
  (h:∀h',lZ ((fe::outer).filterMap (·.frame)) e oe vs h₀ h'->Q () {s with heap:=h'}):
  wpAny M A (do let a<-frameOf env;let pl<-entryPlaceOf L aa9;let b<-EntryCells.newEntry head a .none (rawInt L) .none pl;setField (.ref e) 1 b) Q E s:=by
 have ag1:e∉(fe::outer).filterMap (·.frame):=λhm=>by
  obtain⟨_,o,ho,hnf⟩:=hl.mem hm
  rw[he] at ho;obtain rfl:=oI ho;exact hnf vs hd
 refine bX (wA ZF hl hfe hf λgg qm=>?_)
 refine bX (wpAny_entryPlaceOf λpl hpl=>?_)
 unfold EntryCells.newEntry newFields
 refine bX (wpAny_newObj_type ?_ (hpl.sizeOk5 _ _ _ _ _))
 have KP:gg.get? e=some oe:=(qm.2.1 e ag1).trans he
 generalize hx:({cls:=.type "traceback",dict:=none,data:=.fields ([head,.ref L,.none,rawInt L,.none]++(if pl.isEmpty then List.replicate 6 Value.none else pl)).toArray}:Obj)=oT
 have Zt:oT.data=.fields ([head,.ref L,.none,rawInt L,.none]++(if pl.isEmpty then List.replicate 6 Value.none else pl)).toArray:=by rw[<-hx]
 have KO:=s9 (h:=gg) oT KP
 refine wpAny_setField KO hd hsz (h _ ?_)
 have hTe:gg.objs.size≠e:=Nat.ne_of_gt (my KP)
 have KR:=Obj.data_mapFields hd (·.setIfInBounds 1 (Value.ref gg.objs.size))
 have RU:=Heap.get?_update_self (Obj.mapFields (·.setIfInBounds 1 (Value.ref gg.objs.size))) KO (Bq KR)
 have R0:=(Bs (gg.push oT) (Obj.mapFields (·.setIfInBounds 1 (Value.ref gg.objs.size))) (Ne.symm hTe)).trans (Heap.get?_push_size gg (Bq Zt))
 refine⟨_,_,gg.objs.size,_,_,RU,Obj.cls_mapFields _ _,o4 _ _,KR,Array.getElem?_setIfInBounds_ne (by decide),by simp[hsz],R0,Zt,⟨rawInt L,by simp⟩,.inl (hs _ (Heap.get?_none_of_le (jL qm.1.symm))),λb o hb nx=>?_⟩
 have hbe:b≠e:=λq=>nx (.inl q)
 have hb':=hk b o hb nx
 have keep:∀o',gg.get? b=some o'->((gg.push oT).update e (Obj.mapFields (·.setIfInBounds 1 (Value.ref gg.objs.size)))).get? b=some o':=λo' hb=>by
  rw[Bs _ _ (Ne.symm hbe)]
  exact s9 _ hb
 refine bV (qm.2.2 b o hb') λsl hsl=>?_
 exact⟨λhm=>keep _ ((qm.2.1 b hm).trans hb'),sl,keep _ hsl⟩
def Al{T:Addr}{oT:Obj}{ts:Array Value}{f v:Value}{fs:List Addr}{h:Heap}(he:h.get? e=some oe)(hd:oe.data=.fields vs)(h1:vs[1]? =some (.ref T))(hTe:T≠e)(hT:h.get? T=some oT)(Zt:oT.data=.fields ts)(h3:ts[3]? =some f):lZ fs e oe vs h (h.update T (Obj.mapFields (·.setIfInBounds 3 v))):=by
 have hz:=(Bp.mp h3).1
 refine⟨oe,vs,T,_,_,(Bs _ _ hTe).trans he,rfl,rfl,hd,rfl,h1,Heap.get?_update_self _ hT (Bq (Obj.data_mapFields Zt _)),Obj.data_mapFields Zt _,⟨v,by rw[Array.getElem?_setIfInBounds_self_of_lt hz]⟩,.inr h1,λb o hb nx=>?_⟩
 have hb':(h.update T (Obj.mapFields (·.setIfInBounds 3 v))).get? b=some o:=(Bs _ _ λ(q:T=b)=>nx (.inr (q▸h1))).trans hb
 exact⟨λ_=>hb',o.slots,hb'⟩
def C0(ZF:A.frames=some (fe::outer))(hl:s.heap.FunFrames base (fe::outer))(hfe:fe.frame=some L)(hf:env.frame=some L)(hx:Ge e oe vs s.heap)
  (h:∀h',lZ ((fe::outer).filterMap (·.frame)) e oe vs s.heap h'->Q () {s with heap:=h'}):wpAny M A (noteFrame (.ref e) env) Q E s:=by
 refine nJ hx λhe hd tr=>?_
 unfold noteFrame
 simp only [hf]
 refine bX ?_
 refine tr.elim (λh1=>wpAny_field he hd h1 ?_) λtr=>?_
 ·rw[if_neg (by decide)]
  exact qs ZF hl hfe hf he hd (Bp.mp h1).1 (λ_ h=>h) (λ_ _ h _=>h) h
 ·obtain⟨T,oT,ts,f,h1,hTe,hT,Zt,h3⟩:=tr
  refine wpAny_field he hd h1 ?_
  rw[if_pos (show(Value.ref T != Value.none)=true from by simp)]
  refine bX (wpAny_field hT Zt h3 ?_)
  by_cases hh:(f == rawInt L)=true
  ·rw[if_pos hh]
   exact dF (h s.heap ⟨oe,vs,T,oT,ts,he,rfl,rfl,hd,rfl,h1,hT,Zt,⟨f,h3⟩,.inr h1,λb o hb _=>⟨λ_=>hb,o.slots,hb⟩⟩)
  ·rw[if_neg hh]
   refine bX (wpAny_setField hT Zt (Bp.mp h3).1 ?_)
   have other:∀b,b≠T->(s.heap.update T (Obj.mapFields (·.setIfInBounds 3 Value.none))).get? b=s.heap.get? b:=λb hb=>Bs _ _ (Ne.symm hb)
   refine qs ZF (hl.of_keeps λb o hb hnf=>⟨o,(other b λq=>by rw[q,hT] at hb;obtain rfl:=oI hb;exact hnf ts Zt).trans hb,rfl⟩) hfe hf ((other e (Ne.symm hTe)).trans he) hd (Bp.mp h1).1 (λb hb=>?_) (λb o hb nx=>(other b λq=>nx (.inr (q▸h1))).trans hb) h
   by_cases q:b=T
   ·rw[q,Heap.get?_update_self _ hT (Bq (Obj.data_mapFields Zt _))] at hb;exact oS hb
   ·rw[<-other b q];exact hb
def wE{fr:Option Addr}{fs:List Addr}(hx:Ge e oe vs s.heap)(h0:vs[1]? =some .none->Q () s)(h:∀h',lZ fs e oe vs s.heap h'->Q () {s with heap:=h'}):wpAny M A (setFlight (.ref e) fr) Q E s:=by
 refine nJ hx λhe hd tr=>?_
 unfold setFlight
 refine bX ?_
 refine tr.elim (λh1=>wpAny_field he hd h1 ?_) λtr=>?_
 ·rw[if_neg (by decide)]
  exact dF (h0 h1)
 ·obtain⟨T,oT,ts,f,h1,hTe,hT,Zt,h3⟩:=tr
  refine wpAny_field he hd h1 ?_
  rw[if_pos (show(Value.ref T != Value.none)=true from by simp)]
  exact wpAny_setField hT Zt (Bp.mp h3).1 (h _ (Al he hd h1 hTe hT Zt h3))
end
end
section
variable{c:Cx}{p q:Pt}{kx:Nat->Sy->Bool}{names:cu}{n:Nat}{σ:Sg}
abbrev LA(fs:List Addr)(h h':Heap):Prop:=Tu fs (λ_=>False) h h'
structure Gb(a:Act c)(p:Pt)(m:Str->Option Value)(h G:Heap)(own:fh):Prop where
 of:∀b o,G.get? b=some o->h.get? b=some o
 size:G.objs.size=h.objs.size
 st:a.base.StaysIn G
 ff:G.FunFrames a.base a.fl
 ow:∀z∈own++(a.X++p.I),h.get? z.1=some z.2/\G.get? z.1=none
 below:LA (jy a.outer) a.h₀ G
 back:∀(X':fh) (q:Pt) H' h' j_,LA (jy a.fl) G h'->(∀z∈j_++(X'++q.I),h'.get? z.1=some z.2/\G.get? z.1=none)->((j_++(X'++q.I)).map (·.1)).Nodup->RH c q 0 H' j_->q.ρ.length=H'.length->St {a with X:=X'} q m H' h'
def Act.fs(a:Act c){b:Addr}(h:b∈jy a.fl):b=a.env.locals\/b∈jy a.outer:=by
 refine a.hfl.elim (λe=>?_) λe=>.inr (e▸h)
 rw[e.1] at h
 refine aH (List.mem_filterMap.mp h) λenv he hf=>?_
 exact(dL.mp he).elim (λq=>.inl (by rw[q,e.2] at hf;exact(j1 hf).symm)) λq=>.inr (List.mem_filterMap.mpr ⟨env,q,hf⟩)
def St.ground{a:Act c}{m H h}(S:St a p m H h):∃G own,RH c p 0 H own/\p.ρ.length=H.length/\((own++(a.X++p.I)).map (·.1)).Nodup/\Gb a p m h G own:=by
 obtain⟨g,own,tn,F,N,nd,rh,len⟩:=S
 have nm:∀b o,g.get? b=some o->b∉(own++(a.X++p.I)).map (·.1):=λb o e q=>by
  refine aH (fw.mp q) λz hz ez=>?_
  rw[<-ez,(N z hz).2.2] at e;exact oN e
 have sg:g.StaysIn (hideAll h ((own++(a.X++p.I)).map (·.1))):=λb o e=>hideAll_get _ (F.keep b o e) (nm b o e)
 refine BF F.ns λoL es ep hL hLd hLk hLf=>?_
 have hLg:=hideAll_get ((own++(a.X++p.I)).map (·.1)) hL λq=>(fw.mp q).elim λz hz=>(N z hz.1).2.1 hz.2
 have gL:=kts_self F
 have ffg:g.FunFrames a.base a.outer:=a.ff.of_keeps λb o e _=>(tn.up e).elim λsl h=>⟨_,h,rfl⟩
 have ffG:(hideAll h ((own++(a.X++p.I)).map (·.1))).FunFrames a.base a.outer:=ffg.of_keeps λb o e _=>⟨o,sg b o e,rfl⟩
 refine⟨hideAll h ((own++(a.X++p.I)).map (·.1)),own,rh,len,nd,λb o=>of_hideAll _,hideAll_size _ _,λb o e=>sg b o (a.Zz tn b o e),?_,λz hz=>⟨(N z hz).1,hideAll_none _ (vA hz)⟩,λb o e _=>?_,λX' q H' h' j_ k ow nd' rh' Zl=>?_⟩
 ·refine a.hfl.elim (λe=>?_) λe=>by rw[e];exact ffG
  rw[e.1]
  exact⟨by rw[a.hk];decide,⟨_,oL,e.2,kts_none (a.Zz tn) gL,hLg,λvs q=>by rw[hLd] at q;exact Px Data.ctorIdx q rfl⟩,ffG⟩
 ·refine bV (tn.up e) λsl hs=>?_
  exact⟨λhm=>sg b o (tn.other b o e hm),sl,sg b _ hs⟩
 ·have mem:∀b o,g.get? b=some o->b∈jy a.fl->b∈jy a.outer:=λb o e hm=>(a.fs hm).elim (λq=>by rw[q,gL] at e;exact oN e) id
  refine bS (kts_turn_at (fs:=jy a.outer) (g:=g) (h:=h') (λb hb=>(ffg.mem hb).2.elim λo h=>⟨o,h.1⟩) (λb o e nb=>(k b o (sg b o e) id).1 λhm=>nb (mem b o e hm)) λb o e _=>(k b o (sg b o e) id).2) λT of'=>?_
  refine bV ((k _ oL hLg id).2) λsl hs=>?_
  exact⟨_,j_,tn.trans T,⟨⟨_,es,ep,hs,hLd,hLk,hLf⟩,of',T.size▸F.above⟩,λz hz=>⟨(ow z hz).1,λe=>(by have:=(ow z hz).2;rw[e,hLg] at this;exact oS this),T.none_ _ (kts_none sg (ow z hz).2)⟩,nd',rh',Zl⟩
def IU{ad:Addr}{oe:Obj}{vs:Array Value}{own x dl rest:fh}(pm:own.Perm (x++rest))(nd:(own.map (·.1)).Nodup)(hx:(vs[1]? =some .none/\x=(ad,oe)::dl)\/∃T oT,vs[1]? =some (.ref T)/\x=(ad,oe)::(T,oT)::dl):
  (∀z∈dl++rest,z∈own/\¬(z.1=ad\/vs[1]? =some (.ref z.1)))/\(((ad,oe)::(dl++rest)).map (·.1)).Nodup:=by
 have n2:=(pm.map (·.1)).nodup_iff.mp nd
 refine hx.elim (λh=>?_) λh=>?_
 ·rw[h.2] at n2 pm
  exact⟨λz hz=>⟨pm.mem_iff.mpr (.tail _ hz),λe=>e.elim (λe=>(fH.mp n2).1 (e▸vA (f:=(·.1)) hz)) λe=>(by rw[h.1] at e;cases e)⟩,n2⟩
 ·refine iR h λT oT h1 h2=>?_
  rw[h2] at n2 pm
  have n3:((T,oT)::(ad,oe)::(dl++rest)).map (·.1) |>.Nodup:=((List.Perm.map (·.1) (List.Perm.swap (T,oT) (ad,oe) (dl++rest))).nodup_iff).mp n2
  have n4:=fH.mp n3
  exact⟨λz hz=>⟨pm.mem_iff.mpr (.tail _ (.tail _ hz)),λe=>e.elim (λe=>(fH.mp n4.2).1 (e▸vA (f:=(·.1)) hz)) λe=>(by rw[h1] at e;obtain rfl:=nF (oI e);exact n4.1 (.tail _ (vA (f:=(·.1)) hz)))⟩,n4.2⟩
def tC{α:Type}{H:List α}{j:Nat}{o:α}(hH:H[j]? =some o):H.set j o=H:=by
 refine bV (oD hH) λhj e=>?_
 rw[<-e];exact List.set_getElem_self hj
theorem aK.exc{a:Act c}{m Y s j e}(S:aK a q m Y s)(he:RV c q (.ref j) e)(hx:gX j Y.H):
  ∃ad oe vs,e=.ref ad/\Ge ad oe vs s.heap/\s.heap.FunFrames a.base a.fl/\∀h',lZ (jy a.fl) ad oe vs s.heap h'->aK a q m Y {s with heap:=h'}:=by
 refine xE hx λC l hj=>?_
 refine Gs S.st.ground λG own rh len nd gr=>?_
 refine iR he.inv λad d ee g_=>?_
 refine rh.split hj λpre x post eo P=>?_
 have e0:q.ρ[0+j]? =some (ad,d):=(eM j).symm▸g_
 refine(eF.gt P.1 e0).casesOn λes oe vs dl hR hc hd h0 ZW hx=>?_
 have pm:(own++(a.X++q.I)).Perm (x++(pre++(post++(a.X++q.I)))):=by rw[eo];simp only [gK];exact sZ ..
 have mx:∀z∈x,z∈own++(a.X++q.I):=λz hz=>pm.mem_iff.mpr (j5 _ hz)
 refine bS (IU pm nd (hx.imp_right λh=>h.elim λT h=>h.elim λoT h=>h.elim λts h=>⟨T,oT,h.1,h.2.2.2⟩)) λk1 k2=>?_
 have m0:(ad,oe)∈own++(a.X++q.I):=mx _ (hx.elim (λh=>by rw[h.2];exact .head _) λh=>h.elim λT h=>h.elim λoT h=>h.elim λts h=>by rw[h.2.2.2];exact .head _)
 have g0:=(gr.ow _ m0).1
 have htr:vs[1]? =some .none\/∃T oT ts f,vs[1]? =some (.ref T)/\T≠ad/\s.heap.get? T=some oT/\oT.data=.fields ts/\ts[3]? =some f:=hx.imp (λh=>h.1) λh=>h.elim λT h=>h.elim λoT h=>h.elim λts h=>h.2.2.1.elim λf hf=>by
  have gT:=(gr.ow (T,oT) (mx _ (by rw[h.2.2.2];exact .tail _ (.head _)))).1
  refine⟨T,oT,ts,f,h.1,λe=>?_,gT,h.2.1,hf⟩
  have n2:=(pm.map (·.1)).nodup_iff.mp nd
  rw[h.2.2.2,e] at n2
  exact(fH.mp n2).1 (.head _)
 have bad:∀b,(b=ad\/vs[1]? =some (.ref b))->G.get? b=none:=λb hb=>hb.elim (λe=>e▸(gr.ow _ m0).2) λe=>hx.elim (λh=>by rw[h.1] at e;cases e) λh=>h.elim λT h=>h.elim λoT h=>h.elim λts h=>by
  rw[h.1] at e;obtain rfl:=Eq.symm (nF (oI e))
  exact(gr.ow (b,oT) (mx _ (by rw[h.2.2.2];exact .tail _ (.head _)))).2
 refine⟨ad,oe,vs,ee,⟨g0,hd,htr⟩,gr.ff.of_keeps λb o e _=>⟨o,gr.of b o e,rfl⟩,λh' tr=>⟨?_,S.le,S.cv,S.pc,S.ge,S.os⟩⟩
 refine tr.casesOn λYE Zp T oT ts t1 t2 t3 t4 t5 t6 t7 t8 t9 t10 kp=>?_
 have nf:∀{b},G.get? b=none->b∉jy a.fl:=λ{b} hn hm=>by refine aH ((gr.ff.mem hm).2) λo ho _=>?_;rw[hn] at ho;exact oN ho
 have rest:∀z∈dl++(pre++(post++(a.X++q.I))),h'.get? z.1=some z.2/\G.get? z.1=none:=λz hz=>by
  have z1:=gr.ow z (k1 z hz).1
  exact⟨(kp z.1 z.2 z1.1 (k1 z hz).2).1 (nf z1.2),z1.2⟩
 have hT0:G.get? T=none:=t10.elim (kts_none gr.of) λe=>bad T (.inr e)
 have hTn:∀z∈dl++(pre++(post++(a.X++q.I))),z.1≠T:=λz hz e=>t10.elim (λh=>by rw[<-e,(gr.ow z (k1 z hz).1).1] at h;exact oS h) λh=>(k1 z hz).2 (.inr (e▸h))
 have hTa:T≠ad:=λe=>t10.elim (λh=>by rw[e,g0] at h;exact oS h) λh=>htr.elim (λh'=>by rw[h] at h';cases h') λh'=>h'.elim λT' h'=>h'.elim λ_ h'=>h'.elim λ_ h'=>h'.elim λ_ h'=>by
  rw[h] at h'
  exact h'.2.1 (by have:=h'.1;obtain rfl:=nF (oI this);exact e)
 have Z4:((pre++(((ad,YE)::(T,oT)::dl)++post))++(a.X++q.I)).Perm ((T,oT)::(ad,YE)::(dl++(pre++(post++(a.X++q.I))))):=by
  simp only [gK]
  exact(sZ pre ((ad,YE)::(T,oT)::dl) _).trans (List.Perm.swap _ _ _)
 refine gr.back a.X q Y.H h' (pre++(((ad,YE)::(T,oT)::dl)++post)) (λb o e _=>?_) (λz hz=>?_) (aY ?_ Z4) ?_ len
 ·exact kp b o (gr.of b o e) λhb=>by rw[bad b hb] at e;exact oN e
 ·exact(dL.mp (Z4.mem_iff.mp hz)).elim (λe=>e▸⟨t7,hT0⟩) λhz=>(dL.mp hz).elim (λe=>e▸⟨t1,(gr.ow _ m0).2⟩) (rest z)
 ·exact fH.mpr ⟨λhm=>(dL.mp hm).elim hTa λhm=>(fw.mp hm).elim λz hz=>hTn z hz.1 hz.2,k2⟩
 ·have R:=P.2 q (Le.refl _) (.exc C l) ((ad,YE)::(T,oT)::dl) ((eM j).symm▸⟨ad,d,g_,es,YE,Zp,dl,hR,t2.trans hc,t4,by rw[t5];exact h0,by rw[t3];exact ZW,.inr ⟨T,oT,ts,t6,t8,t9,rfl⟩⟩)
  rwa [tC hj] at R
section
variable{a:Act c}{M:Model}{A:Around}{m:Str->Option Value}{Y:Sy}{s:Shared}{j:Nat}{e:Value}{E:Value->Shared->Prop}{Q:Unit->Shared->Prop}
def aK.note(S:aK a q m Y s)(hA:A.frames=some a.fl)(D:Fd a)(he:RV c q (.ref j) e)(hx:gX j Y.H)
  (K:∀h',aK a q m Y {s with heap:=h'}->(∃ad oe vs T,e=.ref ad/\h'.get? ad=some oe/\oe.data=.fields vs/\vs[1]? =some (.ref T))->Q () {s with heap:=h'}):wpAny M A (noteFrame e a.env) Q E s:=by
 refine BF (S.exc he hx) λad oe vs ee hE hF k=>?_
 rw[ee]
 refine C0 (by rw[hA,D.fl]) (D.fl▸hF) D.hfe D.hf hE λh' tr=>K h' (k h' (by rw[D.fl];exact tr)) ?_
 refine tr.casesOn λYE Zp T oT ts t1 t2 t3 t4 t5 t6 _ _ _ _ _=>?_
 exact⟨ad,YE,Zp,T,ee,t1,t4,t6⟩
def aK.YG(S:aK a q m Y s)(he:RV c q (.ref j) e)(hx:gX j Y.H)(fr:Option Addr)(K:∀h',aK a q m Y {s with heap:=h'}->Q () {s with heap:=h'}):wpAny M A (setFlight e fr) Q E s:=by
 refine BF (S.exc he hx) λad oe vs ee hE hF k=>?_
 rw[ee]
 exact wE hE (λ_=>K _ S) λh' tr=>K h' (k h' tr)
def aK.leave(S:aK a q m Y s)(hA:A.frames=some a.fl)(D:Fd a)(he:RV c q (.ref j) e)(hx:gX j Y.H)(K:∀h',aK a q m Y {s with heap:=h'}->Q () {s with heap:=h'}):wpAny M A (leaving a.env e) Q E s:=by
 unfold leaving
 exact bX (S.note hA D he hx λh' S' _=>S'.YG he hx _ λh' S'=>K h' S')
def aK.loop{E':Value->Shared->Prop}(S:aK a q m Y s)(hA:A.frames=some a.fl)(D:Fd a)(he:RV c q (.ref j) e)(hx:gX j Y.H)(K:∀h',aK a q m Y {s with heap:=h'}->E' e {s with heap:=h'}):notedBy M A a.env (λe s'=>cameBackBy M A a.env E' e s') e s:=by
 unfold notedBy cameBackBy
 refine S.note hA D he hx λh' S' t=>?_
 refine li t λad oe vs T ee t1 t2 t3=>?_
 rw[ee] at he K ⊢
 refine bX (wpAny_field t1 t2 t3 ?_)
 rw[if_neg (show ¬((Value.ref T == Value.none)=true) from by simp)]
 exact S'.YG he hx _ λh' S'=>K h' S'
end
end
section
variable{c:Cx}{p q:Pt}{kx:Nat->Sy->Bool}{names:cu}{n:Nat}{σ:Sg}
inductive LD(K:Frag)(f:Addr)(name qual:Str)(as:List Arg)(body:List Stmt)(scope:Scope):Prop
 | mk (oc od osl doc pm an cdv ct) (h:K.lookup f=some ⟨oc,od,.func (fnOf name qual ⟨[],as,none,[],[],none,[]⟩ body scope .none .none doc pm an cdv ct),osl⟩) (g:codeIn K cdv qual=true):LD K f name qual as body scope
structure A5(K:Frag)(f:Addr)(name qual:Str)(as:List Arg)(body:List Stmt)(scope:Scope):Prop where
 at_:LD K f name qual as body scope
 co:scope.isCoroutine=false
 gen:scope.isGenerator=false
 kind:scope.kind=.function
 nodup:(as.map (·.arg)).Nodup
 loc:∀x∈as.map (·.arg),scope.names.lookup x=some .local\/scope.names.lookup x=some .cell
 cnd:((cellsFrom 0 scope.names []).map (·.1)).Nodup
def vc(ns:List (Str×NameKind))(as:List Arg):List V->Option (cL×List (Nat×V)):=List.rec (λvs=>List.rec (some ([],[])) (λ_ _ _=>.none) vs) (λa _ g vs=>List.rec .none (λv r _=>(kd (code a.arg) ns).bind λk=>(g r).map λz=>Bool.rec (z.1,(code a.arg,v)::z.2) ((code a.arg,v)::z.1,z.2) (jD k)) vs) as
def AR{ko:Str->Option NameKind}{y:Str}(l:List (Str×Value)):∀{m:Str->Option Value},y∉l.map (·.1)->bindL ko l m y=m y:=by
 induction l with
 | nil=>exact λ_=>rfl
 | cons x l ih=>
  intro m h
  obtain⟨x,v⟩:=x
  rw[jr,dL,not_or] at h
  show bindL ko l (if ko x=some .local then λy=>if y=x then some v else m y else m) y=m y
  rw[ih h.2]
  by_cases e:ko x=some .local
  ·rw[if_pos e];exact if_neg h.1
  ·rw[if_neg e]
def AS{ko:Str->Option NameKind}{y:Str}(l:List (Str×Value)):∀{m:Str->Option Value},y∉l.map (·.1)->bindC ko l m y=m y:=by
 induction l with
 | nil=>exact λ_=>rfl
 | cons x l ih=>
  intro m h
  obtain⟨x,v⟩:=x
  rw[jr,dL,not_or] at h
  show bindC ko l (if ko x=some .local then m else λy=>if y=x then some v else m y) y=m y
  rw[ih h.2]
  by_cases e:ko x=some .local
  ·rw[if_pos e]
  ·rw[if_neg e];exact if_neg h.1
def Bu{x:Str}{as:List Arg}{us:List Value}(h:x∈(((as.map (·.arg)).zip us).map (·.1))):x∈as.map (·.arg):=(fw.mp h).elim λz hz=>hz.2▸(List.of_mem_zip hz.1).1
def FG{ns:List (Str×NameKind)}(as:List Arg):∀{vs:List V} {us:List Value} {z} {m m':Str->Option Value},vc ns as vs=some z->bG c p vs us->(as.map (·.arg)).Nodup->
  us.length=as.length/\RL c p z.1 (bindL (ns.lookup ·) ((as.map (·.arg)).zip us) m)/\RL c p z.2 (bindC (ns.lookup ·) ((as.map (·.arg)).zip us) m')/\∀x v,look (code x) z.2=some v->x∈as.map (·.arg)/\ns.lookup x≠some .local:=by
 induction as with
 | nil=>
  intro vs us z m m' h r _
  rcases vs with _|⟨_,_⟩
  ·obtain rfl:=oI h;rw[show us=[] from r.inv];exact⟨rfl,(λx v h=>aj h:RL c p [] _),(λx v h=>aj h:RL c p [] _),λx v h=>aj h⟩
  ·exact oN h
 | cons a as ih=>
  intro vs us z m m' h r nd
  rcases vs with _|⟨v,vs⟩
  ·exact oN h
  ·refine eC r.inv λu Za e hu r=>?_
   refine aH (cU h) λk hk h=>?_
   refine aH (fp h) λy hy h=>?_
   have nd:=fH.mp nd
   have hk:ns.lookup a.arg=some k:=(mj a.arg ns).symm.trans hk
   rw[e,<-h]
   show _/\RL c p _ (bindL (ns.lookup ·) ((as.map (·.arg)).zip Za) (if ns.lookup a.arg=some .local then λy=>if y=a.arg then some u else m y else m))/\RL c p _ (bindC (ns.lookup ·) ((as.map (·.arg)).zip Za) (if ns.lookup a.arg=some .local then m' else λy=>if y=a.arg then some u else m' y))/\_
   rcases hl:jD k with _|_
   ·have hn:¬ns.lookup a.arg=some .local:=λe=>by rw[hk] at e;obtain rfl:=oI e;exact bF hl
    rw[if_neg hn,if_neg hn]
    refine Gk (ih (m:=m) (m':=λy=>if y=a.arg then some u else m' y) hy r nd.2) λi1 i2 i3 i4=>?_
    refine⟨bl (· +1) i1,i2,λx w e=>?_,λx w e=>?_⟩
    ·rw[aX] at e
     by_cases q:a.arg=x
     ·rw[if_pos (bl code q)] at e
      obtain rfl:=oI e
      exact⟨u,by rw[AS _ λhm=>nd.1 (show a.arg∈_ from q.symm▸Bu hm)];exact if_pos q.symm,hu⟩
     ·rw[if_neg (fN q)] at e;exact i3 x w e
    ·rw[aX] at e
     by_cases q:a.arg=x
     ·exact⟨q▸.head _,q▸hn⟩
     ·rw[if_neg (fN q)] at e;exact⟨.tail _ (i4 x w e).1,(i4 x w e).2⟩
   ·rw[gf hl] at hk
    rw[if_pos hk,if_pos hk]
    refine Gk (ih (m:=λy=>if y=a.arg then some u else m y) (m':=m') hy r nd.2) λi1 i2 i3 i4=>?_
    refine⟨bl (· +1) i1,λx w e=>?_,i3,λx w e=>⟨.tail _ (i4 x w e).1,(i4 x w e).2⟩⟩
    rw[aX] at e
    by_cases q:a.arg=x
    ·rw[if_pos (bl code q)] at e
     obtain rfl:=oI e
     exact⟨u,by rw[AR _ λhm=>nd.1 (show a.arg∈_ from q.symm▸Bu hm)];exact if_pos q.symm,hu⟩
    ·rw[if_neg (fN q)] at e;exact i2 x w e
def qw{cm:Str->Option Value}{cs:List (Str×Addr)}{cells:fh}(x:CellsAre cm cs cells):cells.map (·.1)=cs.map (·.2)/\∀n a,(n,a)∈cs->∃o,(a,o)∈cells/\o.data=.cell (cm n):=by
 induction x with
 | nil=>exact⟨rfl,λn a h=>nomatch h⟩
 | cons h r ih=>exact⟨bl (_::·) ih.1,λn a hm=>(dL.mp hm).elim (λe=>by refine bS (fI e) λJ_ X_=>?_;obtain rfl:=J_;obtain rfl:=X_;exact⟨_,.head _,h⟩) λhm=>(ih.2 n a hm).elim λo ho=>⟨o,.tail _ ho.1,ho.2⟩⟩
def wg{β:Type}{x:Str}{b:β}(l:List (Str×β)):l.lookup x=some b->(x,b)∈l:=by
 induction l with
 | nil=>exact aj
 | cons y l ih=>
  intro h
  obtain⟨y,d⟩:=y
  rw[vy] at h
  by_cases e:(x == y)=true
  ·rw[e] at h;obtain rfl:=Eq.symm (oI h);rw[cS.mp e];exact .head _
  ·rw[Bool.eq_false_iff.mpr e] at h;exact .tail _ (ih h)
theorem iF:∀{ns:List Str} {us:List Value},us.length=ns.length->∀n∈ns,((ns.zip us).lookup n).isSome=true
 | [],_,_,_,h=>nomatch h
 | x::ns,[],e,_,_=>by simp at e
 | x::ns,u::us,e,n,h=>by
  rw[List.zip_cons_cons,vy]
  by_cases q:n=x
  ·subst q;rw[beq_self_eq_true];rfl
  ·rw[show(n == x)=false from pG.mpr q]
   exact iF (by simpa using e) n ((dL.mp h).resolve_left q)
theorem kS{α β:Type}{f g:α->Option β}:∀{l:List α},(∀x∈l,f x=g x)->l.filterMap f=l.filterMap g
 | [],_=>rfl
 | x::l,h=>by
  rw[Bm,Bm,h x (.head _),kS λy hy=>h y (.tail _ hy)]
theorem jE:∀{ns:List Str} {us:List Value},us.length=ns.length->ns.Nodup->(ns.filterMap λn=>((ns.zip us).lookup n).map (n,·))=ns.zip us
 | [],[],_,_=>rfl
 | [],_::_,e,_=>by simp at e
 | x::ns,[],e,_=>by simp at e
 | x::ns,u::us,e,h=>by
  rw[fH] at h
  have ih:=jE (ns:=ns) (us:=us) (by simpa using e) h.2
  have hh:(ns.filterMap λn=>(((x,u)::ns.zip us).lookup n).map (n,·))=ns.zip us:=by
   rw[<-ih]
   refine kS λn hn=>?_
   have:(n == x)=false:=pG.mpr λq=>h.1 (q▸hn)
   rw[vy,this,ih]
  rw[List.zip_cons_cons,Bm,hh]
  simp
def Vw{α β γ:Type}{l:List α}{b:β}{f:α->β->Sem (ForInStep β)}{g:β->Sem γ}{v:Sem γ}(e:l=[])(h:g b=v):(forIn l b f >>= g)=v:=by subst e;exact h
def Va{α:Type _}{c d:Bool}{x y z v:α}(h1:c=false)(h2:d=false)(h3:z=v):(if c=true then x else if d=true then y else z)=v:=by subst h1 h2;exact h3
def pb{s:Shared}{fd:FuncData}{as:List Arg}{us:List Value}(hp:fd.params=⟨[],as,none,[],[],none,[]⟩)(hd:fd.defaults=.none)(hl:us.length=as.length)(hn:(as.map (·.arg)).Nodup):
  BindsTo s fd ⟨us,[]⟩ ((as.map (·.arg)).zip us):=by
 have Ze:us.length=(as.map (·.arg)).length:=hl.trans (gE ..).symm
 obtain⟨name,qn,params,body,scope,gl,dv,kwd,pm,ann,cd,doc,x⟩:=fd
 dsimp only at hp hd
 subst hp hd
 refine BindsTo.of_eq ?_
 unfold bindArgs
 have e1:(decide (us.length > (as.map (·.arg)).length) && true)=false:=by rw[jZ (Nat.not_lt.mpr (jL Ze))];rfl
 have e2:(!(List.filter (λn=>(List.lookup n ((as.map (·.arg)).zip us)).isNone) (List.take ((as.map (·.arg)).length - (List.drop (0 - (as.map (·.arg)).length) ([]:List Value)).length) (as.map (·.arg)))).isEmpty)=false:=by
  rw[List.drop_nil,show(as.map (·.arg)).length - ([]:List Value).length=(as.map (·.arg)).length from rfl,List.take_length,List.filter_eq_nil_iff.mpr λn h=>by
   have:=iF Ze n h
   rw[Option.isNone_iff_eq_none];intro e;rw[e] at this;cases this]
  rfl
 refine Va e1 e2 ?_
 refine Vw ?_ ?_
 ·show List.zip _ (List.drop _ ([]:List Value))=[]
  rw[List.drop_nil,List.zip_nil_right]
 have e3:List.filterMap (λn=>(((as.map (·.arg)).zip us).lookup n).map (n,·)) (as.map (·.arg)++[])=(as.map (·.arg)).zip us:=by rw[gN];exact jE Ze hn
 exact bl (pure (f:=Sem)) e3
def yY{a:Act c}{A:Around}{m Y s f name qual as body scope us vs z}{R:Result->Shared->Prop}(FA:A5 c.K f name qual as body scope)(hA:A.frames=some a.fl)(ZT:A.depth < recursionLimit)(S:aK a p m Y s)(hv:bG c p vs us)(hz:vc scope.names as vs=some z)
  (h:∀(a':Act c) aJ,a'.env.scope=scope->a'.cv=z.2->Fd a'->(A.deeper a'.env).frames=some a'.fl->aN a' p z.1 Y aJ->(∀q m' Y' s',aK a' q m' Y' s'->Le p q/\aK a q m Y' s')->
   (∀q m' Y' s' j e,aK a' q m' Y' s'->RV c q (.ref j) e->gX j Y'.H->(∀h',Le p q->aK a q m Y' {s' with heap:=h'}->R (.error e) {s' with heap:=h'})->wpAny (Mo c) (A.deeper a'.env) (leaving a'.env e) (λ_ YQ=>R (.error e) YQ) (λe' YQ=>R (.error e') YQ) s')->
   wpAny (Mo c) (A.deeper a'.env) (execs body a'.env) (λfl s'=>R (.ok (.ret (match fl with| .ret v=>v|_=>.none))) s') (λe s'=>wpAny (Mo c) (A.deeper a'.env) (leaving a'.env e) (λ_ YQ=>R (.error e) YQ) (λe' YQ=>R (.error e') YQ) s') aJ):codeAny (Mo c) A (.call (.ref f) ⟨us,[]⟩) R s:=by
 refine FA.at_.casesOn λoc od osl doc pm an cdv ct ho hcd=>?_
 refine Gs S.st.ground λG own rh len nd gr=>?_
 have X:c.K.In s.heap:=(a.KX.keeps gr.st).keeps gr.of
 refine Gk (FG (m:=λ_=>none) (m':=λ_=>none) as hz hv FA.nodup) λhl b1 b2 b3=>?_
 refine codeAny_call_function ZT (X _ _ ho) rfl FA.co FA.gen rfl (codeRec_of X hcd) (pb rfl rfl hl FA.nodup _ _ _ _ ?_)
 refine wpAny_newFunctionEnv_cells FA.kind (λx hx=>(FA.loc x.1 (List.of_mem_zip hx).1).imp id λe=>⟨e,cellsFrom_some _ _ _ (.inl e)⟩) λah3 he s' x=>?_
 subst he
 refine⟨((a.NL.keeps gr.st).keeps gr.of).keeps x.toInCall.keep,codeAny_func ?_⟩
 refine xE x.toInCall.same λgg tk YO=>?_;obtain rfl:=YO
 have uB:=x.toInCall.keep
 refine aH (Cl.news (h₀:=s.heap) (fG _) λn cc hm=>⟨x.cell n cc (lookup_of_mem_nodup (cellsFrom_names scope.names 0 (s.heap.objs.size+1) [] [] rfl▸FA.cnd) hm),x.above n cc hm⟩) λcells NC CA=>?_
 refine bS (qw CA) λc1 c2=>?_
 have cnd:(cells.map (·.1)).Nodup:=by rw[c1];exact List.pairwise_map.mpr x.apart
 have pm:(own++((cells++a.X)++p.I)).Perm (cells++(own++(a.X++p.I))):=by rw[gK cells];exact sZ ..
 let a':Act c:={base:=a.base,h₀:=G,outer:=a.fl,env:=newEnv scope s.heap.objs.size mainGlobals (cellsFrom (s.heap.objs.size+1) scope.names []) (qual++ ".<locals>.") (some f) cdv none builtinsNs,fl:=_::a.fl,X:=cells++a.X,cv:=z.2,p₀:=p,gens:=a.gens,os:=a.os,KX:=a.KX,G:=a.G,Bn:=a.Bn,NL:=a.NL,st:=gr.st,ff:=gr.ff,hk:=FA.kind,hg:=rfl,hb:=rfl,hfl:=.inl ⟨rfl,rfl⟩}
 have mem:∀{q:Pt} {j_:fh} {z},z∈j_++(a.X++q.I)->z∈j_++(a'.X++q.I):=λ{q j_ z} hz=>(sY.mp hz).elim (j5 _) λhz=>j0 _ ((sY.mp hz).elim (λhz=>j5 _ (j0 _ hz)) (j0 _))
 have sub:∀{q:Pt} {j_:fh},((j_++(a'.X++q.I)).map (·.1)).Nodup->((j_++(a.X++q.I)).map (·.1)).Nodup:=λ{q j_} h=>h.sublist (((List.Sublist.refl j_).append ((List.sublist_append_right cells a.X).append (List.Sublist.refl q.I))).map _)
 have back:∀q m' Y' s',aK a' q m' Y' s'->Le p q/\aK a q m Y' s':=λq m' Y' s' S'=>by
  obtain⟨g',j_,T',F',N',nd',rh',Zl⟩:=S'.st
  refine⟨S'.le,⟨gr.back a.X q Y'.H _ j_ (λb o e _=>⟨λhm=>F'.keep b o (T'.other b o e hm),(T'.up e).elim λsl hs=>⟨sl,F'.keep _ _ hs⟩⟩) (λy hy=>⟨(N' y (mem hy)).1,?_⟩) (sub nd') rh' Zl,S.le.trans S'.le,eh S'.le S.cv,S'.pc,S'.ge,S'.os⟩⟩
  rcases e:G.get? y.1 with _|o
  ·rfl
  ·refine bV (T'.up e) λsl hs=>?_;rw[(N' y (mem hy)).2.2] at hs;exact oN hs
 refine h a' _ rfl rfl ⟨_,_,_,rfl,rfl,rfl⟩ (Around.frames_deeper hA) ⟨_,⟨⟨G,own,.refl,⟨x.toInCall.ns,λb o e=>uB b o (gr.of b o e),jL gr.size⟩,λy hy=>?_,?_,rh,len⟩,Le.refl p,λy v e=>?_,S.pc,S.ge,S.os⟩,b1⟩ back λq m' Y' s' j e S' he hx k=>S'.leave (Around.frames_deeper hA) ⟨_,_,_,rfl,rfl,rfl⟩ he hx λh' S''=>(back q m' Y' _ S'').elim λl S=>k h' l S
 ·refine(sY.mp (pm.mem_iff.mp hy)).elim (λhy=>⟨(NC y hy).1,(NC y hy).2.1,kts_none gr.of (NC y hy).2.2⟩) λhy=>⟨uB _ _ (gr.ow y hy).1,Nat.ne_of_lt (my (gr.ow y hy).1),(gr.ow y hy).2⟩
 ·refine aY ?_ pm
  rw[sX]
  refine zo.mpr ⟨cnd,nd,λb hb b' hb' e=>?_⟩
  refine aH (fw.mp hb) λy hy ey=>?_
  refine aH (fw.mp hb') λy' hy' ey'=>?_
  have:=(NC y hy).2.2
  rw[show y.1=y'.1 from ey.trans (e.trans ey'.symm),(gr.ow y' hy').1] at this
  exact oS this
 ·refine aH (b2 y v e) λu hu hR=>?_
  refine bS (b3 y v e) λk1 k2=>?_
  have hc:=(FA.loc y k1).resolve_left k2
  refine bV (Option.isSome_iff_exists.mp (cellsFrom_some (n:=s.heap.objs.size+1) (acc:=[]) scope.names (.inl hc))) λcc hcc=>?_
  refine aH (c2 y cc (wg _ hcc)) λo ho hd=>?_
  exact⟨cc,o,u,hcc,j5 _ ho,hd.trans (bl _ hu),hR⟩
inductive mT where
 | next
 | cont
 | brk
 | ret (v:V)
def RF(c:Cx)(p:Pt)(f:Flow):mT->Prop
 | .next=>f=.next
 | .cont=>f=.cont
 | .brk=>f=.brk
 | .ret v=>∃u,f=.ret u/\RV c p v u
abbrev KS:=mT->cL->Sy->Bool
abbrev CS:=cL->Sy->KS->Bool
def ms(a:Act c)(p:Pt)(k:KS)(G:Flow->Shared->Prop):Prop:=∀q f o loc Y s,Le p q->aN a q loc Y s->RF c q f o->k o loc Y=true->G f s
def ms.le{a:Act c}{k G}(P:ms a p k G)(l:Le p q):ms a q k G:=λ_ _ _ _ _ _ m=>P _ _ _ _ _ _ (l.trans m)
def ms.here{a:Act c}{k G loc Y s f o}(P:ms a p k G)(S:aN a p loc Y s)(h:RF c p f o)(e:k o loc Y=true):G f s:=P _ _ _ _ _ _ (Le.refl _) S h e
def T1(r:Rn kx c names n)(st:Stmt)(loc:cL)(Y:Sy)(k:KS):Prop:=∀p s G,aN r.toAct p loc Y s->ms r.toAct p k G->wpAny (Mo c) r.A (exec st r.env) G r.E s
def TS(r:Rn kx c names n)(b:List Stmt)(loc:cL)(Y:Sy)(k:KS):Prop:=∀p s G,aN r.toAct p loc Y s->ms r.toAct p k G->wpAny (Mo c) r.A (execs b r.env) G r.E s
def jK(kx:Nat->Sy->Bool)(c:Cx)(names:cu)(n:Nat)(st:Stmt)(f:CS):Prop:=∀(r:Rn kx c names n) loc Y k,f loc Y k=true->T1 r st loc Y k
def A3(kx:Nat->Sy->Bool)(c:Cx)(names:cu)(n:Nat)(b:List Stmt)(f:CS):Prop:=∀(r:Rn kx c names n) loc Y k,f loc Y k=true->TS r b loc Y k
def AD:CS:=λloc Y k=>k .next loc Y
def sA:A3 kx c names n [] AD:=λr loc Y k h p s G S P=>dF (P.here (o:=.next) S rfl h)
def pO(f g:CS):CS:=λloc Y k=>f loc Y λo loc Y=>mT.rec (g loc Y k) (k .cont loc Y) (k .brk loc Y) (λv=>k (.ret v) loc Y) o
def fO{st:Stmt}{b:List Stmt}{f g:CS}(hf:jK kx c names n st f)(hg:A3 kx c names n b g):A3 kx c names n (st::b) (pO f g):=λr loc Y k h p s G S P=>
 nH (hf r loc Y _ h p s _ S λq f o iX bn aJ l aC hF h=>by
  induction o using mT.casesOn with
  | next=>rw[show f=.next from hF];exact hg r iX bn k h q aJ G aC (P.le l)
  | cont=>rw[show f=.cont from hF];exact P q _ .cont _ _ _ l aC rfl h
  | brk=>rw[show f=.brk from hF];exact P q _ .brk _ _ _ l aC rfl h
  | ret v=>refine aH hF λu e hv=>?_;rw[e];exact P q _ (.ret v) _ _ _ l aC ⟨u,rfl,hv⟩ h)
def pP:CS:=λ_ _ _=>false
def aS{st:Stmt}:jK kx c names n st pP:=λ_ _ _ _ h=>nomatch h
def ST(f:CE):CS:=λloc Y k=>f loc Y λv Y=>k (.ret v) loc Y
def Jf{e:Expr}{pos:Pos}{f:CE}(hf:b6 kx c names n e f):jK kx c names n (.Return (some e) pos) (ST f):=λr loc Y k h p s G S P=>
 wpAny_Return_some (hf r loc Y _ h p s _ S λq u v bn aJ l aC hv h=>P q _ (.ret v) _ _ _ l aC ⟨u,rfl,hv⟩ h)
def K8:CS:=λloc Y k=>k (.ret .none) loc Y
def ET{pos:Pos}:jK kx c names n (.Return none pos) K8:=λr loc Y k h p s G S P=>wpAny_Return_none (P.here (o:=.ret .none) S ⟨_,rfl,.none⟩ h)
def EW{pos:Pos}:jK kx c names n (.Pass pos) AD:=λr loc Y k h p s G S P=>wpAny_Pass (P.here (o:=.next) S rfl h)
def Lg:CS:=λloc Y k=>k .cont loc Y
def E8{pos:Pos}:jK kx c names n (.Continue pos) Lg:=λr loc Y k h p s G S P=>wpAny_Continue (P.here (o:=.cont) S rfl h)
def S8:CS:=λloc Y k=>k .brk loc Y
def Jt{pos:Pos}:jK kx c names n (.Break pos) S8:=λr loc Y k h p s G S P=>wpAny_Break (P.here (o:=.brk) S rfl h)
def Ld(e:Expr)(f:CE):CS:=λloc Y k=>bb (pZ e) (f loc Y λ_ Y=>k .next loc Y)
def E3{e:Expr}{pos:Pos}{f:CE}(hf:b6 kx c names n e f):jK kx c names n (.Expr e pos) (Ld e f):=λr loc Y k h p s G S P=>ag h λhp h=>
 wpAny_Expr_any (hf r loc Y _ h p s _ S λq u v bn aJ l aC hv h=>P q _ .next _ _ _ l aC rfl h) (by unfold interactive;rw[r.hk];rfl) ((fz hp).swap _ _ _)
def aN.store{a:Act c}{A:Around}{E loc Y s x v u}{Q:Unit->Shared->Prop}(S:aN a p loc Y s)(hv:RV c p v u)(hl:a.env.scope.names.lookup x=some .local)(K:∀s',aN a p (pt (code x) v loc) Y s'->Q () s'):wpAny (Mo c) A (storeName a.env x u) Q E s:=by
 refine S.el λm g own tn F N hn hH hr le cv pc ge os rl=>?_
 exact wpAny_storeName_local hl F.ns (λh' Zs hs=>K _ ⟨_,⟨⟨g,own,tn,F.set Zs hs,N.set hs,hn,hH,hr⟩,le,cv,pc,ge,os⟩,by rw[iD];exact rl.set hv⟩) (by rw[a.hk];rfl)
def mJ(names:cu)(x:Str):Bool:=Option.rec false jD (kd (code x) names.1)
def fL{r:Rn kx c names n}{x:Str}(h:mJ names x=true):r.env.scope.names.lookup x=some .local:=by
 rw[r.hn,<-mj]
 unfold mJ at h
 rcases e:kd (code x) names.1 with _|k
 ·rw[e] at h;exact bT h
 ·rw[e] at h;rw[gf h]
def Lp(names:cu)(x:Str)(e:Expr)(f:CE):CS:=λloc Y k=>bb (pZ e) (bb (mJ names x) (f loc Y λv Y=>k .next (pt (code x) v loc) Y))
def hW{x:Str}{e:Expr}{pos' pos:Pos}{f:CE}(hf:b6 kx c names n e f):jK kx c names n (.Assign [.Name x pos'] e pos) (Lp names x e f):=λr loc Y k h p s G S P=>ag h λhp h=>ag h λhl h=>
 wpAny_Assign_Name (hf r loc Y _ h p s _ S λq u v bn aJ l aC hv h=>aC.store hv (fL hl) λs' S'=>P q _ .next _ _ _ l S' rfl h) ((fz hp).swap _ _ _)
def Lu(X:gx)(x:Str)(e:Expr)(f g:CE):CS:=λloc Y k=>bb (pZ e) (f loc Y λv Y=>g loc Y λo Y=>L7 X o x v (λY=>k .next loc Y) Y)
def Fw{X:gx}(C:bY c X){o:Expr}{x:Str}{e:Expr}{pos' pos:Pos}{f g:CE}(hf:b6 kx c names n e f)(hg:b6 kx c names n o g):jK kx c names n (.Assign [.Attribute o x pos'] e pos) (Lu X x e f g):=λr loc Y k h p s G S P=>ag h λhp h=>
 plainObj_wpAny_Assign_Attribute (hf r loc Y _ h p s _ S λq u v bn aJ l aC hv h=>hg r loc bn _ h q aJ _ aC λq' ou ov cW b8 bL aO ho h=>xQ C aO ho (hv.mono bL) h λY' s' S' h=>P q' _ .next _ _ _ (l.trans bL) S' rfl h) ((fz hp).swap _ _ _)
def pI{prog:Program}{w:World}{A:Around}{E:Value->Shared->Prop}{s:Shared}{l:Addr}{items:Array Value}{m:Nat}{k:Int}{t:Tok}{v:Value}{Q:Unit->Shared->Prop}(ho:s.heap.get? l=some {cls:=.type "list",data:=.seq items m})
  (h0:0<=k) (ae5:k < 2 ^ 63) (hn:k < items.size)
  (hQ:Q () {s with heap:=s.heap.update l (Obj.mapSeq (·.setIfInBounds k.toNat v))}):wpAny (model prog w) A (setItem (.ref l) (.int k t) v) Q E s:=by
 have hl:s.heap.IsList l items:=⟨_,ho,rfl,m,rfl⟩
 unfold setItem
 try with_reducible refine wpAny_holding ?_
 first|refine bX (dF ?_)|skip
 refine bX (wpAny_sequenceKey hl.typeIs (by decide) ?_)
 refine bX (wpAny_callSpecial?_slot (name:=Str.ofString "__setitem__") hl.typeIs slot_list_setitem
  (wpAny_call_entry slot_list_setitem hl.typeIs entry_list_setitem ?_ (args_list_setitem _ _ _)))
 show wpAny _ _ (Builtin.List.listSubscript? (.int k t) >>= _) _ _ s
 refine bX (wpAny_listSubscript_int (fitsIndex_of h0 ae5) ?_)
 clear ae5
 refine bV (Int.eq_ofNat_of_zero_le h0) λj YO=>?_;obtain rfl:=YO
 have hj:j < items.size:=by omega
 have hx':items[j]? =some items[j]:=Array.getElem?_eq_getElem hj
 show wpAny _ _ ((seqItemAt l j >>= λr=>pure (r.map (j,·))) >>= _) _ _ s
 refine bX (bX (wpAny_seqItemAt ho rfl (dF ?_)))
 rw[hx']
 show wpAny _ _ (setSeqItemAt l j v >>= _) _ _ s
 refine bX (wpAny_setSeqItemAt ho rfl ?_)
 first
  | exact bX (dF (dF ⟨.none,rfl,dF hQ⟩))
  | exact dF ⟨.none,rfl,dF hQ⟩
def GW{v:V}{u:Value}(r:RV c p v u)(l:List V):∀{us:List Value} {n:Nat},bG c p l us->bG c p (bW n v l) (us.set n u):=by
 induction l with
 | nil=>intro us n h;rw[show us=[] from h.inv];exact .nil
 | cons x l ih=>
  intro us n h
  refine eC h.inv λw Za e h1 h2=>?_
  rw[e]
  induction n using nC with
  | zero=>exact .cons r h2
  | succ n=>exact .cons h1 (ih h2)
def Kk(o i v:V)(k:Sy->Bool)(Y:Sy):Bool:=bb (Nat.beq o.tag 11) (ob (bh Y.H o.xn) λx=>
 oi (dw x) (λl=>KL i λm=>bb (Nat.blt m l.length) (k ⟨Y.pc,bW o.xn (.lst (bW m v l)) Y.H⟩)) (ob (lJ i) λkey=>Qm o.xn key v x k Y))
def Cf{ft:FT}(F:aI c.σ ft){r:Rn kx c names n}{loc Y s o i v k ou iu vu}{G:Unit->Shared->Prop}(S:aN r.toAct p loc Y s)(ho:RV c p o ou)(hi:RV c p i iu)(hv:RV c p v vu)(h:Kk o i v k Y=true)(P:∀Y' s',aN r.toAct p loc Y' s'->k Y'=true->G () s'):wpAny (Mo c) r.A (setItem ou iu vu) G r.E s:=
 ag h λe h=>ay h λx hx h=>by
  rw[V.is e] at ho
  refine bq h (λl el h=>oM h hi λm t ei hm h=>ag h λYF h=>?_) λ_ h=>ay h λkey q_ h=>GN F r.u11 S (eQ hx) ho q_ hi hv h P
  rw[bU el] at hx
  refine li (S.list (eQ hx) ho) λd vs nn dd eu g_ hg hl=>?_
  have YF:=fu YF
  have hlen:=hl.length
  rw[eu,ei]
  refine pI (items:=vs.toArray) hg (nI m) (by lia) (by rw[iJ];lia) ?_
  have q1:=PySem.IsL.update hg (λxs=>xs.setIfInBounds m vu)
  rw[show vs.toArray.setIfInBounds m vu=(vs.set m vu).toArray by simp,if_pos (by simp)] at q1
  exact S.one (o':=.lst (bW m v l)) (n:=s.toks) (eQ hx) g_ (λx R=>wa g_ x R) (Heap.SameBut.update ..) q1 ⟨d,dd,g_,_,_,GW hv l hl,rfl⟩ λS=>P _ _ S h
def Lr(e:Expr)(f g g':CE):CS:=λloc Y k=>bb (pZ e) (f loc Y λv Y=>g loc Y λo Y=>g' loc Y λi Y=>Kk o i v (λY=>k .next loc Y) Y)
def Fu{X:gx}(C:bY c X){o i e:Expr}{pos' pos:Pos}{f g g':CE}(hf:b6 kx c names n e f)(hg:b6 kx c names n o g)(Zf:b6 kx c names n i g'):jK kx c names n (.Assign [.Subscript o i pos'] e pos) (Lr e f g g'):=λr loc Y k h p s G S P=>ag h λhp h=>
 wpAny_Assign_Subscript (hf r loc Y _ h p s _ S λbP u v bn aJ bA aC hv h=>hg r loc bn _ h bP aJ _ aC λgu ou ov cW b8 bL aO ho h=>Zf r loc cW _ h gu b8 _ aO λCI iu iv xk B1 iq cK hi h=>
  Cf C.ft cK (ho.mono iq) hi (hv.mono (bL.trans iq)) h λY' s' S' h=>P CI _ .next _ _ _ ((bA.trans bL).trans iq) S' rfl h) ((fz hp).swap _ _ _)
def we(e:Expr):Option Str:=match e with
 | .Name x _=>some x
 | _=>.none
def jj{e:Expr}{x}(h:we e=some x):∃pos,e=.Name x pos:=by
 induction e using Expr.casesOn with
 | Name y pos=>obtain rfl:=Eq.symm (oI h);exact⟨pos,rfl⟩
 | _=>exact aj h
def FL(names:cu)(ts:List Expr):List V->cL->Option cL:=List.rec (λvs loc=>Bool.rec .none (some loc) (bf vs)) (λt _ g vs loc=>(we t).bind λx=>List.rec .none (λv r _=>Bool.rec .none (g r (pt (code x) v loc)) (mJ names x)) vs) ts
def AV{env:Env}(ts:List Expr):∀{vs:List V} {loc e_:cL},FL names ts vs loc=some e_->(assignEach ts env).length=vs.length/\(assignEach ts env).findIdx? (·.1)=none:=by
 induction ts with
 | nil=>exact λ{vs loc e_} h=>eX h (λe h=>by rw[aG e];exact⟨rfl,rfl⟩) λ_ h=>aj h
 | cons t ts ih=>
  intro vs loc e_ h
  refine aH (cU h) λx hx h=>?_
  refine bV (jj hx) λps et=>?_
  rcases vs with _|⟨v,vs⟩
  ·exact oN h
  ·refine be (b:=mJ names x) h λhl h=>?_
   rw[et]
   exact⟨bl (· +1) (ih h).1,by show List.findIdx? _ ((false,_)::_)=_;rw[List.findIdx?_cons];simp[(ih h).2]⟩
def FK{r:Rn kx c names n}(ts:List Expr):∀{vs:List V} {us:List Value} {loc e_:cL} {Y s} {G:Unit->Shared->Prop},FL names ts vs loc=some e_->bG c p vs us->aN r.toAct p loc Y s->(∀s',aN r.toAct p e_ Y s'->G () s')->
  wpAny (Mo c) r.A (assignInOrder ((assignEach ts r.env).map (·.2)) us) G r.E s:=by
 induction ts with
 | nil=>
  intro vs us loc e_ Y s G h hv S K
  refine eX h (λe h=>?_) λ_ h=>aj h
  rw[aG e] at hv
  rw[show us=[] from hv.inv]
  exact assignInOrder_nil (K _ (h▸S))
 | cons t ts ih=>
  intro vs us loc e_ Y s G h hv S K
  refine aH (cU h) λx hx h=>?_
  refine bV (jj hx) λps et=>?_
  rcases vs with _|⟨v,vs⟩
  ·exact oN h
  ·refine be (b:=mJ names x) h λhl h=>?_
   refine eC hv.inv λu Za e hu hv=>?_
   rw[et,e]
   exact assignInOrder_cons (wpAny_assign_Name (S.store hu (fL hl) λs' S'=>ih h hv S' K))
def Ke(e:Expr):Option (List Expr):=match e with
 | .Tuple ts _ _=>some ts
 | _=>.none
def tj{e:Expr}{x}(h:Ke e=some x):∃j pos,e=.Tuple x j pos:=by
 induction e using Expr.casesOn with
 | Tuple y j pos=>obtain rfl:=Eq.symm (oI h);exact⟨j,pos,rfl⟩
 | _=>exact aj h
def mQ(names:cu)(t:Expr)(v:V)(loc:cL):Option cL:=pC ((we t).bind λx=>ij (mJ names x) (some (pt (code x) v loc))) ((Ke t).bind λts=>ij (Nat.beq v.tag 10) (FL names ts v.xl loc))
theorem aN.extBut{a:Act c}{loc Y s h'}(S:aN a p loc Y s)(hs:Heap.ExtBut s.heap.objs.size s.heap h'):aN a p loc Y {s with heap:=h'}:=by
 refine S.el λm g own tn F N hn hH hr le cv pc ge os rl=>?_
 exact⟨m,⟨⟨g,own,tn,F.extBut hs (fG _),News.extBut N hs (fG _),hn,hH,hr⟩,le,cv,pc,ge,os⟩,rl⟩
def sH{r:Rn kx c names n}(h0:0 < n){t:Expr}{v:V}{u:Value}{loc e_:cL}{Y s}{G:Unit->Shared->Prop}(h:mQ names t v loc=some e_)(hv:RV c p v u)(S:aN r.toAct p loc Y s)(K:∀s',aN r.toAct p e_ Y s'->G () s'):wpAny (Mo c) r.A (assign t r.env u) G r.E s:=by
 refine dS h (λh=>?_) λh=>?_
 ·refine aH (cU h) λx hx h=>?_
  refine bV (jj hx) λps et=>?_
  rw[et]
  exact be h λhl h=>wpAny_assign_Name (S.store hv (fL hl) λs' S'=>K s' (by obtain rfl:=oI h;exact S'))
 ·refine aH (cU h) λts hx h=>?_
  refine xE (tj hx) λj ps et=>?_
  rw[et]
  refine be h λe h=>?_
  rw[V.is e] at hv
  refine mE hv.inv λad items m eu h1 h2=>?_
  have hl:=AV (env:=r.env) ts h
  rw[eu]
  exact wpAny_assign_Tuple (r.room.handled h0) ⟨_,S.get h1,rfl,m,rfl⟩ (by rw[hl.1,iJ,h2.length]) hl.2 λh' hs=>FK ts h h2 (S.extBut hs) K
def L6(e:Expr):Bool:=Bool.rec (Nat.beq e.ctorIdx 21) true (Nat.beq e.ctorIdx 16)
def Lo(names:cu)(ts:List Expr)(e:Expr)(f:CE):CS:=λloc Y k=>bb (pZ e) (bb (L6 e) (f loc Y λv Y=>ob (mQ names (.Tuple ts 0 ⟨0,0,0,0⟩) v loc) λloc=>k .next loc Y))
def Fs(h0:0 < n){ts:List Expr}{j:Nat}{e:Expr}{pos' pos:Pos}{f:CE}(hf:b6 kx c names n e f):jK kx c names n (.Assign [.Tuple ts j pos'] e pos) (Lo names ts e f):=λr loc Y k h p s G S P=>ag h λhp h=>ag h λhs h=>
 Assign_Tuple (hf r loc Y _ h p s _ S λq u v bn aJ l aC hv h=>ay h λe_ hl h=>sH h0 (t:=.Tuple ts j pos') hl hv aC λs' S'=>P q _ .next _ _ _ l S' rfl h) (by unfold swapsWithSole;exact(fz hp).swap _ _ _) (by
  unfold swappedStores
  induction e using Expr.casesOn with
  | Call|Subscript=>rfl
  | _=>exact bT hs)
def Ll(names:cu)(x:Str)(f:CE):CS:=λloc Y k=>bb (mJ names x) (ob (lk (code x) loc) λv=>ob (nz v) λi=>f loc Y λw Y=>ob (nz w) λj=>k .next (pt (code x) (HH (lY i j)) loc) Y)
def Fo{x:Str}{e:Expr}{pos' pos:Pos}{f:CE}(hf:b6 kx c names n e f):jK kx c names n (.AugAssign (.Name x pos') .Add e pos) (Ll names x f):=λr loc Y k h p s G S P=>ag h λhl h=>ay h λv hv h=>ay h λi hi h=>by
 refine wpAny_AugAssign_Name ?_
 refine S.fr λg m own st F N L=>?_
 obtain⟨u,hu,hR⟩:=L x v (by rw[<-mi];exact hv)
 refine bV (dN hR hi) λt eu=>?_
 refine wpAny_loadName_local r.hk (fL hl) F.ns hu ?_
 refine hf r loc Y _ h p s _ S λq Xj w bn aJ l aC hw h=>ay h λj hj h=>?_
 refine bV (dN hw hj) λt' ew=>?_
 rw[eu,ew]
 refine PyProof.Rows.iadd_int ((aC.toks _).store (v:=HH (lY i j)) (by rw[<-gB];exact ly _ _) (fL hl) λs' S'=>P q _ .next _ _ _ l S' rfl h)
def Lm(X:gx)(o:Expr)(x:Str)(f g:CE):CS:=λloc Y k=>f loc Y λo Y=>ob (oJ Y.H o) λz=>bb (X.attr z.1 (code x)) (ob (lk (code x) z.2) λv=>ob (nz v) λi=>g loc Y λw Y=>ob (nz w) λj=>L7 X o x (HH (lY i j)) (λY=>k .next loc Y) Y)
def Fp{X:gx}(C:bY c X){o:Expr}{x:Str}{e:Expr}{pos' pos:Pos}{f g:CE}(hf:b6 kx c names n o f)(hg:b6 kx c names n e g):jK kx c names n (.AugAssign (.Attribute o x pos') .Add e pos) (Lm X o x f g):=λr loc Y k h p s G S P=>
 wpAny_AugAssign_AttributeAny (hf r loc Y _ h p s _ S λbP u ov bn aJ bA aC ho h=>ay h λz hz h=>ag h λha h=>ay h λv hv h=>ay h λi hi h=>by
  refine PS (aC.inst ho hz) λad d es m eu IA hA=>?_
  refine aH ((hA.look z.2).1 v hv) λu' hu' hR=>?_
  refine bV (dN hR hi) λt et=>?_
  have ok:=C.attr _ _ ha
  refine aH ok.at_ λat_ e1 e2=>?_
  have To:=aC
  rw[eu]
  refine aC.gfr λg' m own KX F N=>get_own (w:=c.w) (K:=c.K) (C:=z.1) F KX IA ok.get ok.dict e1 e2 hu' hR.handed ?_
  refine hg r loc bn _ h bP _ _ (To.toks _) λgu w wv cW b8 bL aO hw h=>ay h λj hj h=>?_
  refine bV (dN hw hj) λt' ew=>?_
  rw[et,ew]
  exact PyProof.Rows.iadd_int (xQ C (aO.toks _) (eu▸ho.mono bL) (by rw[<-gB];exact ly _ _) h λY' s' S' h=>P gu _ .next _ _ _ (bA.trans bL) S' rfl h))
def W6(t:CB)(f g:CS):CS:=λloc Y k=>t loc Y λb Y=>bi b (f loc Y k) (g loc Y k)
def OS{t:Expr}{b o:List Stmt}{pos:Pos}{ct:CB}{f g:CS}(ht:jW kx c names n t ct)(hf:A3 kx c names n b f)(hg:A3 kx c names n o g):jK kx c names n (.If t b o pos) (W6 ct f g):=λr loc Y k h p s G S P=>
 wpAny_If (ht r loc Y _ h p s _ S λq b bn aJ l aC h=>by
  rcases b with _|_
  ·exact hg r loc bn k h q aJ G aC (P.le l)
  ·exact hf r loc bn k h q aJ G aC (P.le l))
noncomputable def Act.hide(a:Act c)(z:Addr×Obj):Act c:={a with X:=z::a.X}
abbrev lh(c:Cx)(p:Pt)(a:Act c)(X:fh):Prop:=∀x v,look (code x) a.cv=some v->∃cc o u,a.env.cells.lookup x=some cc/\(cc,o)∈X/\o.data=.cell (some u)/\RV c p v u
def dR(o:Obj):Prop:=∀v,o.data≠.cell v
def wN{a:Act c}{ad:Addr}{o:Obj}(ho:dR o)(h:lh c p a ((ad,o)::a.X)):lh c p a a.X:=
 λx v e=>(h x v e).elim λcc h=>h.elim λo' h=>h.elim λu h=>⟨cc,o',u,h.1,(dL.mp h.2.1).resolve_left λe=>by refine bS (fI e) λJ_ X_=>?_;obtain rfl:=J_;obtain rfl:=X_;exact ho _ h.2.2.1,h.2.2⟩
def nq{a:Act c}{z:Addr×Obj}(h:lh c p a a.X):lh c p a (z::a.X):=λx v e=>(h x v e).elim λcc h=>h.elim λo h=>h.elim λu h=>⟨cc,o,u,h.1,.tail _ h.2.1,h.2.2⟩
section
variable{a:Act c}{loc:cL}{Y:Sy}{s:Shared}{ad:Addr}{o o':Obj}{h':Heap}{m:Str->Option Value}
def aN.Zd(S:aN a p loc Y s)(o:Obj)(hf:o.isFreed=false):aN (a.hide (s.heap.objs.size,o)) p loc Y {s with heap:=s.heap.push o}:=by
 refine S.el λm g own tn F N hn hH hr le cv pc ge os rl=>?_
 have pm:(own++(((s.heap.objs.size,o)::a.X)++p.I)).Perm ((s.heap.objs.size,o)::(own++(a.X++p.I))):=nG
 exact⟨m,⟨⟨g,own,tn,F.push _,News.perm (N.push F o hf) pm,aY (i6 N hn o) pm,hH,hr⟩,le,nq cv,pc,ge,os⟩,rl⟩
def aN.YT(S:aN (a.hide (ad,o)) p loc Y s):s.heap.get? ad=some o:=S.fr λg m own st F N L=>(N (ad,o) (j0 _ (.head _))).1
def aN.ZD(S:aN (a.hide (ad,o)) p loc Y s)(ho:dR o)(hs:Heap.SameBut ad s.heap h')(hg:h'.get? ad=some o')(k:Nat):aN (a.hide (ad,o')) p loc Y {s with heap:=h',toks:=k}:=by
 refine S.el λm g own tn F N hn hH hr le cv pc ge os rl=>?_
 have z:=N (ad,o) (j0 _ (.head _))
 have Zs:((own++(ad,o)::(a.X++p.I)).map (·.1)).Nodup:=hn
 refine⟨m,⟨⟨g,own,tn,F.change hs z.2.1 z.2.2,(news_set (pre:=own) (post:=a.X++p.I) N (λz hz=>lB Zs (.inl hz)) (λz hz=>lB Zs (.inr hz)) hs hg:News g a.env.locals h' (own++(ad,o')::(a.X++p.I))),?_,hH,hr⟩,le,nq (a:=a) (wN (a:=a) ho cv),pc,ge,os⟩,rl⟩
 show((own++(ad,o')::(a.X++p.I)).map (·.1)).Nodup
 rw[sX,jr] at Zs ⊢;exact Zs
def aK.Y0(S:aK (a.hide (ad,o)) p m Y s)(ho:dR o)(hs:Heap.ExtBut ad s.heap h'):aK a p m Y {s with heap:=h'}:=by
 refine S.el λg own tn F N hn hH hr le cv pc ge os=>?_
 have z:=N (ad,o) (j0 _ (.head _))
 have Zs:=fH.mp (aY hn (show((ad,o)::(own++(a.X++p.I))).Perm (own++(((ad,o)::a.X)++p.I)) from nG.symm))
 refine J9 F.ns λoL a1 a2 hoL a3=>?_
 refine⟨⟨g,own,tn,⟨⟨oL,a1,a2,hs _ _ (Ne.symm z.2.1) hoL,a3⟩,λb x e=>hs b x (λe'=>?_) (F.keep b x e),F.above⟩,λy hy=>?_,Zs.2,hH,hr⟩,le,wN (a:=a) ho cv,pc,ge,os⟩
 ·have:=z.2.2;rw[<-e',e] at this;exact oS this
 ·have q:=N y ((sY.mp hy).elim (j5 _) λh=>j0 _ (.tail _ h))
  exact⟨hs y.1 y.2 (λe=>Zs.1 (fw.mpr ⟨y,hy,e⟩)) q.1,q.2⟩
def aN.aa7(S:aN (a.hide (ad,o)) p loc Y s)(ho:dR o)(hs:Heap.ExtBut ad s.heap h'):aN a p loc Y {s with heap:=h'}:=match S with
 | ⟨m,S,r⟩=>⟨m,S.Y0 ho hs,r⟩
def aN.ab4(S:aN (a.hide (ad,o)) p loc Y s)(ho:dR o):aN a p loc Y s:=S.aa7 ho (Heap.ExtBut.refl _ _)
def aN.aa6{ao}(S:aN (a.hide (ad,o)) p loc Y s)(ho:dR o)(R:∀q,Le p q->q.ρ[Y.H.length]? =some (ad,ad)->RO c q Y.H.length [(ad,o)] ao):∃q,Le p q/\RV c q (.ref Y.H.length) (.ref ad)/\aN a q loc ⟨Y.pc,Y.H++[ao]⟩ s:=by
 refine S.el λm g own tn F N hn hH hr le cv pc ge os rl=>?_
 have l:Le p ⟨p.ρ++[(ad,ad)],p.I,p.τ⟩:=⟨⟨_,rfl⟩,λ_ h=>h,rfl⟩
 have hk:(p.ρ++[(ad,ad)])[Y.H.length]? =some (ad,ad):=by rw[<-hr];exact vC
 have e:(own++[(ad,o)])++(a.X++p.I)=own++(((ad,o)::a.X)++p.I):=by rw[gK];rfl
 exact⟨_,l,.ref hk,m,⟨⟨g,own++[(ad,o)],tn,F,e▸N,e▸hn,(hH.mono l).snoc (by rw[eM];exact R _ l hk),by rw[nE,nE,hr];rfl⟩,le.trans l,eh l (wN (a:=a) ho cv),pc,ge,os⟩,rl.mono l⟩
end
def Rn.hide(r:Rn kx c names n)(z:Addr×Obj)(E:Value->Shared->Prop)(h:∀q m Y s j e,aK (r.toAct.hide z) q m Y s->RV c q (.ref j) e->gX j Y.H->kx j Y=true->E e s):Rn kx c names n:={r with toAct:=r.toAct.hide z,fd:=⟨r.fd.fe,r.fd.o,r.fd.L,r.fd.fl,r.fd.hfe,r.fd.hf⟩,E:=E,err:=h}
def TK(r:Rn kx c names n)(e:Value)(s:Shared):Prop:=notedBy (Mo c) r.A r.env (λe s'=>cameBackBy (Mo c) r.A r.env r.E e s') e s
def Dq{r:Rn kx c names n}{q m Y s j e}(S:aK r.toAct q m Y s)(he:RV c q (.ref j) e)(hx:gX j Y.H)(hk:kx j Y=true):TK r e s:=S.loop r.hA r.fd he hx λh' S'=>r.err q m Y _ j e S' he hx hk
def Rn.lp(r:Rn kx c names n):Rn kx c names n:={r with E:=TK r,err:=λq m Y s j e S he hx hk=>Dq S he hx hk}
def Rn.lpH(r:Rn kx c names n)(ad:Addr)(o:Obj)(ho:dR o):Rn kx c names n:=r.hide (ad,o) (TK r) λq m Y s j e S he hx hk=>Dq (S.Y0 ho (Heap.ExtBut.refl _ _)) he hx hk
def nV(a b:Int):List V:=(List.range (b - a).toNat).map λ(k:Nat)=>V.int (a+(k:Int))
def kj(a b:Int):(nV a b).length=(b - a).toNat:=by unfold nV;rw[gE,List.length_range]
def tG{a b:Int}{i:Nat}{v:V}(h:(nV a b)[i]? =some v):v=.int (a+(i:Int)):=by
 unfold nV at h
 rw[List.getElem?_map] at h
 refine aH (fp h) λk hk e=>?_
 refine bV (oD hk) λh1 h2=>?_
 rw[List.getElem_range] at h2
 rw[<-e,h2]
def Cs(v:V):Option (Int×Int):=Bool.rec .none (Bool.rec .none (some (v.xe.i,v.xf.i)) (bb (bb (Nat.beq v.xe.tag 0) (Nat.beq v.xf.tag 0)) (bb (Nat.ble v.xe.i.natAbs 1000) (Nat.ble v.xf.i.natAbs 1000)))) (Nat.beq v.tag 8)
def qT{v:V}{z:Int×Int}(h:Cs v=some z):v=.rng (.lit z.1) (.lit z.2)/\z.1.natAbs<=1000/\z.2.natAbs<=1000:=by
 refine be h λe h=>be h λe2 h=>?_
 refine bS (al.mp e2) λt1 t2=>?_
 refine bS (al.mp t1) λt1 t3=>?_
 refine bS (al.mp t2) λt2 t4=>?_
 obtain rfl:=oI h
 exact⟨by rw[<-ce t1,<-ce t3];exact V.is e,fu t2,fu t4⟩
def lM(v:V)(H:Hp):Option (List V):=pC (ij (Nat.beq v.tag 10) (some v.xl)) (pC (gH H v) ((Cs v).map λz=>nV z.1 z.2))
inductive ic(p:Pt)(c:Cx)(H:Hp)(x:V)(u:Value)(l:List V)(i:Nat)(o:Obj):Prop
 | tup (h:Nat.beq x.tag 10=true) (e:x.xl=l) (h1:o.cls=.type "tuple_iterator") (t) (h2:u=.ref t) (h3:o.data=.fields #[.ref t,.int i 0])
 | lst (h:gH H x=some l) (h1:o.cls=.type "list_iterator") (t) (h2:u=.ref t) (h3:o.data=.fields #[.ref t,.int i 0])
 | rng (z:Int×Int) (h:Cs x=some z) (e:l=nV z.1 z.2) (h1:o={cls:=.type "range_iterator",dict:=none,data:=.fields #[rawInt (z.1+i),rawInt ((l.length:Int) - i),rawInt 1],slots:=#[]})
theorem ic.fields{H x u l i o}(h:ic p c H x u l i o):(o.cls=.type "tuple_iterator"\/o.cls=.type "list_iterator"\/o.cls=.type "range_iterator")/\∃fs,o.data=.fields fs:=by
 cases h with
 | tup _ _ h1 t _ h3=>exact⟨.inl h1,_,h3⟩
 | lst _ h1 t _ h3=>exact⟨.inr (.inl h1),_,h3⟩
 | rng z _ _ h1=>rw[h1];exact⟨.inr (.inr rfl),_,rfl⟩
def ic.nc{H x u l i o}(h:ic p c H x u l i o):dR o:=λv e=>by obtain⟨_,fs,hf⟩:=h.fields;rw[hf] at e;exact Px Data.ctorIdx e rfl
section
variable{a:Act c}{A:Around}{E:Value->Shared->Prop}{loc:cL}{Y:Sy}{s:Shared}
def Cr{a b:Int}:Builtin.Range.rangeSize a b 1=((b - a).toNat:Int):=by
 unfold Builtin.Range.rangeSize
 rw[if_pos (by decide)]
 by_cases h:a < b
 ·rw[if_pos h,Int.ediv_one,Int.sub_add_cancel,pF (Int.sub_nonneg_of_le (Int.le_of_lt h))]
 ·rw[if_neg h,Int.toNat_of_nonpos (Int.sub_nonpos_of_le (Int.not_lt.mp h))];rfl
def mX{x:Int}(h:x.natAbs<=2000):Builtin.Range.rangeFitsLong x=true:=by
 have h1:(x.natAbs:Int)<=2000:=gM.mpr h
 have h2:x<=2000:=Int.le_trans Int.le_natAbs h1
 have h3:-2000<=x:=Int.neg_le_of_neg_le (Int.le_trans (Int.natAbs_neg x▸Int.le_natAbs) h1)
 unfold Builtin.Range.rangeFitsLong
 rw[gJ (Int.le_trans (by decide) h3),gJ (Int.lt_of_le_of_lt h2 (by decide))];rfl
def zK{a b:Int}(h1:a.natAbs<=1000)(h2:b.natAbs<=1000):Builtin.Range.small a b 1=true:=by
 have h3:((b - a).toNat:Int).natAbs<=2000:=by rw[Int.natAbs_natCast];exact dK (Int.toNat_le.mpr (Int.le_natAbs)) (dK (Int.natAbs_sub_le b a) (Nat.add_le_add h2 h1))
 unfold Builtin.Range.small
 rewrite [Cr,mX (dK h1 (by decide)),mX (dK h2 (by decide)),mX h3,if_pos (by decide:(1:Int) > 0),Int.sub_self,Int.add_zero,mX (dK h2 (by decide)),Bool.or_true]
 rfl
def oG{x u l}{Q:Value->Shared->Prop}(S:aN a p loc Y s)(hv:RV c p x u)(hx:lM x Y.H=some l)
  (K:∀o,ic p c Y.H x u l 0 o->aN (a.hide (s.heap.objs.size,o)) p loc Y {s with heap:=s.heap.push o}->Q (.ref s.heap.objs.size) {s with heap:=s.heap.push o}):wpAny (Mo c) A (pyIter u) Q E s:=by
 refine dS hx (λhx=>be hx λe hx=>?_) λhx=>dS hx (λhx=>?_) λhx=>?_
 ·have YY:=hv
  rw[V.is e] at YY
  refine mE YY.inv λad items m eu h1 h2=>?_
  obtain rfl:=oI hx
  rw[eu]
  exact wpAny_pyIter_tuple ⟨_,S.get h1,rfl,m,rfl⟩ (K _ (.tup e rfl rfl ad eu rfl) (S.Zd _ rfl))
 ·refine mE (S.listAt hv hx) λd vs m eu hg hl=>?_
  rw[eu]
  exact wpAny_pyIter_list (items:=vs.toArray) ⟨_,hg,rfl,m,rfl⟩ (K _ (.lst hx rfl d eu rfl) (S.Zd _ rfl))
 ·refine aH (fp hx) λz hz e=>?_
  refine nJ (qT hz) λex b1 b2=>?_
  rw[ex] at hv
  refine TA hv.inv λad t t' w eu hi=>?_
  rw[eu]
  refine wpAny_pyIter_range (S.get hi) (zK (a:=z.1) (b:=z.2) b1 b2) (K _ (.rng z hz e.symm ?_) (S.Zd _ rfl))
  have e1:SE.ev c.σ.ν (.lit z.1)=z.1:=rfl
  have e2:SE.ev c.σ.ν (.lit z.2)=z.2:=rfl
  rw[e1,e2,show Builtin.Range.rangeSize z.1 z.2 1=(l.length:Int) by rw[Cr,<-e,kj]];simp
def rU{x u l i o ad v}{Q:Option Value->Shared->Prop}(S:aN (a.hide (ad,o)) p loc Y s)(hv:RV c p x u)(hi:ic p c Y.H x u l i o)(hx:l[i]? =some v)
  (K:∀o' h' uv,ic p c Y.H x u l (i+1) o'->RV c p v uv->(∀k,aN (a.hide (ad,o')) p loc Y {s with heap:=h',toks:=k})->∀k,Q (some uv) {s with heap:=h',toks:=k}):wpAny (Mo c) A (pyNext (.ref ad)) Q E s:=by
 have z:=S.YT
 have nc:=hi.nc
 cases hi with
 | tup h e h1 t h2 h3=>
  have YY:=hv
  rw[V.is h] at YY
  refine mE YY.inv λad' items m eu g1 g2=>?_
  rw[h2] at eu;obtain rfl:=nF eu
  have g2:bG c p x.xl items:=g2
  rw[e] at g2
  obtain⟨y,hy,hR⟩:=g2.get l (by rw[bK];exact hx)
  refine wpAny_pyNext_tuple_item (items:=items.toArray) ⟨o,z,h1,h3⟩ ⟨_,S.get g1,rfl,m,rfl⟩ (by rw[vB];exact hy) λh' YL hs=>?_
  refine lj YL λo' G_ hc' Q_=>?_
  exact K o' h' y (.tup h e hc' t h2 Q_) hR (λk=>S.ZD nc hs G_ k) _
 | lst h h1 t h2 h3=>
  refine mE (S.listAt hv h) λd vs m eu hg hl=>?_
  rw[h2] at eu;obtain rfl:=nF eu
  obtain⟨y,hy,hR⟩:=hl.get l (by rw[bK];exact hx)
  refine wpAny_pyNext_list_item (items:=vs.toArray) ⟨o,z,h1,h3⟩ ⟨_,hg,rfl,m,rfl⟩ (by rw[vB];exact hy) λh' YL hs=>?_
  refine lj YL λo' G_ hc' Q_=>?_
  exact K o' h' y (.lst h hc' t h2 Q_) hR (λk=>S.ZD nc hs G_ k) _
 | rng w h e h1=>
  have YF:=(oD hx).1
  rw[h1] at z
  refine wpAny_pyNext_range_item z (by lia) λh' YL hs=>?_
  rw[show w.1+(i:Int)+1=w.1+((i+1:Nat):Int) by lia,show((l.length:Int) - i) - 1=(l.length:Int) - ((i+1:Nat):Int) by lia] at YL
  rw[e] at hx
  exact K _ h' _ (.rng w h e rfl) (by rw[tG hx];exact .int _ _) (λk=>S.ZD nc hs YL k) _
def wq{x u l i o ad}{Q:Option Value->Shared->Prop}(hh:A.handled=none)(S:aN (a.hide (ad,o)) p loc Y s)(hv:RV c p x u)(hi:ic p c Y.H x u l i o)(hx:l.length<=i)(K:∀h',aN a p loc Y {s with heap:=h'}->Q none {s with heap:=h'}):wpAny (Mo c) A (pyNext (.ref ad)) Q E s:=by
 have z:=S.YT
 have nc:=hi.nc
 have fin:∀h',Heap.ExtBut ad s.heap h'->Q none {s with heap:=h'}:=λh' hs=>K h' (S.aa7 nc hs)
 cases hi with
 | tup h e h1 t h2 h3=>
  rw[V.is h] at hv
  refine mE hv.inv λad' items m eu g1 g2=>?_
  rw[h2] at eu;obtain rfl:=nF eu
  have hl:=bG.length g2
  rw[e] at hl
  exact wpAny_pyNext_tuple_end (items:=items.toArray) hh ⟨o,z,h1,h3⟩ ⟨_,S.get g1,rfl,m,rfl⟩ (by rw[vB,zt,<-hl];exact hx) fin
 | lst h h1 t h2 h3=>
  refine mE (S.listAt hv h) λd vs m eu hg hl=>?_
  rw[h2] at eu;obtain rfl:=nF eu
  exact wpAny_pyNext_list_end (items:=vs.toArray) hh ⟨o,z,h1,h3⟩ ⟨_,hg,rfl,m,rfl⟩ (by rw[vB,zt,<-hl.length];exact hx) fin
 | rng w h e h1=>
  rw[h1] at z
  exact wpAny_pyNext_range_end hh z (by lia) fin
end
end
section
variable{c:Cx}{p q:Pt}{kx:Nat->Sy->Bool}{names:cu}{n:Nat}{σ:Sg}
def Uj{α β γ δ ε ζ:Sort _}{A B C D E F:α->β->γ->δ->ε->ζ->Prop}{T:Prop}(h:∃x y z u v w,A x y z u v w/\B x y z u v w/\C x y z u v w/\D x y z u v w/\E x y z u v w/\F x y z u v w)(k:∀x y z u v w,A x y z u v w->B x y z u v w->C x y z u v w->D x y z u v w->E x y z u v w->F x y z u v w->T):T:=by
 obtain⟨x,y,z,u,v,w,a,b,c,d,e,f⟩:=h
 exact k _ _ _ _ _ _ a b c d e f
def Pq{α β γ δ ε ζ:Sort _}{A B C D E F:α->β->γ->δ->ε->ζ->Prop}(x:α)(y:β)(z:γ)(u:δ)(v:ε)(w:ζ)(a:A x y z u v w)(b:B x y z u v w)(c:C x y z u v w)(d:D x y z u v w)(e:E x y z u v w)(f:F x y z u v w):∃x y z u v w,A x y z u v w/\B x y z u v w/\C x y z u v w/\D x y z u v w/\E x y z u v w/\F x y z u v w:=⟨x,y,z,u,v,w,a,b,c,d,e,f⟩
def lN(all:List V)(x:V)(H:Hp):Bool:=Bool.rec true (ob ((bh H x.xn).bind dw) λl=>jF all l) (Nat.beq x.tag 11)
def yE{H H':Hp}{x u all i o}{q:Pt}(h:ic p c H x u all i o)(k:lN all x H'=true):ic q c H' x u all i o:=by
 cases h with
 | tup h e h1 t h2 h3=>exact .tup h e h1 t h2 h3
 | rng z h e h1=>exact .rng z h e h1
 | lst h h1 t h2 h3=>
  refine .lst (bp h (λe h=>?_) λe0 h=>bp h (λe h=>?_) λ_ h=>aj h) h1 t h2 h3
  ·unfold gH;rw[e];exact h
  ·unfold lN at k
   rw[e] at k
   exact ay k λl el hl=>by unfold gH;rw[e0,e];rw[i9 _ hl];exact el
def Qb(k:KS)(g:cL->Sy->Bool):KS:=λo loc Y=>mT.rec (g loc Y) (g loc Y) (k .next loc Y) (λv=>k (.ret v) loc Y) o
def Ok(names:cu)(all:List V)(x:V)(t:Expr)(b:CS)(k:KS)(l:List V):cL->Sy->Bool:=List.rec (λloc Y=>bb (lN all x Y.H) (k .next loc Y)) (λv _ g loc Y=>bb (lN all x Y.H) (ob (mQ names t v loc) λloc=>b loc Y (Qb k g))) l
def S4(names:cu)(t it:Expr)(f:CE)(b:CS):CS:=λloc Y k=>bb (pZ it) (f loc Y λx Y=>ob (lM x Y.H) λall=>Ok names all x t b k all loc Y)
def DA{A:Around}{E s ad o H x u all i t v loc e_}{uv:Value}{Q:Unit->Shared->Prop}(h:mQ names t v loc=some e_)(z:s.heap.get? ad=some o)(hi:ic p c H x u all i o)(q:Q () s):wpAny (Mo c) A (letOwnedTupleGo t (.ref ad) uv) Q E s:=by
 refine dS h (λh=>?_) λh=>?_
 ·refine aH (cU h) λy hy _=>?_
  refine bV (jj hy) λps e=>?_
  rw[e]
  exact dF q
 ·refine aH (cU h) λy hy _=>?_
  refine xE (tj hy) λj ps e=>?_
  rw[e]
  unfold letOwnedTupleGo
  obtain⟨hc,fs,hd⟩:=hi.fields
  induction uv using Value.casesOn with
  | ref=>
   refine bX (wpAny_load z ?_)
   refine hc.elim (λhc=>?_) λhc=>hc.elim (λhc=>?_) λhc=>?_
   ·rw[hc,hd];exact dF q
   ·rw[hc,hd];exact dF q
   ·rw[hc,hd];exact dF q
  | _=>exact dF q
def Jo(h0:0 < n){t it:Expr}{body:List Stmt}{pos:Pos}{f:CE}{b:CS}(hf:b6 kx c names n it f)(hb:A3 kx c names n body b):jK kx c names n (.For t it body [] pos) (S4 names t it f b):=λr loc Y k h p s G S P=>ag h λhp h=>
 wpAny_For (hf r loc Y _ h p s _ S λbP u x bn aJ bA aC hv h=>ay h λall ha h=>oG aC hv ha λo hi aO=>by
  let I:Nat->Shared->Prop:=λn s'=>∃rest p' e_ Y' i o,n=rest.length/\Le bP p'/\aN (r.toAct.hide (aJ.heap.objs.size,o)) p' e_ Y' s'/\ic p' c Y'.H x u all i o/\all.drop i=rest/\Ok names all x t b k rest e_ Y'=true
  refine codeAny_forLoop_any I (λn' s' hI=>?_) all.length (Pq all bP loc bn 0 o rfl (Le.refl _) aO hi rfl h)
  refine Uj hI λrest p' e_ Y' i o' en l' S' YL hd h'=>?_
  have YY:=hv.mono l'
  rcases rest with _|⟨v,rest⟩
  ·exact ag h' λ_ h'=>wq (r.room.handled h0) S' YY YL (List.drop_eq_nil_iff.mp hd) λAa cK=>dF (P p' _ .next _ _ _ (bA.trans l') cK rfl h')
  ·have hx0:all[i]? =some v:=by have:=bl (·[0]?) hd;simpa using this
   have Q_:all.drop (i+1)=rest:=by have:=bl (List.drop 1) hd;simpa [List.drop_drop] using this
   refine ag h' λ_ h'=>ay h' λiX hl h'=>rU S' YY YL hx0 λZI Aa uv YK hR cK io=>DA hl (cK io).YT YK ?_
   refine sH h0 (r:=r.lpH aJ.heap.objs.size ZI YK.nc) hl hR (cK io) λnP gI=>hb (r.lpH aJ.heap.objs.size ZI YK.nc) iX Y' _ h' p' nP _ gI λq fl o lE cW nO bL ia hF hk=>?_
   have loop:Ok names all x t b k rest lE cW=true->∃m,m < n'/\I m nO:=
    λh=>⟨rest.length,by rw[en];exact Nat.lt_succ_self _,Pq rest q lE cW (i+1) ZI rfl (l'.trans bL) ia (yE YK (by induction rest using lC with
     | nil=>exact ag h λh _=>h
     | cons=>exact ag h λh _=>h)) Q_ h⟩
   induction o using mT.casesOn with
   | next=>rw[show fl=.next from hF];exact loop hk
   | cont=>rw[show fl=.cont from hF];exact loop hk
   | brk=>rw[show fl=.brk from hF];exact P q _ .next _ _ _ (bA.trans (l'.trans bL)) (ia.ab4 YK.nc) rfl hk
   | ret v=>refine aH hF λu e hu=>?_;rw[e];exact P q _ (.ret v) _ _ _ (bA.trans (l'.trans bL)) (ia.ab4 YK.nc) ⟨u,rfl,hu⟩ hk) ((fz hp).fold _)
def Wm(t:CB)(b:CS)(k:KS)(m:Nat):cL->Sy->Bool:=Nat.rec (λ_ _=>false) (λ_ g loc Y=>t loc Y λx Y=>bi x (b loc Y (Qb k g)) (k .next loc Y)) m
def W3(t:CB)(b:CS):CS:=λloc Y k=>Wm t b k 80 loc Y
def OM{t:Expr}{body:List Stmt}{pos:Pos}{f:CB}{b:CS}(hf:jW kx c names n t f)(hb:A3 kx c names n body b):jK kx c names n (.While t body [] pos) (W3 f b):=λr loc Y k h p s G S P=>
 wpAny_While (by
  refine codeAny_whileLoop (λm s'=>∃p' e_ Y',Le p p'/\aN r.toAct p' e_ Y' s'/\Wm f b k m e_ Y'=true) (λm s' hI=>?_) 80 ⟨p,loc,Y,Le.refl _,S,h⟩
  refine mE hI λp' e_ Y' l' S' h'=>?_
  induction m using nC with
  | zero=>exact bT h'
  | succ m=>
   refine hf r.lp e_ Y' _ h' p' s' _ S' λq x bn aJ bA aC h'=>?_
   rcases x with _|_
   ·exact dF (P q _ .next _ _ _ (l'.trans bA) aC rfl h')
   ·refine hb r.lp e_ bn _ h' q aJ _ aC λmG fl o lE cW b8 bL aO hF hk=>?_
    have l:=(l'.trans bA).trans bL
    induction o using mT.casesOn with
    | next=>rw[show fl=.next from hF];exact⟨m,Nat.lt_succ_self m,mG,lE,cW,l,aO,hk⟩
    | cont=>rw[show fl=.cont from hF];exact⟨m,Nat.lt_succ_self m,mG,lE,cW,l,aO,hk⟩
    | brk=>rw[show fl=.brk from hF];exact P mG _ .next _ _ _ l aO rfl hk
    | ret v=>refine aH hF λu e hu=>?_;rw[e];exact P mG _ (.ret v) _ _ _ l aO ⟨u,rfl,hu⟩ hk)
def qq{a:Act c}{loc Y s}(S:aN a p loc Y s):(s.heap.objs.size == sysModules)=false:=S.fr λg m own st F N L=>by
 refine J9 a.G λog b1 b2 hog b3=>?_
 have h4:mainGlobals < s.heap.objs.size:=my (st _ _ hog)
 rw[pG]
 intro e
 rw[e] at h4
 exact absurd h4 (by decide)
def Ph(c:Cx)(p:Pt):List (V×V)->List (Value×Value)->Prop
 | [],us=>us=[]
 | x::l,us=>∃ku vu r,us=(ku,vu)::r/\RV c p x.1 ku/\RV c p x.2 vu/\Ph c p l r
def Ph.len(l:List (V×V)):∀{r},Ph c p l r->l.length=r.length:=by
 induction l with
 | nil=>intro r h;rw[show r=[] from h];rfl
 | cons x l ih=>intro r h;refine BF h λku vu r' e _ _ h=>?_;rw[e,gq,gq,ih h]
abbrev YC:=cL->Sy->(List (V×V)->Sy->Bool)->Bool
def W5(f:Expr->CE)(ks:List (Option Expr)):List Expr->YC:=List.rec (λvs _ Y k=>bb (bf vs) (k [] Y)) (λo _ g vs loc Y k=>ob o λe=>bR vs λv r=>f e loc Y λx Y=>f v loc Y λy Y=>g r loc Y λl Y=>k ((x,y)::l) Y) ks
def OQ{r:Rn kx c names n}{f:Expr->CE}(hf:∀e,b6 kx c names n e (f e)){pos:Pos}(ks:List (Option Expr)):∀{vs loc Y k p s} {G:List (Value×Value)->Shared->Prop},W5 f ks vs loc Y k=true->aN r.toAct p loc Y s->(∀q us l Y s,Le p q->aN r.toAct q loc Y s->Ph c q l us->k l Y=true->G us s)->
  wpAny (Mo c) r.A (evalPairs (pairTrees ks vs r.env pos)) G r.E s:=by
 induction ks with
 | nil=>
  intro vs loc Y k p s G h S P
  refine ag h λe h=>?_
  rw[aG e]
  exact pairTrees_nil_walk (P p [] [] Y s (Le.refl _) S rfl h)
 | cons o ks ih=>
  intro vs loc Y k p s G h S P
  refine ay h λe eo h=>aZ h λv Zp ev h=>?_
  rw[eo,ev]
  exact pairTrees_cons_walk (hf e r loc Y _ h p s _ S λbP ku x bn aJ bA aC hx h=>hf v r loc bn _ h bP aJ _ aC λgu vu y cW b8 bL aO hy h=>ih h aO λCI us l xk B1 iq cK p_ h=>P CI _ ((x,y)::l) xk B1 ((bA.trans bL).trans iq) cK ⟨ku,vu,us,rfl,hx.mono (bL.trans iq),hy.mono iq,p_⟩ h)
def Q4(l:List (V×V)):List (Nat×V)->Option (List (Nat×V)):=List.rec some (λx _ g acc=>ij (Nat.beq x.1.tag 9) (g (pt (code x.1.xs) x.2 acc))) l
def Q5(l:List (V×V)):List (SE×V)->Option (List (SE×V)):=List.rec some (λx _ g acc=>(nz x.1).bind λe=>g ((e,x.2)::acc)) l
def X7(l:List (V×V)):Option AO:=pC ((Q4 l []).map .ds) ((Q5 l []).map λr=>.di r .none)
def HO(l:List (V×V)):∀{ps:List (Value×Value)} {acc res:List (Nat×V)},Ph c p l ps->Q4 l acc=some res->∃kvs,Carries (strKind PW c.w) ps kvs/\
  ∀xs,xs.length<=acc.length->(∀x,au c p (look (code x) acc) (valueAt xs x))->(merged xs kvs).length<=res.length/\∀x,au c p (look (code x) res) (valueAt (merged xs kvs) x):=by
 induction l with
 | nil=>intro ps acc res r h;obtain rfl:=oI h;rw[show ps=[] from r];exact⟨[],trivial,λxs h1 h2=>⟨h1,h2⟩⟩
 | cons x l ih=>
  intro ps acc res r h
  refine BF r λku vu us e hk hv r=>?_
  refine be (b:=Nat.beq x.1.tag 9) h λet h=>?_
  refine aH (ih r h) λkvs hc ih=>?_
  rw[V.is et] at hk
  refine bV hk.inv λt ek=>?_
  rw[e,ek]
  refine⟨(x.1.xs,vu)::kvs,⟨strKind_is PW c.w _ t,rfl,hc⟩,λxs h1 h2=>ih (stored xs x.1.xs vu) ?_ λy=>?_⟩
  ·rw[iD,mY,<-hY (h2 x.1.xs)]
   rcases e:(valueAt xs x.1.xs).isSome with _|_
   ·exact dK (stored_length_le _ _ _) (j3 h1)
   ·rw[fU _ _ _ e];exact h1
  ·rw[iD,dC,b7]
   by_cases e:x.1.xs=y
   ·rw[if_pos (bl code e),if_pos e];exact hv
   ·rw[if_neg (fN e),if_neg e];exact h2 y
def HP(l:List (V×V)):∀{ps:List (Value×Value)} {acc res:List (SE×V)},Ph c p l ps->Q5 l acc=some res->∃kvs,Carries (intKind PW c.w) ps kvs/\
  ∀xs,xs.length<=acc.length->(∀x,au c p (cB c.σ acc .none x) (valueAt xs x))->(merged xs kvs).length<=res.length/\∀x,au c p (cB c.σ res .none x) (valueAt (merged xs kvs) x):=by
 induction l with
 | nil=>intro ps acc res r h;obtain rfl:=oI h;rw[show ps=[] from r];exact⟨[],trivial,λxs h1 h2=>⟨h1,h2⟩⟩
 | cons x l ih=>
  intro ps acc res r h
  refine BF r λku vu us e hk hv r=>?_
  refine aH (cU h) λi hi h=>?_
  refine aH (ih r h) λkvs hc ih=>?_
  refine bV (dN hk hi) λt ek=>?_
  rw[e,ek]
  refine⟨(i.ev c.σ.ν,vu)::kvs,⟨intKind_is PW c.w _ t,rfl,hc⟩,λxs h1 h2=>ih (stored xs (i.ev c.σ.ν) vu) ?_ λy=>?_⟩
  ·exact dK (stored_length_le _ _ _) (j3 h1)
  ·show au c p (if i.ev c.σ.ν=y then some x.2 else cB c.σ acc .none y) _
   rw[b7]
   exact pe (h2 y) hv
def iy{κ:Type}[DecidableEq κ](knd:KeyKind PW c.w κ):(dictOf [] 0).IsDictOf knd []:=⟨#[],0,⟨rfl,rfl,rfl⟩,rfl,λe he=>absurd he (Array.not_mem_empty e),.nil,List.nodup_nil⟩
def jp(o:Obj){es n}(h:o.data=.dict es n):dR o:=λv e=>by rw[h] at e;exact Px Data.ctorIdx e rfl
def ng{κ:Type}[DecidableEq κ]{knd:KeyKind PW c.w κ}{o:Obj}{xs}(h:o.IsDictOf knd xs):dR o:=by refine eC h λes ep _ h _=>?_;exact jp o h
def Lf(f:Expr->CE)(ks:List (Option Expr))(vs:List Expr):CE:=λloc Y k=>bi (bf ks) (bb (bf vs) (k (.ref Y.H.length) ⟨Y.pc,Y.H++[.di [] .none]⟩))
 (bb (ks.all (·.isSome)) (bb (Nat.beq ks.length vs.length) (bb (Nat.ble ks.length 15) (W5 f ks vs loc Y λl Y=>bb (Nat.ble l.length 15) (ob (X7 l) λao=>k (.ref Y.H.length) ⟨Y.pc,Y.H++[ao]⟩)))))
def E5{f:Expr->CE}(hf:∀e,b6 kx c names n e (f e)){ks:List (Option Expr)}{vs:List Expr}{pos:Pos}:b6 kx c names n (.Dict ks vs pos) (Lf f ks vs):=λr loc Y k h p s G S P=>by
 have aC:=S.Zd (dictOf [] 0) rfl
 have fs:=qq S
 refine bH h (λe h=>ag h λe2 h=>?_) λe h=>ag h λh1 h=>ag h λh2 h=>ag h λh3 h=>?_
 ·rw[aG e,aG e2]
  refine lj (aC.aa6 (ao:=.di [] .none) (jp _ rfl) λq l e=>⟨_,_,e,fs,_,[],rfl,iy _,fv _,λ_=>trivial⟩) λq l i aO=>?_
  exact wpAny_Dict_empty (P q _ _ _ _ l aO i h)
 ·refine wpAny_Dict_any h1 (cf h2) (λe'=>by rw[e'] at e;exact bF e) (fu h3) (OQ (r:=r.hide (s.heap.objs.size,dictOf [] 0) r.E λq m Y s j e S he hx hk=>r.err q m Y s j e (S.Y0 (jp _ rfl) (Heap.ExtBut.refl _ _)) he hx hk) (λe=>hf e) ks h aC λq us l bn aJ bA aO p_ h=>ag h λhz h=>ay h λao hm h=>?_)
  have hg:=aO.YT
  have hpz:us.length<=15:=by rw[<-Ph.len l p_];exact fu hz
  refine dS hm (λhm=>?_) λhm=>?_
  ·refine aH (fp hm) λres hr ea=>?_
   refine aH (HO l p_ hr) λkvs hc ih=>?_
   have hh:=ih [] (fG _) (λ_=>trivial)
   refine wpAny_storeAll (knd:=strKind PW c.w) us kvs [] aJ _ hc (ll.mpr ⟨_,hg,iy _⟩) (by rw[hc.length,qH];simp;lia) λh' hd hsb=>?_
   refine aH (ll.mp hd) λo' Zf G_=>?_
   obtain⟨q',l',i,gI⟩:=(aO.ZD (jp _ rfl) hsb Zf (aJ.toks+us.length)).aa6 (ao:=ao) (ng G_) λq' l' e=>by
    rw[<-ea];exact⟨_,_,e,fs,_,_,rfl,G_,hh.1,λx=>(hh.2 x).mono l'⟩
   exact P q' _ _ _ _ (bA.trans l') gI i h
  ·refine aH (fp hm) λres hr ea=>?_
   refine aH (HP l p_ hr) λkvs hc ih=>?_
   have hh:=ih [] (fG _) (λ_=>trivial)
   refine wpAny_storeAll (knd:=intKind PW c.w) us kvs [] aJ _ hc (ll.mpr ⟨_,hg,iy _⟩) (by rw[hc.length,qH];simp;lia) λh' hd hsb=>?_
   refine aH (ll.mp hd) λo' Zf G_=>?_
   obtain⟨q',l',i,gI⟩:=(aO.ZD (jp _ rfl) hsb Zf (aJ.toks+us.length)).aa6 (ao:=ao) (ng G_) λq' l' e=>by
    rw[<-ea];exact⟨_,_,e,fs,_,_,rfl,G_,hh.1,λx=>(hh.2 x).mono l'⟩
   exact P q' _ _ _ _ (bA.trans l') gI i h
theorem uJ(f:(Option (Sem Value)×Sem Value)->(Option Addr×List (Sem Value×Sem Value))->Sem (ForInStep (Option Addr×List (Sem Value×Sem Value))))
  (hf:∀(p:Sem Value×Sem Value) (run:List (Sem Value×Sem Value)),run.length+1 < 17->f (some p.1,p.2) (none,run)=pure (.yield (none,run++[p])))
  (hl:∀(p:Sem Value×Sem Value) (run:List (Sem Value×Sem Value)),run.length+1=17->f (some p.1,p.2) (none,run)=(do let d<-subDict (run++[p]);pure (.yield (some d,[])))):
  ∀(items run:List (Sem Value×Sem Value)),items≠[]->run.length+items.length=17->forIn (items.map λp=>(some p.1,p.2)) ((none:Option Addr),run) f=(do let d<-subDict (run++items);pure (some d,[]))
 | [],run,h,_=>absurd rfl h
 | [p],run,_,h=>by
  rw[jr,List.forIn_cons,hl p run (by simpa using h)]
  simp
 | p::q::rest,run,_,h=>by
  rw[jr,List.forIn_cons,hf p run (by simp at h;lia),pure_bind]
  have:=uJ f hf hl (q::rest) (run++[p]) (by simp) (by simp at h ⊢;lia)
  simpa using this
def o5(pairs:List (Sem Value×Sem Value))(hlen:pairs.length=17):
  dictDisplay (pairs.map λp=>(some p.1,p.2))=(do let d<-subDict pairs;pure (.ref d)):=by
 unfold dictDisplay
 dsimp only
 have h0:pairs≠[]:=λe=>by rw[e] at hlen;cases hlen
 rw[uJ _ (λp run h=>by
  have hne:((run++[(p.1,p.2)]).length == 17)=false:=by simp;lia
  simp only [hne,zs,if_false]) (λp run h=>by
  have hne:((run++[(p.1,p.2)]).length == 17)=true:=by simp;lia
  have he:(run++[(p.1,p.2)]).isEmpty=false:=by simp
  simp only [hne,if_true,he,zs,if_false,bind_assoc,pure_bind]) pairs [] h0 (by simpa using hlen)]
 simp
def B4(e:Expr):Option Str:=match e with
 | .Constant (.str x) _ _=>some x
 | _=>.none
def tv{e:Expr}{x}(h:B4 e=some x):∃j pos,e=.Constant (.str x) j pos:=by
 induction e using Expr.casesOn with
 | Constant y=>induction y using Const.casesOn with
  | str=>exact⟨_,_,by rw[oI h]⟩
  | _=>exact oN h
 | _=>exact oN h
def tt(ks:List (Option Expr)):List Expr->Option (List (Str×Str)):=List.rec (λvs=>ij (bf vs) (some [])) (λo _ g vs=>o.bind λe=>(B4 e).bind λx=>List.rec .none (λv r _=>(B4 v).bind λy=>(g r).map λl=>(x,y)::l) vs) ks
def nQ{o ks vs l}(h:tt (o::ks) vs=some l):∃x kx px y ky py r l',o=some (.Constant (.str x) kx px)/\vs=.Constant (.str y) ky py::r/\tt ks r=some l'/\l=(x,y)::l':=by
 refine aH (cU h) λe he h=>?_
 refine aH (cU h) λx hx h=>?_
 refine xE (tv hx) λkx px ex=>?_
 rcases vs with _|⟨v,r⟩
 ·exact oN h
 ·refine aH (cU h) λy hy h=>?_
  refine xE (tv hy) λky py ey=>?_
  refine aH (fp h) λl' hl h=>?_
  exact⟨x,kx,px,y,ky,py,r,l',by rw[he,ex],by rw[ey],hl,h.symm⟩
def xM(l:List (Str×Str)):List (Nat×V)->List (Nat×V):=List.rec (λacc=>acc) (λx _ g acc=>g (pt (code x.1) (.str x.2) acc)) l
def LY{a:Act c}{A:Around}{E loc Y ad pos}(ks:List (Option Expr)):∀{vs:List Expr} {l:List (Str×Str)} {acc:List (Nat×V)} {xs:List (Str×Value)} {o:Obj} {s:Shared} {G:PUnit->Shared->Prop},tt ks vs=some l->l.length+xs.length<=40->
  aN (a.hide (ad,o)) p loc Y s->o.IsDictOf (strKind PW c.w) xs->xs.length<=acc.length->(∀x,au c p (look (code x) acc) (valueAt xs x))->
  (∀o' Z3 s',aN (a.hide (ad,o')) p loc Y s'->o'.IsDictOf (strKind PW c.w) Z3->Z3.length<=(xM l acc).length->(∀x,au c p (look (code x) (xM l acc)) (valueAt Z3 x))->G PUnit.unit s')->
  wpAny (Mo c) A (forIn (pairTrees ks vs a.env pos) PUnit.unit λ(x:Sem Value×Sem Value) (_:PUnit)=>(do let kv<-x.1;let vv<-holding [kv] x.2;let _<-holding [kv,vv] (dictSet ad kv vv);pure (ForInStep.yield PUnit.unit):Sem (ForInStep PUnit))) G E s:=by
 induction ks with
 | nil=>
  intro vs l acc xs o s G h hz S ho hx hA k
  refine be (b:=bf vs) h λe h=>?_
  obtain rfl:=oI h
  rw[aG e]
  show wpAny _ _ (forIn [] _ _) _ _ _
  rw[List.forIn_nil]
  exact dF (k o xs s S ho hx hA)
 | cons o' ks ih=>
  intro vs l acc xs o s G h hz S ho hx hA k
  obtain⟨x,kx,px,y,ky,py,r,l',e1,e2,hl,e3⟩:=nQ h
  rw[e3] at k hz
  rw[e1,e2]
  rw[gq] at hz
  show wpAny _ _ (forIn ((_,_)::_) _ _) _ _ _
  rw[List.forIn_cons]
  refine bX (bX ?_)
  show wpAny _ _ (eval (Expr.Constant (Const.str x) kx px) a.env) _ _ _
  refine wpAny_Constant_str ?_
  refine bX (wpAny_holding ?_)
  show wpAny _ _ (eval (Expr.Constant (Const.str y) ky py) a.env >>= λz=>standAt pos >>= λ_=>pure z) _ _ _
  refine bX (wpAny_Constant_str (bX (wpAny_standAt (dF ?_))))
  refine bX (wpAny_holding (wpAny_dictSet_pairs (knd:=strKind PW c.w) (k:=x) (kvs:=xs) (strKind_is PW c.w x _) (ll.mpr ⟨o,S.YT,ho⟩) (λh' hd hsb=>?_) (hsz:=by rw[qH];lia)))
  refine aH (ll.mp hd) λo' Zf G_=>?_
  refine dF ?_
  refine ih hl ?_ (S.ZD (ng ho) hsb Zf _) G_ ?_ (λz=>?_) k
  ·exact dK (Nat.add_le_add_left (stored_length_le _ _ _) _) (by lia)
  ·rw[iD,mY,<-hY (hA x)]
   rcases e:(valueAt xs x).isSome with _|_
   ·exact dK (stored_length_le _ _ _) (j3 hx)
   ·rw[fU _ _ _ e];exact hx
  ·rw[iD,dC,b7]
   by_cases e:x=z
   ·rw[if_pos (bl code e),if_pos e];exact .str y _
   ·rw[if_neg (fN e),if_neg e];exact hA z
def B2(ks:List (Option Expr)):∀{vs:List Expr} {l:List (Str×Str)},tt ks vs=some l->ks.all (·.isSome)=true/\ks.length=vs.length/\l.length=ks.length:=by
 induction ks with
 | nil=>exact λ{vs l} h=>be (b:=bf vs) h λe h=>by obtain rfl:=oI h;rw[aG e];exact⟨rfl,rfl,rfl⟩
 | cons o ks ih=>
  intro vs l h
  obtain⟨x,kx,px,y,ky,py,r,l',e1,e2,hl,e3⟩:=nQ h
  refine nJ (ih hl) λh1 h2 h3=>?_
  rw[e1,e2,e3]
  exact⟨h1,bl (· +1) h2,bl (· +1) h3⟩
def y7(ks:List (Option Expr))(vs:List Expr):CE:=λloc Y k=>bb (Nat.beq ks.length 17) (ob (tt ks vs) λl=>k (.ref Y.H.length) ⟨Y.pc,Y.H++[.ds (xM l [])]⟩)
def wX{ks:List (Option Expr)}{vs:List Expr}{pos:Pos}:b6 kx c names n (.Dict ks vs pos) (y7 ks vs):=λr loc Y k h p s G S P=>ag h λhlen h=>ay h λl hp h=>by
 have hlen:=cf hlen
 refine nJ (B2 ks hp) λh1 h2 h3=>?_
 have hn:=pairTrees_length ks vs r.env pos h1 h2
 have aC:=S.Zd (dictOf [] 0) rfl
 have fs:=qq S
 rw[arm_eval_Dict,zip_pairTrees ks vs r.env pos h1 h2,o5 _ (by rw[hn,hlen])]
 refine bX (wpAny_standAt (bX ?_))
 unfold subDict
 refine bX (wpAny_alloc ?_)
 refine bX (wpAny_holding ?_)
 rw[if_neg (by rw[hn,hlen];decide)]
 refine bX (wpAny_rule ?_)
 refine bX (LY ks hp (xs:=[]) (acc:=[]) (by rw[h3,hlen];decide) aC (iy _) (fG _) (λ_=>trivial) λo' Z3 s' S' G_ hx' hA'=>?_)
 refine dF (dF (dF ?_))
 refine lj (S'.aa6 (ao:=.ds (xM l [])) (ng G_) λq l e=>⟨_,_,e,fs,_,_,rfl,G_,hx',λx=>(hA' x).mono l⟩) λq bA i aO=>?_
 exact P q _ _ _ _ bA aO i h
def E6(f:Expr->CE)(ks:List (Option Expr))(vs:List Expr):CE:=λloc Y k=>bi (Nat.beq ks.length 17) (y7 ks vs loc Y k) (Lf f ks vs loc Y k)
def AE{f:Expr->CE}(hf:∀e,b6 kx c names n e (f e)){ks:List (Option Expr)}{vs:List Expr}{pos:Pos}:b6 kx c names n (.Dict ks vs pos) (E6 f ks vs):=λr loc Y k h=>bH h (λ_ h=>wX r loc Y k h) λ_ h=>E5 hf r loc Y k h
def fE(k:NameKind):Bool:=match k with
 | .free=>true
 | _=>false
def jl{k:NameKind}:fE k=(k == .free):=by induction k using NameKind.casesOn <;> rfl
def Mq(sn ns:List (Str×NameKind)):List (Str×NameKind):=sn.map λy=>(y.1,Bool.rec y.2 .cell (bb (fE y.2) (Option.rec false uu (kd (code y.1) ns))))
def Hb{scope:Scope}{env:Env}(hk:env.scope.kind=.function):(relabel scope env).names=Mq scope.names env.scope.names:=by
 unfold relabel Mq
 refine List.map_congr_left λy _=>?_
 obtain⟨x,k⟩:=y
 show(if _ then _ else _)=_
 rw[mj,show env.kindOf x=env.scope.names.lookup x from rfl,hk,<-jl]
 rcases fE k with _|_
 ·rfl
 ·rcases env.scope.names.lookup x with _|k'
  ·rfl
  ·induction k' using NameKind.casesOn <;> rfl
def uZ(env:Env)(sn:List (Str×NameKind)):List (Str×Addr)->List (Str×Addr):=List.rec (λacc=>acc) (λy _ g acc=>g (Bool.rec acc ((y.1,(env.cells.lookup y.1).getD 0)::acc) (fE y.2))) sn
def Au{env:Env}(f:Str×NameKind->List (Str×Addr)->Sem (ForInStep (List (Str×Addr))))(h0:∀y acc,fE y.2=false->f y acc=pure (.yield acc))(h1:∀y acc cc,fE y.2=true->env.cells.lookup y.1=some cc->f y acc=pure (.yield ((y.1,cc)::acc)))
  (l:List (Str×NameKind)):∀acc,(∀y∈l,fE y.2=true->∃cc,env.cells.lookup y.1=some cc)->forIn l acc f=pure (uZ env l acc):=by
 induction l with
 | nil=>exact λacc _=>rfl
 | cons y l ih=>
  intro acc h
  have ih':=λacc=>ih acc λy hy=>h y (.tail _ hy)
  rw[List.forIn_cons]
  show _=pure (uZ env l (Bool.rec acc ((y.1,(env.cells.lookup y.1).getD 0)::acc) (fE y.2)))
  rcases hk:fE y.2 with _|_
  ·rw[h0 y acc hk,pure_bind];exact ih' acc
  ·refine bV (h y (.head _) hk) λcc hc=>?_
   rw[h1 y acc cc hk hc,pure_bind,hc]
   exact ih' _
def wQ{scope:Scope}{env:Env}(h:∀y∈scope.names,fE y.2=true->∃cc,env.cells.lookup y.1=some cc):closureFor scope env=pure (uZ env scope.names []):=by
 unfold closureFor
 dsimp only
 refine(bl (· >>= _) (Au (env:=env) _ (λy acc hk=>?_) (λy acc cc hk hc=>?_) scope.names [] h)).trans (pure_bind _ _)
 ·rw[jl] at hk
  rw[hk];rfl
 ·rw[jl] at hk
  rw[hk,if_pos rfl]
  unfold cellOf
  rw[hc];rfl
def Aw{env:Env}{x:Str}{cc:Addr}(hc:env.cells.lookup x=some cc)(sn:List (Str×NameKind)):∀{acc:List (Str×Addr)},((x,NameKind.free)∈sn\/acc.lookup x=some cc)->(uZ env sn acc).lookup x=some cc:=by
 induction sn with
 | nil=>exact λ{acc} h=>h.elim nofun id
 | cons y sn ih=>
  intro acc h
  obtain⟨y,k⟩:=y
  show(uZ env sn (Bool.rec acc ((y,(env.cells.lookup y).getD 0)::acc) (fE k))).lookup x=some cc
  by_cases q:x=y
  ·rw[<-q]
   rcases hk:fE k with _|_
   ·exact ih (h.imp (λh=>(dL.mp h).resolve_left λe=>by refine bS (fI e) λJ_ X_=>?_;obtain rfl:=J_;obtain rfl:=X_;exact bF hk) id)
   ·exact ih (.inr (by rw[hc];show List.lookup x ((x,cc)::acc)=_;rw[vy,beq_self_eq_true]))
  ·have h':(x,NameKind.free)∈sn\/acc.lookup x=some cc:=h.imp (λh=>(dL.mp h).resolve_left λe=>by refine bS (fI e) λYO Zx=>?_;obtain rfl:=YO;obtain rfl:=Zx;exact q rfl) id
   rcases hk:fE k with _|_
   ·exact ih h'
   ·exact ih (h'.imp id λh=>by show List.lookup x (_::acc)=_;rw[vy,pG.mpr q];exact h)
def SY(FB:Expr->CB)(ifs:List Expr):CB:=λloc Y k=>List.rec (k true Y) (λe r _=>bb (bf r) (FB e loc Y k)) ifs
def Jl{r:Rn kx c names n}{FB:Expr->CB}(hB:∀e,jW kx c names n e (FB e)){ifs:List Expr}{loc Y k}(h:SY FB ifs loc Y k=true){s}{G:Bool->Shared->Prop}(S:aN r.toAct p loc Y s)(P:mu r.toAct p loc k G):
  wpAny (Mo c) r.A (forIn ifs true λe b=>if b=true then do let ok<-isTrue e r.env (eval e r.env);pure (ForInStep.yield ok) else pure (ForInStep.yield b)) G r.E s:=by
 rcases ifs with _|⟨e,l⟩
 ·rw[List.forIn_nil];exact dF (P _ _ _ _ (Le.refl _) S h)
 ·refine ag h λe' h=>?_
  rw[aG e',List.forIn_cons,if_pos rfl]
  refine bX (bX (hB e r loc Y _ h p s _ S λq b Y' s' l S' h=>dF ?_))
  show wpAny _ _ (forIn [] b _) _ _ _
  rw[List.forIn_nil]
  exact dF (P _ _ _ _ l S' h)
def EB(sn:List (Str×NameKind))(names:cu):cu:=(Mq sn names.1,names.2)
def OG(x:Str)(sn:List (Str×NameKind))(names:cu):Bool:=bb (Option.rec false jD (kd (code x) sn)) (bb (sn.all λy=>bb (uu y.2).not (bi (jD y.2) (Option.rec false jD (kd (code y.1) sn)) (bi (fE y.2) (Option.rec false (λ_=>true) (lk (code y.1) names.2)) true))) (names.2.all λz=>sn.any λy=>bb (Nat.beq (code y.1) z.1) (fE y.2)))
def SH(F:Expr->CE)(FB:Expr->CB)(elt:Expr)(ifs:List Expr)(all:List V)(x:V)(y:Str)(j:Nat)(k:Sy->Bool)(l:List V):Sy->Bool:=List.rec (λY=>bb (lN all x Y.H) (k Y)) (λv _ g Y=>bb (lN all x Y.H) (SY FB ifs [(code y,v)] Y λb Y=>bi b (F elt [(code y,v)] Y λu Y=>ob ((bh Y.H j).bind dw) λl=>bb (Nat.ble l.length 4000) (g ⟨Y.pc,bW j (.lst (l++[u])) Y.H⟩)) (g Y))) l
def E9(names:cu)(f:Expr->CE)(F:cu->Expr->CE)(FB:cu->Expr->CB)(elt:Expr)(y:Str)(it:Expr)(ifs:List Expr)(sn:List (Str×NameKind))(loc:cL)(Y:Sy)(k:Nat->Sy->Bool):Bool:=
 bb (pZ it) (bb (OG y sn names) (f it loc Y λx Y=>ob (lM x Y.H) λall=>SH (F (EB sn names)) (FB (EB sn names)) elt ifs all x y Y.H.length (k Y.H.length) all ⟨Y.pc,Y.H++[.lst []]⟩))
def Im{A:Around}{E H x u l i o ad s}{Q:Value->Shared->Prop}(hi:ic p c H x u l i o)(z:s.heap.get? ad=some o)(h:Q (.ref ad) s):wpAny (Mo c) A (pyIter (.ref ad)) Q E s:=by
 cases hi with
 | tup h e h1 t h2 h3=>exact wpAny_pyIter_tupleiter ⟨o,z,h1,h3⟩ ‹_›
 | lst h h1 t h2 h3=>exact wpAny_pyIter_listiter ⟨o,z,h1,h3⟩ ‹_›
 | rng w h e h1=>rw[h1] at z;exact wpAny_pyIter_rangeiter z ‹_›
def Act.comp(a:Act c)(G:Heap)(env:Env)(h1:env.scope.kind=.function)(h2:env.globals=mainGlobals)(h3:env.builtins=builtinsNs)(st:a.base.StaysIn G)(ff:G.FunFrames a.base a.fl)(p:Pt):Act c:=
 {base:=a.base,h₀:=G,outer:=a.fl,env:=env,fl:=a.fl,X:=a.X,cv:=a.cv,p₀:=p,gens:=a.gens,os:=a.os,KX:=a.KX,G:=a.G,Bn:=a.Bn,NL:=a.NL,st:=st,ff:=ff,hk:=h1,hg:=h2,hb:=h3,hfl:=.inr rfl}
def qu{a:Act c}{G:Heap}{env:Env}{h1 h2 h3 st ff}{own:fh}{m Y s h}{z:Addr×Obj}(gr:Gb (a.hide z) p m h G own)(S0:aK a p m Y s){q m' Y' s' it o}(S:aK ((a.comp G env h1 h2 h3 st ff p).hide (it,o)) q m' Y' s'):
  ∃oC,(∀h:Heap,h.get? env.locals=some oC->h.Ns env.locals m')/\dR oC/\s'.heap.get? env.locals=some oC/\Le p q/\aK ((a.hide (env.locals,oC)).hide (it,o)) q m Y' s':=by
 refine S.el λg' j_ T' F' N' nd' rh' Zl le' cv' pc' ge' os'=>?_
 refine BF F'.ns λoC es ep hC hCd hCk hCf=>?_
 have le':Le p q:=le'
 have cm:∀{z},z∈j_++(((it,o)::(env.locals,oC)::a.X)++q.I)->z=(env.locals,oC)\/z∈j_++(((it,o)::a.X)++q.I):=λ{z} hz=>(sY.mp hz).elim (λh=>.inr (j5 _ h)) λh=>(dL.mp h).elim (λe=>.inr (j0 _ (e▸.head _))) λh=>(dL.mp h).imp id λh=>j0 _ (.tail _ h)
 have gn:∀z∈j_++(((it,o)::a.X)++q.I),s'.heap.get? z.1=some z.2/\z.1≠env.locals/\G.get? z.1=none:=λz hz=>by
  have n:=N' z hz
  refine⟨n.1,n.2.1,?_⟩
  rcases e:G.get? z.1 with _|o
  ·rfl
  ·refine bV (T'.up e) λsl hs=>?_;rw[n.2.2] at hs;exact oN hs
 have gC:G.get? env.locals=none:=by
  rcases e:G.get? env.locals with _|o
  ·rfl
  ·refine bV (T'.up e) λsl hs=>?_;rw[show g'.get? env.locals=none from kts_self F'] at hs;exact oN hs
 refine⟨oC,λh e=>⟨oC,es,ep,e,hCd,hCk,hCf⟩,jp _ hCd,hC,le',⟨gr.back ((it,o)::(env.locals,oC)::a.X) q Y'.H s'.heap j_ (λb o e _=>⟨λhm=>F'.keep b o (T'.other b o e hm),(T'.up e).elim λsl hs=>⟨sl,F'.keep _ _ hs⟩⟩) (λy hy=>(cm hy).elim (λe=>e▸⟨hC,gC⟩) λhy=>⟨(gn y hy).1,(gn y hy).2.2⟩) ?_ rh' Zl,S0.le.trans le',eh le' (nq (a:=a.hide (env.locals,oC)) (nq (a:=a) S0.cv)),pc',ge',os'⟩⟩
 refine aY (show(((env.locals,oC)::(j_++(((it,o)::a.X)++q.I))).map (·.1)).Nodup from fH.mpr ⟨λhm=>(fw.mp hm).elim λy hy=>(gn y hy.1).2.1 hy.2,nd'⟩) (show(j_++(((it,o)::(env.locals,oC)::a.X)++q.I)).Perm ((env.locals,oC)::(j_++(((it,o)::a.X)++q.I))) from((List.Perm.swap (env.locals,oC) (it,o) (a.X++q.I)).append_left j_).trans nG)
structure Wj(y:Str)(scope:Scope)(r:Rn kx c names n):Prop where
 loc:(relabel scope r.env).names.lookup y=some .local
 cell:∀z∈scope.names,z.2≠.cell
 nm:∀z∈scope.names,z.2=.local->scope.names.lookup z.1=some .local
 fre:∀z∈scope.names,fE z.2=true->∃v,look (code z.1) r.cv=some v
 cv:∀x v,look (code x) r.cv=some v->(x,NameKind.free)∈scope.names
def DS{f:NameKind->Bool}{k:NameKind}(hf:∀{k'},f k'=true->k'=k){o:Option NameKind}(h:(Option.rec false f o:Bool)=true):o=some k:=by
 rcases o with _|k'
 ·exact bT h
 ·rw[hf h]
def tZ{α:Type}{x:Nat}{v:α}(l:List (Nat×α))(h:look x l=some v):(x,v)∈l:=by
 induction l with
 | nil=>exact oN h
 | cons y l ih=>
  obtain⟨y,u⟩:=y
  rw[aX] at h
  by_cases e:y=x
  ·rw[if_pos e] at h;obtain rfl:=Eq.symm (oI h);rw[e];exact .head _
  ·rw[if_neg e] at h;exact .tail _ (ih h)
def yX{y:Str}{scope:Scope}{r:Rn kx c names n}(h:OG y scope.names names=true):Wj y scope r:=ag h λh1 h=>ag h λh2 h3=>by
 have hl:=DS gf h1
 rw[mj] at hl
 have all:=jt.mp h2
 refine⟨lookup_relabel_local hl,?_,?_,?_,?_⟩
 ·intro z hz e
  refine ag (all z hz) λh _=>?_
  rw[e] at h;exact bT h
 ·intro z hz e
  refine ag (all z hz) λ_ h=>?_
  rw[e] at h
  have:=DS gf (show(Option.rec false jD (kd (code z.1) scope.names):Bool)=true from h)
  rwa [mj] at this
 ·intro z hz e
  refine ag (all z hz) λ_ h=>bH h (λe' _=>by rw[gf e'] at e;exact bT e) λ_ h=>bH h (λ_ h=>?_) λe' _=>by rw[e'] at e;exact bT e
  rw[r.hv,<-mi]
  rcases e:lk (code z.1) names.2 with _|v
  ·rw[e] at h;exact bT h
  ·exact⟨v,rfl⟩
 ·intro x v hv
  rw[r.hv] at hv
  have:=jt.mp h3 _ (tZ _ hv)
  refine aH (List.any_eq_true.mp this) λw hw e=>?_
  refine bS (al.mp e) λt1 t2=>?_
  obtain⟨w1,w2⟩:=w
  have t1:=gi.mp (cf t1)
  rw[jl] at t2
  rw[show w1=x from t1,show w2=.free from cS.mp t2] at hw
  exact hw
def v7{a:Act c}{A:Around}{E:Value->Shared->Prop}{m Y s j e}{af3:String}{env:Env}(S:aK a q m Y s)(he:RV c q (.ref j) e)(hx:gX j Y.H)(t:∃ad oe vs T,e=.ref ad/\s.heap.get? ad=some oe/\oe.data=.fields vs/\vs[1]? =some (.ref T))(K:∀h',aK a q m Y {s with heap:=h'}->E e {s with heap:=h'}):
  wpAny (Mo c) A (PySem.passOn af3 e env:Sem Value) (λ_ _=>False) E s:=by
 refine li t λad oe vs T ee t1 t2 t3=>?_
 unfold PySem.passOn
 rw[ee] at he K ⊢
 refine bX (wpAny_field t1 t2 t3 ?_)
 rw[if_neg (show ¬((Value.ref T == Value.none)=true) from by simp)]
 exact bX (S.YG he hx _ λh' S'=>wpAny_throw (K h' S'))
def Ar{r:Rn kx c names n}(h0:0 < n){F:cu->Expr->CE}{FB:cu->Expr->CB}(hF:∀nm e,b6 kx c nm n e (F nm e))(hB:∀nm e,jW kx c nm n e (FB nm e)){elt mo:Expr}{y:Str}{ps ZL:Pos}{ifs:List Expr}{scope:Scope}{x u all loc Y s it o j Da}{use:Option (Value->Sem Unit)}{Q:Value->Shared->Prop}{k:Sy->Bool}
  (S:aN (r.toAct.hide (it,o)) p loc Y s) (hi:ic p c Y.H x u all 0 o) (hv:RV c p x u) (ag4:RV c p (.ref j) (.ref Da)) (hk:scope.kind=.function) (ok:OG y scope.names names=true) (h:SH (F (EB scope.names names)) (FB (EB scope.names names)) elt ifs all x y j k all Y=true)
  (fin:∀q C oC m' Y' s',Le p q->aN (r.toAct.hide (C,oC)) q loc Y' s'->dR oC->(∀h:Heap,h.get? C=some oC->h.Ns C m')->k Y'=true->compPost (Mo c) r.A r.E use Q (.ref Da) C (.ok .next) s'):
  wpAny (Mo c) r.A (newFunctionEnv scope r.env.globals (uZ r.env scope.names []) [] r.env.qual none .none (some r.env)) (λac6 nP=>
   codeAny (Mo c) r.A (.compStart (.ListComp elt [⟨.Name y ps,mo,ifs,0⟩] scope ZL) 0 (.ref it) (.ref Da) {ac6 with scope:=relabel scope r.env}) (compPost (Mo c) r.A r.E use Q (.ref Da) ac6.locals) nP) r.E s:=by
 have ck:=yX (r:=r) ok
 have D:=r.fd
 obtain⟨m,S,rl⟩:=S
 refine Gs S.st.ground λG own rh len nd gr=>?_
 have S0:aK r.toAct p m Y s:=S.Y0 hi.nc (Heap.ExtBut.refl _ _)
 refine wpAny_newFunctionEnv ck.cell (λz hz=>nomatch hz) (λgg hns hsb=>?_) hk
 let env:Env:=compEnvC scope (uZ r.env scope.names []) s.heap.objs.size r.env
 let ac:Act c:=r.toAct.comp G env hk r.hg r.hb gr.st gr.ff p
 let R:Result->Shared->Prop:=compPost (Mo c) r.A r.E use Q (.ref Da) env.locals
 let E':Value->Shared->Prop:=notedBy (Mo c) r.A env λe s'=>R (.error e) s'
 have err:∀o,dR o->∀q m' Y s j e,aK (ac.hide (it,o)) q m' Y s->RV c q (.ref j) e->gX j Y.H->kx j Y=true->E' e s:=λo nc q m' Y s j e S he hx hkx=>by
  refine aK.note (a:=ac.hide (it,o)) S r.hA ⟨D.fe,D.o,D.L,D.fl,D.hfe,D.hf⟩ he hx λh' S' t=>?_
  refine Wl (qu gr S0 S') λoC n1 n2 n3 l aO=>?_
  refine⟨m',n1 _ n3,λh'' hs ac6 _=>?_⟩
  have cK:aK r.toAct q m Y {s with heap:=h''}:=(aO.Y0 nc (Heap.ExtBut.refl _ _)).Y0 n2 hs.extBut
  refine li t λad oe vs T ee t1 t2 t3=>?_
  exact v7 cK he hx ⟨ad,oe,vs,T,ee,hs.extBut ad oe (λe=>by
   have n3:h'.get? env.locals=some oC:=n3
   rw[e,n3] at t1
   refine mE (n1 _ n3) λob _ _ ho hd _=>?_
   rw[n3] at ho;obtain rfl:=oI ho;obtain rfl:=oI t1
   rw[hd] at t2;exact Px Data.ctorIdx t2 rfl) t1,t2,t3⟩ λh' S'=>r.err q m Y _ j e S' he hx hkx
 let rc:∀o,dR o->Rn kx c (EB scope.names names) n:=λo nc=>{toAct:=ac.hide (it,o),fd:=⟨r.fd.fe,r.fd.o,r.fd.L,r.fd.fl,r.fd.hfe,r.fd.hf⟩,A:=r.A,E:=E',hA:=r.hA,hn:=(Hb r.hk).trans (by rw[r.hn];rfl),hv:=r.hv,room:=r.room,err:=err o nc}
 have kp:∀b o,s.heap.get? b=some o->gg.get? b=some o:=λb o e=>hsb.extBut b o (Nat.ne_of_lt (my e)) (s9 _ e)
 have cvE:lh c p ac ((it,o)::ac.X):=λx v e=>(S.cv x v e).elim λcc h=>h.elim λo h=>h.elim λu h=>⟨cc,o,u,Aw h.1 scope.names (.inl (ck.cv x v e)),h.2⟩
 have aC:∀t,aK (ac.hide (it,o)) p (λx=>List.lookup x []) Y {s with heap:=gg,toks:=t}:=λt=>⟨⟨G,own,.refl,⟨hns,λb o e=>kp b o (gr.of b o e),jL gr.size⟩,λz hz=>⟨kp _ _ (gr.ow z hz).1,Nat.ne_of_lt (my (gr.ow z hz).1),(gr.ow z hz).2⟩,nd,rh,len⟩,Le.refl p,cvE,S.pc,S.ge,S.os⟩
 have loop:∀t,codeAny (Mo c) r.A (.compLoop (.ListComp elt [⟨.Name y ps,mo,ifs,0⟩] scope ZL) 0 (.ref it) (.ref Da) env) R {s with heap:=gg,toks:=t}:=λt=>by
  let I:Nat->Shared->Prop:=λn s'=>∃rest p' m' Y' i o,n=rest.length/\Le p p'/\aK (ac.hide (it,o)) p' m' Y' s'/\ic p' c Y'.H x u all i o/\all.drop i=rest/\SH (F (EB scope.names names)) (FB (EB scope.names names)) elt ifs all x y j k rest Y'=true
  refine codeAny_compLoop_tests (elt:=elt) (target:=.Name y ps) (it:=.ref it) (acc:=.ref Da) (env:=env) I (λn' s' hI=>?_) all.length (Pq all p _ Y 0 o rfl (Le.refl _) (aC t) hi rfl h)
  refine Uj hI λrest p' m' Y' i o' en l' S' YL hd h'=>?_
  have YY:=hv.mono l'
  rcases rest with _|⟨v,rest⟩
  ·refine Wl (qu gr S0 S') λoC n1 n2 n3 l aO=>?_
   exact ag h' λ_ h'=>wq (a:=r.toAct.hide (env.locals,oC)) (r.room.handled h0) ⟨m,aO,rl.mono l⟩ YY YL (List.drop_eq_nil_iff.mp hd) λAa cK=>fin p' _ oC m' Y' _ l cK n2 n1 h'
  ·have hx0:all[i]? =some v:=by have:=bl (·[0]?) hd;simpa using this
   have Q_:all.drop (i+1)=rest:=by have:=bl (List.drop 1) hd;simpa [List.drop_drop] using this
   refine ag h' λ_ h'=>rU (a:=ac) (loc:=[]) ⟨m',S',λx v e=>aj e⟩ YY YL hx0 λZI Aa uv YK hR cK io=>?_
   have nc:=YK.nc
   refine wpAny_assign_Name ((cK io).store (a:=ac.hide (it,ZI)) hR ck.loc λnP gI=>?_)
   have next:∀q A0 vQ,Le p' q->aN (ac.hide (it,ZI)) q [(code y,v)] A0 vQ->SH (F (EB scope.names names)) (FB (EB scope.names names)) elt ifs all x y j k rest A0=true->∃m,m < n'/\I m vQ:=λq A0 vQ MY xm h=>by
    obtain⟨UN,xm,_⟩:=xm
    exact⟨rest.length,by rw[en];exact Nat.lt_succ_self _,Pq rest q UN A0 (i+1) ZI rfl (l'.trans MY) xm (yE YK (by induction rest using lC with
     | nil=>exact ag h λh _=>h
     | cons=>exact ag h λh _=>h)) Q_ h⟩
   refine Jl (r:=rc ZI nc) (hB _) h' gI λq b Pf nO wf ia h'=>?_
   rcases b with _|_
   ·exact next q Pf nO wf ia h'
   ·refine hF _ elt (rc ZI nc) [(code y,v)] Pf _ h' q nO _ ia λmG ru w V5 Qi Dn xo hru h'=>ay h' λlst el h'=>ag h' λhz h'=>?_
    refine aH (cU el) λoo ho el=>?_
    rw[bU el] at ho
    exact xg (k:=λ_ Y=>SH (F (EB scope.names names)) (FB (EB scope.names names)) elt ifs all x y j k rest Y) xo (λCG _ _ A0 vQ MY xm _ h=>next CG A0 vQ ((wf.trans Dn).trans MY) xm h) (eQ ho) (λ_ _=>rfl) (λ_ _=>rfl) (dK (fu hz) (by decide)) (ag4.mono (l'.trans (wf.trans Dn))) hru h'
 exact codeAny_compStart_list (env:=env) (loop _) (Im hi (aN.YT (a:=ac) (loc:=[]) ⟨_,aC _,λx v e=>aj e⟩) (loop _))
def Il{H:Hp}{x u all i o ao}(h:ic p c H x u all i o):ic q c (H++[ao]) x u all i o:=by
 cases h with
 | tup h e h1 t h2 h3=>exact .tup h e h1 t h2 h3
 | rng z h e h1=>exact .rng z h e h1
 | lst h h1 t h2 h3=>
  refine .lst (bp h (λe h=>?_) λe0 h=>bp h (λe h=>?_) λ_ h=>aj h) h1 t h2 h3
  ·unfold gH;rw[e];exact h
  ·refine aH (cU h) λoo ho h=>?_
   unfold gH
   rw[e0,e]
   show(bh (H++[ao]) x.xn).bind dw=_
   rw[bK] at ho ⊢
   rw[qI (oD ho).1,ho];exact h
def T6(names:cu)(F:cu->Expr->CE)(FB:cu->Expr->CB)(elt:Expr)(y:Str)(it:Expr)(ifs:List Expr)(scope:Scope):CE:=λloc Y k=>bb (ZS scope.kind) (E9 names (F names) F FB elt y it ifs scope.names loc Y λj Y=>k (.ref j) Y)
where ZS (k:ScopeKind):Bool:=match k with
 | .function=>true
 | _=>false
def ur{k}(h:T6.ZS k=true):k=.function:=by cases k <;> first|rfl|exact bT h
def uV{r:Rn kx c names n}(h0:0 < n){F:cu->Expr->CE}{FB:cu->Expr->CB}(hF:∀nm e,b6 kx c nm n e (F nm e))(hB:∀nm e,jW kx c nm n e (FB nm e)){elt mo:Expr}{y:Str}{ps pos:Pos}{ifs:List Expr}{scope:Scope}{loc Y p s}{use:Option (Value->Sem Unit)}{Q:Value->Shared->Prop}{k:Nat->Sy->Bool}
  (hk:scope.kind=.function) (S:aN r.toAct p loc Y s) (h:E9 names (F names) F FB elt y mo ifs scope.names loc Y k=true)
  (fin:∀q C oC m' Y' s' j D,Le p q->aN (r.toAct.hide (C,oC)) q loc Y' s'->dR oC->(∀h:Heap,h.get? C=some oC->h.Ns C m')->RV c q (.ref j) (.ref D)->k j Y'=true->compPost (Mo c) r.A r.E use Q (.ref D) C (.ok .next) s'):
  wpAny (Mo c) r.A (comprehension (.ListComp elt [⟨.Name y ps,mo,ifs,0⟩] scope pos) scope r.env (firstIterPos [⟨.Name y ps,mo,ifs,0⟩] pos) (newList []) false (eval mo r.env) use) Q r.E s:=
 ag h λhp h=>ag h λok h=>by
  have ck:=yX (r:=r) ok
  refine wpAny_comprehension_free (cl:=uZ r.env scope.names []) rfl ((fz hp).fold _) (wQ λz hz e=>?_) hk ck.nm (hF names mo r loc Y _ h p s _ S λbP u x bn aJ bA aC hv h=>ay h λall ha h=>oG aC hv ha λo hi aO=>
   wpAny_newObj_type (aO.own (x:=cJ [] 0) (λg m F=>F.push _) (λg m l F N=>News.push F N _) aJ.toks (o:=.lst []) (λq l e=>⟨_,_,e,[],0,.nil,rfl⟩) λq l i cK=>?_) (fv _))
  ·refine bV (ck.fre z hz e) λv hv=>?_
   obtain⟨m,S,_⟩:=S
   refine J9 (S.cv z.1 v hv) λcc _ _ h _=>?_
   exact⟨cc,h⟩
  ·exact Ar h0 hF hB cK (Il hi) (hv.mono l) i hk ok h λq' C oC m' Y' s' l' S' n1 n2 h=>fin q' C oC m' Y' s' _ _ ((bA.trans l).trans l') S' n1 n2 (i.mono l') h
def OR(h0:0 < n){F:cu->Expr->CE}{FB:cu->Expr->CB}(hF:∀nm e,b6 kx c nm n e (F nm e))(hB:∀nm e,jW kx c nm n e (FB nm e)){elt it:Expr}{y:Str}{ps pos:Pos}{ifs:List Expr}{scope:Scope}:b6 kx c names n (.ListComp elt [⟨.Name y ps,it,ifs,0⟩] scope pos) (T6 names F FB elt y it ifs scope):=λr loc Y k h p s G S P=>ag h λhk h=>by
 rw[eval_ListComp]
 exact uV h0 (use:=none) hF hB (ur hk) S h λq C oC m' Y' s' j D l S' n1 n2 i h=>⟨m',n2 _ S'.YT,λh' hs=>P q _ _ _ _ l (S'.aa7 n1 hs.extBut) i h⟩
def Lq(names:cu)(F:cu->Expr->CE)(FB:cu->Expr->CB)(elt:Expr)(x y:Str)(it:Expr)(ifs:List Expr)(scope:Scope)(px pos:Pos):CS:=λloc Y k=>bb (T6.ZS scope.kind) (bb (mJ names x) (bb (px.line == pos.line) (bb (scope.names.any λz=>z.1 == x && (z.2 == .local || z.2 == .cell)).not (E9 names (F names) F FB elt y it ifs scope.names loc Y λj Y=>k .next (pt (code x) (.ref j) loc) Y))))
def Ft(h0:0 < n){F:cu->Expr->CE}{FB:cu->Expr->CB}(hF:∀nm e,b6 kx c nm n e (F nm e))(hB:∀nm e,jW kx c nm n e (FB nm e)){elt it:Expr}{x y:Str}{px ps pos ZL:Pos}{ifs:List Expr}{scope:Scope}:jK kx c names n (.Assign [.Name x px] (.ListComp elt [⟨.Name y ps,it,ifs,0⟩] scope pos) ZL) (Lq names F FB elt x y it ifs scope px pos):=λr loc Y k h p s G S P=>ag h λhk h=>ag h λhl h=>ag h λhp h=>ag h λhn h=>by
 have hy:=fL (r:=r) hl
 have hsw:swapsWith (.ListComp elt [⟨.Name y ps,it,ifs,0⟩] scope pos) (some (.Name x px)) ZL.line r.env=pure true:=by
  show(pure (r.env.blockKind == .function && r.env.kindOf x == some .local && px.line == pos.line && !(scope.names.any λz=>z.1 == x && (z.2 == .local || z.2 == .cell))):Sem Bool)=_
  rw[show r.env.kindOf x=some .local from hy,hp,hn,show r.env.blockKind=.function by unfold Env.blockKind;rw[r.hk];rfl]
  rfl
 rw[exec_Assign_Name_used _ _ _ _ hsw]
 refine bX (wpAny_standAt (bX ?_))
 show wpAny _ r.A (do let _<-comprehension (.ListComp elt [⟨.Name y ps,it,ifs,0⟩] scope pos) scope r.env _ (newList []) false (eval it r.env) (some (assign (.Name x px) r.env))) _ _ s
 refine bX (wpAny_mono (uV (ps:=ps) (pos:=pos) (Q:=λ_ s'=>G .next s') (use:=some (assign (.Name x px) r.env)) h0 hF hB (ur hk) S h λq C oC m' Y' s' j D l S' n1 n2 i h=>?_) (λ_ s' hq=>dF (dF hq)) λ_ _ e=>e)
 exact wpAny_assign_Name (S'.store i hy λb8 aO=>⟨m',n2 _ aO.YT,λh' hs=>P q _ .next _ _ _ l (aO.aa7 n1 hs.extBut) rfl h⟩)
variable{X:gx}{fns:Addr->Option FS}
def aq:Nat->Sy->Bool:=λ_ _=>false
def A1(kx:Nat->Sy->Bool)(X:gx):Prop:=∀j Y,X.rx j Y=true->kx j Y=true
def pn(c:Cx)(n:Nat)(X:gx):Prop:=∀rx f sp,X.tr rx f=some sp->ah rx c n f sp/\keepIn c.K (.ref f)=true
theorem pn.le{m:Nat}(h:pn c n X)(hm:n<=m):pn c m X:=λrx f sp e=>⟨(h rx f sp e).1.le hm,(h rx f sp e).2⟩
def aK.sta{a:Act c}{m Y s}(S:aK a p m Y s):aN a p [] Y s:=⟨m,S,λx v h=>aj h⟩
def aK.r_{a:Act c}{m Y s j e C l}(S:aK a p m Y s)(he:RV c p (.ref j) e)(hj:Y.H[j]? =some (.exc C l)):∃ad oe vs,e=.ref ad/\s.heap.get? ad=some oe/\oe.cls=.ref C/\oe.data=.fields vs:=by
 refine aH (S.sta.look hj) λx R g=>?_
 refine iR he.inv λad d ee g_=>?_
 refine(eF.gt R g_).casesOn λes oe vs dl hR hc hd h0 ZW hx=>?_
 exact⟨ad,oe,vs,ee,hx.elim (λh=>g _ (by rw[h.2];exact .head _)) λh=>h.elim λT h=>h.elim λoT h=>h.elim λts h=>g _ (by rw[h.2.2.2];exact .head _),hc,hd⟩
section
variable{prog:Program}{w:World}{A:Around}{E:Value->Shared->Prop}{env:Env}{K:Frag}
def Hg{s:Shared}{x:Sem Value}{Q:Flow->Shared->Prop}(hh:A.handled=none)
  (h:wpAny (model prog w) A x (λv aJ=>∃e oe vs C f,v=.ref e/\A6 K C f/\K.In aJ.heap/\
   aJ.heap.get? e=some oe/\oe.cls=.ref C/\oe.data=.fields vs/\wpAny (model prog w) A (setFlight (.ref e) none) (λ_ b8=>E (.ref e) b8) E aJ) E s):
  wpAny (model prog w) A (raiseStmt env (some x) none) Q E s:=by
 unfold raiseStmt
 refine bX (wpAny_mono h (λv aJ gg=>?_) λ_ _ x=>x)
 obtain⟨e,oe,vs,C,f,rfl,XK,X,he,aa8,hd,hE⟩:=gg
 refine XK.at_.casesOn λnm qn N bs bm Zh sn sub ab col dd k0 k1 k2 k3 k5 hK B=>?_
 have hC:=X _ _ hK
 have hcB:(Value.ref C::bm).contains (.type "BaseException")=true:=by rw[Br,B.b,Bool.or_true]
 obtain⟨oc,odi,oda,osl⟩:=oe
 dsimp only at aa8 hd
 subst aa8 hd
 obtain⟨hp,g,d,tk,os⟩:=aJ
 repeat (first|with_reducible refine zr he ?_|with_reducible refine zr hC ?_|(with_reducible refine wpAny_isSubtype_exc hC ?_;rw[hcB])|with_reducible refine bX (wpAny_mono hE (λ_ b8 hE=>?_) λ_ _ x=>x)|wp_step)
 exact wpAny_raiseNew_none hh hE
def zT{s:Shared}{e C f:Addr}{oe:Obj}{Q:Bool->Shared->Prop}(XK:A6 K C f)(X:K.In s.heap)(he:s.heap.get? e=some oe)(aa8:oe.cls=.ref C)(hq:Q true s):wpAny (model prog w) A (excMatches (.ref e) (.ref C)) Q E s:=by
 refine XK.at_.casesOn λnm qn N bs bm Zh sn sub ab col dd k0 k1 k2 k3 k5 hK B=>?_
 exact wpAny_excMatches_sub_self (X _ _ hK) he aa8 B.b hq
end
def EV(X:gx)(f:CE):CS:=λloc Y k=>f loc Y λv Y=>bb (Nat.beq v.tag 11) (ob ((bh Y.H v.xn).bind qA) λz=>ob (X.exc z.1) λ_=>X.rx v.xn Y)
def vg{H:Hp}{j:Nat}{z}(h:(bh H j).bind qA=some z):H[j]? =some (.exc z.1 z.2):=by
 refine aH (cU h) λo ho ez=>?_
 rw[pg ez] at ho
 exact eQ ho
def AC(C:bY c X)(RX:A1 kx X)(h0:0 < n){e:Expr}{pos:Pos}{f:CE}(hf:b6 kx c names n e f):jK kx c names n (.Raise (some e) none pos) (EV X f):=λr loc Y k h p s G S P=>by
 rw[arm_exec_Raise]
 refine bX (wpAny_standAt (Hg (K:=c.K) (r.room.handled h0) (bX (hf r loc Y _ h p s _ S λq u v bn aJ l aC hv h=>bX (wpAny_standAt (dF ?_))))))
 refine ag h λe1 h=>ay h λz hz h=>ay h λfi hfi h=>?_
 rw[V.is e1] at hv
 have hj:=vg hz
 obtain⟨m,aC,rl⟩:=aC
 refine BF (aC.r_ hv hj) λad oe vs ee hg hc hd=>?_
 exact⟨ad,oe,vs,z.1,fi,ee,C.exc _ _ hfi,aC.sta.X,hg,hc,hd,ee▸aC.YG hv ⟨_,_,hj⟩ none λh' S'=>r.err q m bn _ v.xn u S' hv ⟨_,_,hj⟩ (RX _ _ h)⟩
def Kt(X:gx)(v:V)(mn:Str)(Y:Sy):Option FS:=ij (kX mn "get") (ij (Nat.beq v.tag 11) ((bh Y.H v.xn).bind λo=>ij (rY o) (some (II X.ft))))
def Dc(C:bY c X){a:Act c}{loc Y}{v:V}{mn:Str}{sp:FS}(h:Kt X v mn Y=some sp):∃g,sR a loc v mn Y g/\qi c.K g=true/\l9 kx c n g sp:=be h λe h=>be h λev h=>by
 rw[dn.mp e]
 refine aH (cU h) λo ho h=>?_
 exact be h λhd h=>⟨.builtin "dict.get",by rw[V.is ev];exact qp (eQ ho) hd,rfl,by obtain rfl:=oI h;exact sj C.ft⟩
def S3(X:gx)(f:Expr->CE)(o:Expr)(mn:Str)(apos pos:Pos)(es:List Expr):CE:=λloc Y k=>bb (pZ o) (bb (es.all Bb) (bb (Nat.ble es.length 29) (bb (apos.endLine == pos.line) (f o loc Y λv Y=>ob (Kt X v mn Y) λsp=>iI f es loc Y λvs Y=>sp (v::vs) Y k))))
def Jn(C:bY c X){f:Expr->CE}(hf:∀e,b6 kx c names n e (f e)){o:Expr}{mn:Str}{apos pos:Pos}{es:List Expr}:b6 kx c names n (.Call (.Attribute o mn apos) es [] pos) (S3 X f o mn apos pos es):=λr loc Y k h=>ag h λhb h=>ag h λhp h=>ag h λhn h=>ag h λhl h=>
 u4 hf hb hp (Nat.lt_succ_of_le (fu hn)) hl h λv Y h=>ay h λsp hsp h=>(Dc C hsp).elim λg hg=>⟨g,_,hg.1,hg.2.1,h,λvs Y h=>hg.2.2 r (v::vs) loc Y k h⟩
end
section
variable{c:Cx}{p q:Pt}{kx:Nat->Sy->Bool}{names:cu}{n:Nat}{σ:Sg}{X:gx}{fns:Addr->Option FS}{ft:FT}{f:Expr->CE}{pos:Pos}{es:List Expr}{FB:cu->Expr->CB}
def sE{e:Expr}:jW kx c names n e (λ_ _ _=>false):=λ_ _ _ _ h=>nomatch h
def EU(ft:FT)(f:CE):CE:=λloc Y k=>f loc Y λv Y=>k (TW ft (res ft v)) Y
def nw(F:aI c.σ ft){e:Expr}{f:CE}(hf:b6 kx c names n e f):b6 kx c names n e (EU ft f):=λr loc Y k h p s G S P=>hf r loc Y _ h p s G S λq u v Y s l S hv h=>P q u _ Y s l S (Ev F (Cu F hv)) h
def ER(ft:FT)(i:Expr)(f:CE)(g:CE):CE:=match i with
 | .Slice lo hi st _=>S5 lo hi st f
 | i=>SS ft i f g
def u5(F:aI c.σ ft){o i:Expr}{f g:CE}(hf:b6 kx c names n o f)(hg:b6 kx c names n i g):b6 kx c names n (.Subscript o i pos) (ER ft i f g):=by
 induction i using Expr.casesOn with
 | Slice=>exact Jq hf
 | _=>exact Je F hf hg
def Lh(ft:FT)(f:Expr->CE)(l:Expr)(ops:List CmpOp)(rs:List Expr):CE:=λloc Y k=>bR ops λop t=>bb (bf t) (bR rs λe t=>bb (bf t) (S6 ft op e (f l) (f e) loc Y k))
def Fa(F:aI c.σ ft)(hf:∀e,b6 kx c names n e (f e)){l:Expr}{ops:List CmpOp}{rs:List Expr}:b6 kx c names n (.Compare l ops rs pos) (Lh ft f l ops rs):=λr loc Y k h=>aZ h λop t e1 h=>ag h λn1 h=>aZ h λe t e2 h=>ag h λn2 h=>by
 rw[e1,e2,aG n1,aG n2]
 exact Jr F (hf _) (hf _) r loc Y k h
def Fb(ft:FT)(f:Expr->CE)(l:Expr)(ops:List CmpOp)(rs:List Expr):CB:=λloc Y k=>bR ops λop t=>bR rs λe u=>bi (bf t) (bb (bf u) (Li ft op e (f l) (f e) loc Y k)) (bR t λop' t=>bb (bf t) (bR u λe' u=>bb (bf u) (S7 ft op op' e e' (f l) (f e) (f e') loc Y k)))
def AF(F:aI c.σ ft)(hf:∀e,b6 kx c names n e (f e)){l:Expr}{ops:List CmpOp}{rs:List Expr}:jW kx c names n (.Compare l ops rs pos) (Fb ft f l ops rs):=λr loc Y k h=>aZ h λop t e1 h=>aZ h λe u e2 h=>bH h (λn1 h=>ag h λn2 h=>by
  rw[e1,e2,aG n1,aG n2]
  exact Fc F (hf _) (hf _) r loc Y k h) λ_ h=>aZ h λop' t' e3 h=>ag h λn1 h=>aZ h λe' u' e4 h=>ag h λn2 h=>by
  rw[e1,e2,e3,e4,aG n1,aG n2]
  exact Js F (hf _) (hf _) (hf _) r loc Y k h
def Lj(X:gx)(fns:Addr->Option FS)(f:Expr->CE)(g:Expr)(es:List Expr)(Y4:List Keyword)(pos:Pos):CE:=match Y4 with
 | []=>match g with
  | .Name _ _=>Ff X fns f g es
  | .Attribute o mn apos=>Fg X fns f o mn apos pos es
  | _=>mN
 | _=>mN
def Fe(C:bY c X)(F:bD kx c n fns)(hf:∀e,b6 kx c names (n+1) e (f e)){g:Expr}{Y4:List Keyword}:b6 kx c names (n+1) (.Call g es Y4 pos) (Lj X fns f g es Y4 pos):=by
 induction Y4 using lC with
 | cons=>exact cR
 | nil=>induction g using Expr.casesOn with
  | Name=>exact AG C F hf
  | Attribute=>exact AH C F hf
  | _=>exact cR
def VQ(ft:FT)(f:Expr->CE)(op:UnaryOp)(e:Expr):CE:=match op with
 | .Not=>SV ft (f e)
 | .USub=>λ_ Y k=>ob (Dw e) λi=>k (.int (-i)) Y
 | _=>mN
def EP(F:aI c.σ ft)(hf:∀e,b6 kx c names n e (f e)){op:UnaryOp}{e:Expr}:b6 kx c names n (.UnaryOp op e pos) (VQ ft f op e):=by
 induction op using UnaryOp.casesOn with
 | Not=>exact Jh F (hf e)
 | USub=>
  refine λr loc Y k h=>ay h λi hi h=>?_
  refine xE (rq hi) λj q e=>?_
  rw[e]
  exact Ji r loc Y k h
 | _=>exact cR
def SX(names:cu)(F:cu->Expr->CE)(FB:cu->Expr->CB)(elt:Expr)(gs:List Comprehension)(scope:Scope):CE:=match gs with
 | [⟨.Name y _,it,ifs,0⟩]=>T6 names F FB elt y it ifs scope
 | _=>mN
def Jk(h0:0 < n){F:cu->Expr->CE}(hF:∀nm e,b6 kx c nm n e (F nm e))(hB:∀nm e,jW kx c nm n e (FB nm e)){elt:Expr}{gs:List Comprehension}{scope:Scope}:b6 kx c names n (.ListComp elt gs scope pos) (SX names F FB elt gs scope):=by
 rcases gs with _|⟨g,gs⟩
 ·exact cR
 ·obtain⟨tg,it,ifs,a⟩:=g
  induction tg using Expr.casesOn with
  | Name y _=>induction a using Int.casesOn with
   | negSucc=>induction gs using lC <;> exact cR
   | ofNat k=>induction k using nC with
    | succ=>induction gs using lC <;> exact cR
    | zero=>
     rcases gs with _|⟨_,_⟩
     ·exact OR h0 hF hB
     ·exact cR
  | _=>exact cR
def eE(X:gx)(fns:Addr->Option FS)(F:cu->Expr->CE)(FB:cu->Expr->CB)(names:cu)(e:Expr):CE:=match e with
 | .Name x _=>EZ X.gl names x
 | .Constant x _ _=>wY x
 | .Attribute o x _=>Fq X o x (F names o)
 | .Subscript o i _=>EU X.ft (ER X.ft i (F names o) (F names i))
 | .Tuple es _ _=>OO (iI (F names) es)
 | .List es _=>SW (iI (F names) es)
 | .BinOp l op r _=>S9 X.ft op (F names l) (F names r)
 | .Compare l ops rs _=>Lh X.ft (F names) l ops rs
 | .BoolOp op es _=>y8 X.ft op (F names) es
 | .UnaryOp op e _=>VQ X.ft (F names) op e
 | .IfExp t x y _=>OT (FB names t) (F names x) (F names y)
 | .Call g es Y4 pos=>EU X.ft (Lj X fns (F names) g es Y4 pos)
 | .Dict ks vs _=>E6 (F names) ks vs
 | .ListComp elt gs scope _=>SX names F FB elt gs scope
 | _=>mN
def eB(X:gx)(F:cu->Expr->CE)(FB:cu->Expr->CB)(names:cu)(e:Expr):CB:=match e with
 | .BoolOp op es _=>wZ op (FB names) es
 | .UnaryOp op e' _=>match op with
  | .Not=>λloc Y k=>FB names e' loc Y λb Y=>k b.not Y
  | _=>λ_ _ _=>false
 | .IfExp t x y _=>SZ (FB names t) (FB names x) (FB names y)
 | .Compare l ops rs _=>Fb X.ft (F names) l ops rs
 | e=>SU X.ft e (F names e)
def Sw(C:bY c X)(Fn:bD kx c n fns){F:cu->Expr->CE}(hF:∀nm e,b6 kx c nm (n+1) e (F nm e))(hB:∀nm e,jW kx c nm (n+1) e (FB nm e))(e:Expr):b6 kx c names (n+1) e (eE X fns F FB names e):=by
 induction e using Expr.casesOn with
 | Name=>exact u6 C.glob _ _
 | Constant=>exact qy _ _ _
 | Attribute=>exact u7 C (hF _ _)
 | Subscript=>exact nw C.ft (u5 C.ft (hF _ _) (hF _ _))
 | Tuple=>exact y0 (kZ (hF _) _)
 | List=>exact Jj (kZ (hF _) _)
 | BinOp=>exact Ju C.ft (hF _ _) (hF _ _)
 | Compare=>exact Fa C.ft (hF _)
 | BoolOp=>exact Fj C.ft (hF _) _
 | UnaryOp=>exact EP C.ft (hF _)
 | IfExp=>exact y6 (hB _ _) (hF _ _) (hF _ _)
 | Call=>exact nw C.ft (Fe C Fn (hF _))
 | Dict=>exact AE (hF _)
 | ListComp=>exact Jk (qG n) hF hB
 | _=>exact cR
def KW(C:bY c X){F:cu->Expr->CE}(hF:∀nm e,b6 kx c nm n e (F nm e))(hB:∀nm e,jW kx c nm n e (FB nm e))(e:Expr):jW kx c names n e (eB X F FB names e):=by
 induction e using Expr.casesOn with
 | BoolOp=>exact AK (hB _) _
 | UnaryOp op=>induction op using UnaryOp.casesOn with
  | Not=>exact EY (hB _ _)
  | _=>exact sE
 | IfExp=>exact Jm (hB _ _) (hB _ _) (hB _ _)
 | Compare=>exact AF C.ft (hF _)
 | _=>exact Jg C.ft (hF _ _)
def Gq(X:gx)(fns:Addr->Option FS)(m:Nat):(cu->Expr->CE)×(cu->Expr->CB):=Nat.rec (λ_ _=>mN,λ_ _ _ _ _=>false) (λ_ g=>(eE X fns g.1 g.2,eB X g.1 g.2)) m
def wW(C:bY c X)(Fn:bD kx c n fns)(m:Nat):(∀nm e,b6 kx c nm (n+1) e ((Gq X fns m).1 nm e))/\∀nm e,jW kx c nm (n+1) e ((Gq X fns m).2 nm e):=by
 induction m with
 | zero=>exact⟨λ_ _=>cR,λ_ _=>sE⟩
 | succ m ih=>exact⟨λnm e=>Sw C Fn ih.1 ih.2 e,λnm e=>KW C ih.1 ih.2 e⟩
def Fh(X:gx)(f:Expr->CE)(g:Expr)(es:List Expr)(Y4:List Keyword)(pos:Pos):CE:=match Y4 with
 | []=>match g with
  | .Attribute o mn apos=>S3 X f o mn apos pos es
  | _=>mN
 | _=>mN
def AI(C:bY c X)(hf:∀e,b6 kx c names n e (f e)){g:Expr}{Y4:List Keyword}:b6 kx c names n (.Call g es Y4 pos) (Fh X f g es Y4 pos):=by
 induction Y4 using lC with
 | cons=>exact cR
 | nil=>induction g using Expr.casesOn with
  | Attribute=>exact Jn C hf
  | _=>exact cR
def eH(X:gx)(F:cu->Expr->CE)(FB:cu->Expr->CB)(names:cu)(e:Expr):CE:=match e with
 | .Name x _=>EZ X.gl names x
 | .Constant x _ _=>wY x
 | .Attribute o x _=>Fq X o x (F names o)
 | .Subscript o i _=>EU X.ft (ER X.ft i (F names o) (F names i))
 | .Tuple es _ _=>OO (iI (F names) es)
 | .UnaryOp op e _=>VQ X.ft (F names) op e
 | .IfExp t x y _=>OT (FB names t) (F names x) (F names y)
 | .Call g es Y4 pos=>EU X.ft (Fh X (F names) g es Y4 pos)
 | _=>mN
def Sv(C:bY c X){F:cu->Expr->CE}(hF:∀nm e,b6 kx c nm n e (F nm e))(hB:∀nm e,jW kx c nm n e (FB nm e))(e:Expr):b6 kx c names n e (eH X F FB names e):=by
 induction e using Expr.casesOn with
 | Name=>exact u6 C.glob _ _
 | Constant=>exact qy _ _ _
 | Attribute=>exact u7 C (hF _ _)
 | Subscript=>exact nw C.ft (u5 C.ft (hF _ _) (hF _ _))
 | Tuple=>exact y0 (kZ (hF _) _)
 | UnaryOp=>exact EP C.ft (hF _)
 | IfExp=>exact y6 (hB _ _) (hF _ _) (hF _ _)
 | Call=>exact nw C.ft (AI C (hF _))
 | _=>exact cR
def VR(X:gx)(m:Nat):(cu->Expr->CE)×(cu->Expr->CB):=Nat.rec (λ_ _=>mN,λ_ _ _ _ _=>false) (λ_ g=>(eH X g.1 g.2,eB X g.1 g.2)) m
def OW(C:bY c X)(m:Nat):(∀nm e,b6 kx c nm n e ((VR X m).1 nm e))/\∀nm e,jW kx c nm n e ((VR X m).2 nm e):=by
 induction m with
 | zero=>exact⟨λ_ _=>cR,λ_ _=>sE⟩
 | succ m ih=>exact⟨λnm e=>Sv C ih.1 ih.2 e,λnm e=>KW C ih.1 ih.2 e⟩
def RT(X:gx)(F:Expr->CE)(ex nm:Str)(ep:Pos)(he:Expr)(loc:cL)(k:KS)(j:Nat)(Y:Sy):Bool:=
 F (.Name ex ep) loc Y λv Y=>bb (Nat.beq v.tag 12) (ob ((bh Y.H j).bind qA) λz=>bb (Nat.beq z.1 v.xn) (ob (X.exc z.1) λ_=>F he (pt (code nm) (.ref j) loc) Y λv Y=>k (.ret v) [] Y))
def SR(X:gx)(F:Expr->CE)(names:cu)(e0:Expr)(x:Str)(xp:Pos)(es:List Expr)(ex:Str)(ep:Pos)(nm:Str)(he:Expr):CS:=λloc Y k=>
 bb (pZ e0) (bb (es.all Bb) (bb (mJ names nm) (F e0 loc Y λv0 Y=>F (.Name x xp) loc Y λvf Y=>bb (Nat.beq vf.tag 12) (ob (X.tr aq vf.xn) λ_=>iI F es loc Y λvs Y=>ob (X.tr (RT X F ex nm ep he loc k) vf.xn) λsp=>sp vs Y λv Y=>k (.ret (.tup [v0,v])) loc Y))))
def Act.at0(a:Act c)(p:Pt):Act c:={a with p₀:=p}
theorem aK.at0{a:Act c}{m Y s}(S:aK a p m Y s):aK (a.at0 p) p m Y s:=⟨let⟨g,own,tn,F,N,nd,rh,len⟩:=S.st;⟨g,own,tn,F,N,nd,rh,len⟩,Le.refl _,S.cv,S.pc,S.ge,S.os⟩
def aK.of0{a:Act c}{m Y s bP}(S:aK (a.at0 bP) q m Y s)(l:Le a.p₀ bP):Le bP q/\aK a q m Y s:=⟨S.le,let⟨g,own,tn,F,N,nd,rh,len⟩:=S.st;⟨g,own,tn,F,N,nd,rh,len⟩,l.trans S.le,S.cv,S.pc,S.ge,S.os⟩
def Ix(C:bY c X){F:Expr->CE}(hF:∀e,b6 aq c names 0 e (F e)){r:Rn kx c names n}{ex nm:Str}{ep hp ZU:Pos}{he:Expr}{loc:cL}{k:KS}{j:Nat}{m Y s e}{G:Flow->Shared->Prop}
  (hn:mJ names nm=true) (h:RT X F ex nm ep he loc k j Y=true) (S:aK r.toAct p m Y s) (rl:RL c p loc m) (hj:RV c p (.ref j) e) (hx:gX j Y.H) (P:ms r.toAct p k G):
  wpAny (Mo c) r.A (handleBy e r.env [.ExceptHandler (some (.Name ex ep)) (some nm) [.Return (some he) hp] ZU]) G r.E s:=by
 refine iR hj.inv λad d ee g_=>?_
 rw[ee] at hj ⊢
 have room:jz (r.A.mark (some (.ref ad))) 0:=⟨by have:=r.room.depth;show r.A.depth+_<=_;lia,by have:=r.room.units;show r.A.units+_<=_;lia,λh=>absurd h (zq 0)⟩
 let rH:(Value->Shared->Prop)->Rn aq c names 0:=λE=>{toAct:=r.toAct,A:=r.A.mark (some (.ref ad)),E:=E,fd:=r.fd,hA:=r.hA,hn:=r.hn,hv:=r.hv,room:=room,err:=λ_ _ _ _ _ _ _ _ _ h=>nomatch h}
 refine wpAny_handleBy_cons (codeAny_handlers_test (hF _ (rH _) loc Y _ h p s _ ⟨m,S,rl⟩ λq u v cW b8 l aO hv h=>?_)) (by intro q;exact Px Value.ctorIdx q rfl)
 have aO:aN r.toAct q loc cW b8:=aO
 refine ag h λe1 h=>ay h λz hz h=>ag h λe2 h=>ay h λfi hfi h=>?_
 have hj':=vg hz
 obtain⟨tW,aO,xY⟩:=aO
 refine BF (aO.r_ (hj.mono l) hj') λad' oe vs ee' hg hc hd=>?_
 obtain rfl:=nF ee'
 have hu:u=.ref z.1:=by rw[xU (kQ.1 e1) hv,cf e2]
 rw[hu]
 refine zT (C.exc _ _ hfi) aO.sta.X hg hc ?_
 refine codeAny_handlers_suite_as (aO.YG (hj.mono l) ⟨_,_,hj'⟩ none λh' cK=>aN.store ⟨tW,cK,xY⟩ (hj.mono l) (fL hn) λnP gI=>?_)
 refine nH (wpAny_Return_some (hF he (rH _) _ cW _ h q nP _ gI λCG u v xk nO iq ia hv h=>?_))
 have ia:aN r.toAct CG _ xk nO:=ia
 refine ia.el λX6 g own tn F N nd rh len le cv pc ge os Wr=>?_
 exact wpAny_nameGoes (fL hn) F.ns (by rw[r.hk];rfl) λh' m' Zs hs=>P CG _ (.ret v) [] xk _ (l.trans iq) ⟨m',⟨⟨g,own,tn,F.set Zs hs,N.set hs,nd,rh,len⟩,le,cv,pc,ge,os⟩,λx v h=>aj h⟩ ⟨u,rfl,hv⟩ h
def Sc{M:Model}{A:Around}{s:Shared}{α:Type}{t:Sem α}{G:α->Shared->Prop}{E:Value->Shared->Prop}(h:∀E',(∀e s,E e s->E' e s)->wpAny M A t G E' s):wpAny M A t G E s:=h E λ_ _ h=>h
def Jd(C:bY c X)(TR:pn c n X){F:Expr->CE}(hF:∀n e,b6 aq c names n e (F e)){e0 he:Expr}{x ex nm:Str}{xp ah4 tp rp ep hp ZU:Pos}{j:Nat}:
  jK kx c names n (.Try [.Return (some (.Tuple [e0,.Call (.Name x xp) es [] ah4] j tp)) rp] [.ExceptHandler (some (.Name ex ep)) (some nm) [.Return (some he) hp] ZU] [] [] pos) (SR X F names e0 x xp es ex ep nm he):=λr loc Y k h p s G S P=>by
 refine ag h λh1 h=>ag h λh2 h=>ag h λh3 h=>?_
 obtain⟨m,S,rl⟩:=S
 have S0:aN (r.toAct.at0 p) p loc Y s:=⟨m,S.at0,rl⟩
 have lp:=S.le
 have un:∀{q m' Y' s'},aK (r.toAct.at0 p) q m' Y' s'->Le p q/\aK r.toAct q m' Y' s':=λS=>S.of0 lp
 refine wpAny_Try_except ?_
 refine Sc λE' kE=>?_
 let r':(Value->Shared->Prop)->Rn aq c names n:=λE=>{toAct:=r.toAct.at0 p,A:=r.A,E:=E,fd:=⟨r.fd.fe,r.fd.o,r.fd.L,r.fd.fl,r.fd.hfe,r.fd.hf⟩,hA:=r.hA,hn:=r.hn,hv:=r.hv,room:=r.room,err:=λ_ _ _ _ _ _ _ _ _ h=>nomatch h}
 refine nH (wpAny_Return_some (Tuple_ (spliced_more (hF n e0 (r' _) loc Y _ h p s _ S0 λbP Xk Up bn aJ bA aC RS h=>spliced_more ?_ rfl) ((fz h1).st _ _))))
 refine u3 (r:=r' _) (hF n) (k:=λv Y=>k (.ret (.tup [Up,v])) loc Y) h2 h (λvf Y h=>?_) bP aJ _ aC λgu u v cW b8 bL aO hv h=>spliced_none ?_
 ·refine ag h λe1 h=>ay h λsp0 af7 h=>⟨.ref vf.xn,_,kQ.1 e1,(TR _ _ _ af7).2,h,λvs Y h=>ay h λsp hsp h=>?_⟩
  ·refine bS (TR _ _ _ hsp) λhs ah9=>?_
   intro gu b8 G' us aO P' p_
   obtain⟨tW,aO,xY⟩:=aO
   refine wpAny_call (hs (r.toAct.at0 p) r.A gu tW Y b8 vs us _ _ r.room r.hA h aO p_ (λq u v Y s' l S' hv hk=>P' q u v Y s' l ⟨tW,S',xY.mono l⟩ hv hk) λq Y' s' j e l S' he hx hk=>?_)
   refine bS (un S') λiq cK=>kE _ _ ?_
   exact cK.note r.hA r.fd he hx λgg gI _=>gI.YG he hx none λAa ia=>Ix C (hF 0) h3 hk ia (xY.mono l) he hx (P.le iq)
 ·refine qg aO (λq u v Y s' l S' hv hk=>?_) (.cons (RS.mono bL) (.cons hv .nil)) (show 2<=1000 by decide) (k:=λv Y=>k (.ret v) loc Y) h
  obtain⟨m',S',rl'⟩:=S'
  refine bS (un S') λiq cK=>?_
  exact P q _ (.ret v) loc Y s' iq ⟨m',cK,rl'⟩ ⟨u,rfl,hv⟩ hk
def K7(X:gx)(names:cu)(b:List Stmt)(hs:List ExceptHandler)(o f:List Stmt):CS:=match b,hs,o,f with
 | [.Return (some (.Tuple [e0,.Call (.Name x xp) es [] _] _ _)) _],[.ExceptHandler (some (.Name ex ep)) (some nm) [.Return (some he) _] _],[],[]=>SR X ((VR X 12).1 names) names e0 x xp es ex ep nm he
 | _,_,_,_=>pP
def EQ(C:bY c X)(TR:pn c n X){b:List Stmt}{hs:List ExceptHandler}{o f:List Stmt}:jK kx c names n (.Try b hs o f pos) (K7 X names b hs o f):=by
 induction b using lC with
 | nil=>exact aS
 | cons s b=>induction s using Stmt.casesOn with
  | Return oe p=>induction oe using oC with
   | none=>exact aS
   | some e=>induction e using Expr.casesOn with
    | Tuple l _ _=>induction l using lC with
     | nil=>exact aS
     | cons e0 l=>induction l using lC with
      | nil=>exact aS
      | cons c0 l=>induction c0 using Expr.casesOn with
       | Call g es kw _=>induction g using Expr.casesOn with
        | Name x xp=>induction kw using lC with
         | cons=>exact aS
         | nil=>induction l using lC with
          | cons=>exact aS
          | nil=>induction b using lC with
           | cons=>exact aS
           | nil=>induction hs using lC with
            | nil=>exact aS
            | cons hd hs=>induction hd using ExceptHandler.casesOn with
             | ExceptHandler ty nm bd _=>induction ty using oC with
              | none=>exact aS
              | some ty=>induction ty using Expr.casesOn with
               | Name ex ep=>induction nm using oC with
                | none=>exact aS
                | some nm=>induction bd using lC with
                 | nil=>exact aS
                 | cons s2 bd=>induction s2 using Stmt.casesOn with
                  | Return he _=>
                   rcases he with _|he
                   ·exact aS
                   ·rcases bd with _|⟨_,_⟩
                    ·rcases hs with _|⟨_,_⟩
                     ·rcases o with _|⟨_,_⟩
                      ·rcases f with _|⟨_,_⟩
                       ·exact Jd C TR λn e=>(OW C 12).1 names e
                       ·exact aS
                      ·exact aS
                     ·exact aS
                    ·exact aS
                  | _=>exact aS
               | _=>exact aS
        | _=>exact aS
       | _=>exact aS
    | _=>exact aS
  | _=>exact aS
def db(f:Stmt->CS)(b:List Stmt):CS:=List.rec AD (λs _ g=>pO (f s) g) b
def eT{f:Stmt->CS}(hf:∀s,jK kx c names n s (f s))(b:List Stmt):A3 kx c names n b (db f b):=by
 induction b with
 | nil=>exact sA
 | cons s b ih=>exact fO (hf s) ih
def Ls(names:cu)(F:cu->Expr->CE)(FB:cu->Expr->CB)(x:Str)(px:Pos)(e:Expr):CS:=match e with
 | .ListComp elt [⟨.Name y _,it,ifs,0⟩] scope pos=>Lq names F FB elt x y it ifs scope px pos
 | e=>Lp names x e (F names e)
def Fv(h0:0 < n){F:cu->Expr->CE}(hF:∀nm e,b6 kx c nm n e (F nm e))(hB:∀nm e,jW kx c nm n e (FB nm e)){x:Str}{px:Pos}{e:Expr}:jK kx c names n (.Assign [.Name x px] e pos) (Ls names F FB x px e):=by
 induction e using Expr.casesOn with
 | ListComp elt gs scope pos=>
  rcases gs with _|⟨g,gs⟩
  ·exact hW (hF _ _)
  ·obtain⟨tg,it,ifs,a⟩:=g
   induction tg using Expr.casesOn with
   | Name y _=>induction a using Int.casesOn with
    | negSucc=>induction gs using lC <;> exact hW (hF _ _)
    | ofNat k=>induction k using nC with
     | succ=>induction gs using lC <;> exact hW (hF _ _)
     | zero=>
      rcases gs with _|⟨_,_⟩
      ·exact Ft h0 hF hB
      ·exact hW (hF _ _)
   | _=>exact hW (hF _ _)
 | _=>exact hW (hF _ _)
def Tc(X:gx)(names:cu)(F:cu->Expr->CE)(FB:cu->Expr->CB)(ts:List Expr)(e:Expr):CS:=match ts with
 | [t]=>match t with
  | .Name x px=>Ls names F FB x px e
  | .Attribute o x _=>Lu X x e (F names e) (F names o)
  | .Subscript o i _=>Lr e (F names e) (F names o) (F names i)
  | .Tuple ts _ _=>Lo names ts e (F names e)
  | _=>pP
 | _=>pP
def Jx(C:bY c X)(h0:0 < n){F:cu->Expr->CE}(hF:∀nm e,b6 kx c nm n e (F nm e))(hB:∀nm e,jW kx c nm n e (FB nm e)){ts:List Expr}{e:Expr}:jK kx c names n (.Assign ts e pos) (Tc X names F FB ts e):=by
 induction ts using lC with
 | nil=>exact aS
 | cons t l=>induction l using lC with
  | cons=>exact aS
  | nil=>induction t using Expr.casesOn with
   | Name=>exact Fv h0 hF hB
   | Attribute=>exact Fw C (hF _ _) (hF _ _)
   | Subscript=>exact Fu C (hF _ _) (hF _ _) (hF _ _)
   | Tuple=>exact Fs h0 (hF _ _)
   | _=>exact aS
def Tb(X:gx)(names:cu)(f:Expr->CE)(t:Expr)(op:Operator)(e:Expr):CS:=match op with
 | .Add=>match t with
  | .Name x _=>Ll names x (f e)
  | .Attribute o x _=>Lm X o x (f o) (f e)
  | _=>pP
 | _=>pP
def Jw(C:bY c X)(hf:∀e,b6 kx c names n e (f e)){t e:Expr}{op:Operator}:jK kx c names n (.AugAssign t op e pos) (Tb X names f t op e):=by
 induction op using Operator.casesOn with
 | Add=>induction t using Expr.casesOn with
  | Name=>exact Fo (hf _)
  | Attribute=>exact Fp C (hf _) (hf _)
  | _=>exact aS
 | _=>exact aS
def e1(X:gx)(F:cu->Expr->CE)(FB:cu->Expr->CB)(names:cu)(g:Stmt->CS)(s:Stmt):CS:=match s with
 | .Return v _=>match v with
  | some e=>ST (F names e)
  | .none=>K8
 | .Assign ts e _=>Tc X names F FB ts e
 | .AugAssign t op e _=>Tb X names (F names) t op e
 | .If t b o _=>W6 (FB names t) (db g b) (db g o)
 | .For t it b o _=>match o with
  | []=>S4 names t it (F names it) (db g b)
  | _::_=>pP
 | .While t b o _=>match o with
  | []=>W3 (FB names t) (db g b)
  | _::_=>pP
 | .Expr e _=>Ld e (F names e)
 | .Pass _=>AD
 | .Continue _=>Lg
 | .Break _=>S8
 | .Raise (some e) .none _=>EV X (F names e)
 | .Try b hs o f _=>K7 X names b hs o f
 | _=>pP
def Sx(C:bY c X)(RX:A1 kx X)(TR:pn c n X){F:cu->Expr->CE}(hF:∀nm e,b6 kx c nm (n+1) e (F nm e))(hB:∀nm e,jW kx c nm (n+1) e (FB nm e)){g:Stmt->CS}(hg:∀s,jK kx c names (n+1) s (g s))(s:Stmt):jK kx c names (n+1) s (e1 X F FB names g s):=by
 have h0:0 < n+1:=qG n
 unfold e1
 induction s using Stmt.casesOn with
 | Return v=>
  rcases v with _|_
  ·exact ET
  ·exact Jf (hF _ _)
 | Assign=>exact Jx C h0 hF hB
 | AugAssign=>exact Jw C (hF _)
 | If=>exact OS (hB _ _) (eT hg _) (eT hg _)
 | For t it b o=>
  rcases o with _|⟨_,_⟩
  ·exact Jo h0 (hF _ _) (eT hg _)
  ·exact aS
 | While t b o=>
  rcases o with _|⟨_,_⟩
  ·exact OM (hB _ _) (eT hg _)
  ·exact aS
 | Expr=>exact E3 (hF _ _)
 | Pass=>exact EW
 | Continue=>exact E8
 | Break=>exact Jt
 | Raise e ca=>
  rcases e with _|e
  ·exact aS
  ·rcases ca with _|_
   ·exact AC C RX h0 (hF _ _)
   ·exact aS
 | Try=>exact EQ C (TR.le (lm n))
 | _=>exact aS
def c1(X:gx)(fns:Addr->Option FS)(names:cu)(m:Nat):Stmt->CS:=Nat.rec (λ_=>pP) (λ_ g=>e1 X (Gq X fns 30).1 (Gq X fns 30).2 names g) m
def qz(C:bY c X)(RX:A1 kx X)(TR:pn c n X)(Fn:bD kx c n fns)(m:Nat):∀s,jK kx c names (n+1) s (c1 X fns names m s):=by
 induction m with
 | zero=>exact λs=>aS
 | succ m ih=>exact Sx C RX TR (wW C Fn 30).1 (wW C Fn 30).2 ih
def Lk(X:gx)(fns:Addr->Option FS)(names:cu)(b:List Stmt):CS:=db (c1 X fns names 20) b
def Fk(C:bY c X)(RX:A1 kx X)(TR:pn c n X)(Fn:bD kx c n fns){b:List Stmt}:A3 kx c names (n+1) b (Lk X fns names b):=eT (qz C RX TR Fn 20) b
structure Bl where
 as:List Arg
 body:List Stmt
 names:List (Str×NameKind)
def mT.val(o:mT):V:=mT.rec .none .none .none (λv=>v) o
def RN(X:gx)(fns:Addr->Option FS)(e:Bl):FS:=λvs Y k=>ob (vc e.names e.as vs) λz=>Lk X fns (e.names,z.2) e.body z.1 Y λo _ Y=>k o.val Y
def Iw(C:bY c X)(RX:A1 kx X)(TR:pn c n X)(F:bD kx c n fns){f:Addr}{name qual:Str}{scope:Scope}{e:Bl}(FA:A5 c.K f name qual e.as e.body scope)(hs:scope.names=e.names):ah kx c (n+2) f (RN X fns e):=λa A p m Y s vs us k R hr hA h S hv hR hE=>ay h λz hz h=>by
 refine yY FA hA (by have:=hr.depth;lia) S hv (hs▸hz) λa' aJ e1 e2 e3 e4 aC back err=>?_
 exact Fk C RX TR F {toAct:=a',A:=A.deeper a'.env,E:=λe s'=>wpAny (Mo c) (A.deeper a'.env) (leaving a'.env e) (λ_ YQ=>R (.error e) YQ) (λe' YQ=>R (.error e') YQ) s',fd:=e3,hA:=e4,hn:=by rw[e1,hs],hv:=e2,room:=hr.deeper,err:=λq m' Y' s' j e S' he hx hk=>err q m' Y' s' j e S' he hx λh' l S=>hE q Y' _ j e l S he hx hk} z.1 Y _ h p aJ _ aC λq f o loc cW b8 l aO hF hk=>by
  obtain⟨tW,aO,_⟩:=aO
  refine bS (back q tW cW b8 aO) λl' S'=>?_
  induction o using mT.casesOn with
  | next=>rw[show f=.next from hF];exact hR q _ .none cW b8 l' S' .none hk
  | cont=>rw[show f=.cont from hF];exact hR q _ .none cW b8 l' S' .none hk
  | brk=>rw[show f=.brk from hF];exact hR q _ .none cW b8 l' S' .none hk
  | ret v=>refine aH hF λu e hu=>?_;rw[e];exact hR q u v cW b8 l' S' hu hk
def vq(K:Frag)(src:Addr->Option Bl):Prop:=∀f e,src f=some e->∃name qual scope,A5 K f name qual e.as e.body scope/\scope.names=e.names/\keepIn K (.ref f)=true
def uK(X:gx)(src:Addr->Option Bl)(over:Addr->Option FS)(m:Nat):Addr->Option FS:=Nat.rec over (λ_ g f=>pC (over f) ((src f).map (RN X g))) m
def kR(C:bY c X)(RX:A1 kx X)(TR:pn c n X){src:Addr->Option Bl}{over:Addr->Option FS}(S:vq c.K src)(F:bD kx c n over)(m:Nat):bD kx c (n+2 * m) (uK X src over m):=by
 induction m with
 | zero=>exact F
 | succ m ih=>
  refine λf sp h=>dS h (λh=>⟨(F f sp h).1.le (by lia),(F f sp h).2⟩) λh=>?_
  refine aH (fp h) λe he h=>?_
  refine mE (S f e he) λname qual scope h1 h2 h3=>?_
  rw[<-h]
  exact⟨Iw C RX (TR.le (j2 _ _)) ih h1 h2,h3⟩
end
section
variable{c:Cx}{p q:Pt}{kx:Nat->Sy->Bool}{n:Nat}{σ:Sg}
def aP{a b:Bool}(h:a=true)(k:b=true):bb a b=true:=by rw[h];exact k
def UI(m:Nat)(l:List (Int×V)):Bool:=List.rec true (λx _ g=>bb (x.2.S_ m) g) l
def zQ(m:Nat)(l:List V):Bool:=List.rec true (λx _ g=>bb (x.S_ m) g) l
def UJ(m:Nat)(l:List (Nat×V)):Bool:=List.rec true (λx _ g=>bb (x.2.S_ m) g) l
def q7(m:Nat)(l:List V):(V.tup l).S_ m=zQ m l:=by
 induction l with
 | nil=>exact rfl
 | cons v l ih=>exact bl (bb (v.S_ m)) ih
def ji(m:Nat)(l:List V):(V.fls l).S_ m=zQ m l:=by
 induction l with
 | nil=>exact rfl
 | cons v l ih=>exact bl (bb (v.S_ m)) ih
def ik(m:Nat)(C)(l:List (Nat×V)):(V.fin C l).S_ m=UJ m l:=by
 induction l with
 | nil=>exact rfl
 | cons v l ih=>exact bl (bb (v.2.S_ m)) ih
def yk(m:Nat)(l:List (Int×V)):(V.Y8 l).S_ m=UI m l:=by
 induction l with
 | nil=>exact rfl
 | cons v l ih=>exact bl (bb (v.2.S_ m)) ih
def RV.move{m:Nat}(g_:∀k,k < m->q.ρ[k]? =p.ρ[k]?)(hI:∀x∈p.I,x∈q.I){v u}(r:RV c p v u):v.S_ m=true->RV c q v u:=by
 have im:∀{a o},nB c p a o->nB c q a o:=λh=>h.imp (hI _) id
 refine RV.rec (motive_1:=λv u _=>∀m,(∀k,k < m->q.ρ[k]? =p.ρ[k]?)->v.S_ m=true->RV c q v u) (motive_2:=λl us _=>∀m,(∀k,k < m->q.ρ[k]? =p.ρ[k]?)->zQ m l=true->bG c q l us) (motive_3:=λl es _=>∀m,(∀k,k < m->q.ρ[k]? =p.ρ[k]?)->UI m l=true->vw c q l es) (motive_4:=λl es _=>∀m,(∀k,k < m->q.ρ[k]? =p.ρ[k]?)->UJ m l=true->RA c q l es)
  (λ_ _ _=>.none) (λb _ _ _=>.bool b) (λi t _ _ _=>.int i t) (λe t _ _ _=>.sym e t) (λh _ _ _=>.any h) (λt h _ _ _=>.clo t h) (λ{n u} _ ih _ _ _=>.b_ (ih 0 (λk h=>absurd h (Nat.not_lt_zero k)) (c.σ.cω n))) (λh _ _ _=>.rng (im h)) (λh lo _ hn ih m hm e=>.Y8 (im h) lo (ih m hm (yk m _▸e)) hn) (λs t _ _ _=>.str s t)
  (λh _ ih m hm e=>.tup (im h) (ih m hm (q7 m _▸e))) (λ{k a d} h m hm e=>.ref ((hm k (fu e)).trans h)) (λh _ _ _=>.glob h) (λs h _ _ _=>.bi s h) (λs _ _ _=>.ty s) (λh _ ih m hm e=>.fls (im h) (ih m hm (ji m _▸e))) (λ{C l a d es n} h h2 _ ih m hm e=>.fin (im h) (im h2) (ih m hm (ik m C l▸e))) (λ_ _ _ _ e=>nomatch e)
  (λ_ _ _=>.nil) (λ_ _ i1 i2 m hm e=>.cons (i1 m hm (al.mp e).1) (i2 m hm (al.mp e).2)) (λ_ _ _=>.nil) (λ_ _ i1 i2 m hm e=>.cons (i1 m hm (al.mp e).1) (i2 m hm (al.mp e).2)) (λ_ _ _=>.nil) (λ_ _ i1 i2 m hm e=>.cons (i1 m hm (al.mp e).1) (i2 m hm (al.mp e).2)) r m g_
def RV.cls(hI:∀x∈p.I,x∈q.I){v u}(r:RV c p v u)(h:v.h_=true):RV c q v u:=r.move (m:=0) (λk h=>absurd h (Nat.not_lt_zero k)) hI h
def bG.imp{d:Cx}(l:List V):∀{us},(∀v∈l,∀u,RV c p v u->RV d q v u)->bG c p l us->bG d q l us:=by
 induction l with
 | nil=>intro us _ h;rw[h.inv];exact .nil
 | cons v l ih=>intro us f h;refine eC h.inv λu r e h1 h2=>?_;rw[e];exact .cons (f v (.head _) u h1) (ih (λx hx=>f x (.tail _ hx)) h2)
def q8{m:Nat}{l:List V}(h:zQ m l=true):∀v∈l,v.S_ m=true:=by
 induction l with
 | nil=>exact ae
 | cons x l ih=>exact λv hv=>(dL.mp hv).elim (λe=>e▸(al.mp h).1) λhv=>ih (al.mp h).2 v hv
structure mr where
 m:Nat
 r:Nat->Option V
 t:Nat->Option V
 s:SE->Option V
def V.Y_(T:mr)(v:V):Option V:=V.rec (motive_1:=λ_=>Option V) (motive_2:=λ_=>Unit) (motive_3:=λ_=>Option (List V)) (motive_4:=λ_=>Unit) (motive_5:=λ_=>Unit) (motive_6:=λ_=>Unit)
 (some .none) (λb=>some (.bool b)) (λi=>some (.int i)) T.s (some .any) (λk=>some (.clo k)) (λn=>some (.b_ n)) (λl _=>ij (UI T.m l) (some (.Y8 l))) (λa b=>some (.rng a b)) (λs=>some (.str s)) (λ_ f=>f.map .tup) T.r (λa=>some (.glob a)) (λs=>some (.bi s)) (λs=>some (.ty s)) (λl _=>ij (zQ T.m l) (some (.fls l))) (λC l _=>ij (UJ T.m l) (some (.fin C l))) T.t
 () (λ_ _ _ _=>()) (some []) (λ_ _ f g=>f.bind λx=>g.map (x::·)) () (λ_ _ _ _=>()) (λ_ _ _=>()) (λ_ _ _=>()) v
def BX(T:mr)(l:List V):Option (List V):=List.rec (some []) (λx _ g=>(x.Y_ T).bind λv=>g.map (v::·)) l
def GE{T:mr}(l:List V):(V.tup l).Y_ T=(BX T l).map .tup:=by
 induction l with
 | nil=>exact rfl
 | cons v l ih=>
  have e:(V.tup (v::l)).Y_ T=((v.Y_ T).bind λx=>(((V.tup l).Y_ T).map V.xl).map (x::·)).map .tup:=by
   show Option.map V.tup ((v.Y_ T).bind λx=>_)=Option.map V.tup ((v.Y_ T).bind λx=>Option.map (x::·) (Option.map V.xl (Option.map V.tup _)))
   rw[Option.map_map (h:=V.xl) (g:=V.tup)]
   exact bl (Option.map V.tup) (bl (Option.bind _) (funext λx=>bl (Option.map _) Option.map_id'.symm))
  rw[e,ih,Option.map_map]
  show _=Option.map V.tup ((v.Y_ T).bind λx=>(BX T l).map (x::·))
  exact bl (Option.map V.tup) (bl (Option.bind _) (funext λx=>bl (Option.map _) Option.map_id'))
structure cF(c:Cx)(p q:Pt)(T:mr):Prop where
 ρ:∀k,k < T.m->q.ρ[k]? =p.ρ[k]?
 I:∀x∈p.I,x∈q.I
 r:∀k v u,T.r k=some v->RV c p (.ref k) u->RV c q v u
 t:∀n v u,T.t n=some v->RV c p (.pat n) u->RV c q v u
 s:∀e v t,T.s e=some v->RV c q v (.int (e.ev c.σ.ν) t)
variable{T:mr}
theorem RV.Y_(X:cF c p q T){v u}(r:RV c p v u):∀v',v.Y_ T=some v'->RV c q v' u:=by
 have im:∀{a o},nB c p a o->nB c q a o:=λh=>h.imp (X.I _) id
 refine RV.rec (motive_1:=λv u _=>∀v',v.Y_ T=some v'->RV c q v' u) (motive_2:=λl us _=>∀l',BX T l=some l'->bG c q l' us) (motive_3:=λ_ _ _=>True) (motive_4:=λ_ _ _=>True)
  (λv' e=>by obtain rfl:=oI e;exact .none) (λb v' e=>by obtain rfl:=oI e;exact .bool b) (λi t v' e=>by obtain rfl:=oI e;exact .int i t) (λe t v' h=>X.s e v' t h) (λh v' e=>by obtain rfl:=oI e;exact .any h) (λt h v' e=>by obtain rfl:=oI e;exact .clo t h) (λ{n u} h _ v' e=>by obtain rfl:=oI e;exact .b_ (h.cls X.I (c.σ.cω n))) (λh v' e=>by obtain rfl:=oI e;exact .rng (im h))
  (λ{l a es n} h lo hr hn _ v' e=>be e λh1 e=>by obtain rfl:=oI e;exact(RV.Y8 h lo hr hn).move X.ρ X.I ((yk _ _).trans h1)) (λs t v' e=>by obtain rfl:=oI e;exact .str s t)
  (λ{l a items n} h _ ih v' e=>by rw[GE] at e;refine aH (fp e) λl' e1 e2=>?_;rw[<-e2];exact .tup (im h) (ih l' e1)) (λ{k a d} h v' e=>X.r k v' _ e (.ref h)) (λh v' e=>by obtain rfl:=oI e;exact .glob h) (λs h v' e=>by obtain rfl:=oI e;exact .bi s h) (λs v' e=>by obtain rfl:=oI e;exact .ty s)
  (λ{l a items n} h hr _ v' e=>be e λh1 e=>by obtain rfl:=oI e;exact(RV.fls h hr).move X.ρ X.I ((ji _ _).trans h1)) (λ{C l a d es n} h h2 hr _ v' e=>be e λh1 e=>by obtain rfl:=oI e;exact(RV.fin h h2 hr).move X.ρ X.I ((ik _ C _).trans h1)) (λ{n u} h h2 v' e=>X.t n v' _ e (.pat h h2))
  (λl' e=>by obtain rfl:=oI e;exact .nil) (λ_ _ i1 i2 l' e=>by refine aH (cU e) λv e1 e=>?_;refine aH (fp e) λl e2 e=>?_;rw[<-e];exact .cons (i1 v e1) (i2 l e2)) trivial (λ_ _ _ _=>trivial) trivial (λ_ _ _ _=>trivial) r
def bc{α β:Type}(f:α->β->Bool)(l:List α):List β->Bool:=List.rec bf (λa _ g l'=>bR l' λb r=>bb (f a b) (g r)) l
def aT{α β:Type}{f:α->β->Bool}{C:Prop}{a:α}{l:List α}{l':List β}(h:bc f (a::l) l'=true)(k:∀b r,l'=b::r->f a b=true->bc f l r=true->C):C:=aZ h λb r e h=>ag h λh1 h2=>k b r e h1 h2
def ba{α β:Type}{f:α->β->Bool}{l':List β}(h:bc f [] l'=true):l'=[]:=aG h
def aQ{α β:Type}{f:α->β->Bool}(l:List α):∀{l':List β},bc f l l'=true->l.length=l'.length:=by
 induction l with
 | nil=>intro l' h;rw[ba h];rfl
 | cons a l ih=>intro l' h;exact aT h λb r e _ h=>by rw[e,gq,gq,ih h]
def cV(T:mr)(v v':V):Bool:=bi (Nat.beq v'.tag 4) true (ob (v.Y_ T) λx=>V.beq x v')
def iH(X:cF c p q T){v v' u}(h:cV T v v'=true)(r:RV c p v u):RV c q v' u:=bH h (λe _=>by rw[V.is e];exact .any r.handed) λ_ h=>ay h λx e h=>by rw[<-V.eq_of_beq _ h];exact r.Y_ X x e
def wT(X:cF c p q T)(l:List V):∀{l' us},bc (cV T) l l'=true->bG c p l us->bG c q l' us:=by
 induction l with
 | nil=>intro l' us h r;rw[ba h,r.inv];exact .nil
 | cons v l ih=>intro l' us h r;refine eC r.inv λu Za e r1 r2=>?_;exact aT h λb r e' h1 h=>by rw[e,e'];exact .cons (iH X h1 r1) (ih h r2)
def cA(T:mr)(x y:Nat×V):Bool:=bb (Nat.beq x.1 y.1) (cV T x.2 y.2)
def ON(X:cF c p q T)(l:List (Nat×V)):∀{l' es},bc (cA T) l l'=true->RA c p l es->RA c q l' es:=by
 induction l with
 | nil=>intro l' es h r;rw[ba h,show es=[] from r.inv];exact .nil
 | cons x l ih=>
  intro l' es h r
  refine li r.inv λy t u Zk e1 e2 r1 r2=>?_
  refine aT h λb r e' h1 h=>ag h1 λh1 h2=>?_
  obtain⟨b1,b2⟩:=b
  have eb:x.1=b1:=cf h1
  rw[e2,e',<-eb,e1]
  exact .cons (iH X h2 r1) (ih h r2)
def ci{x:Option V}{x':Option V}{y:Option Value}(h:au c p x y)(f:∀v u,x=some v->RV c p v u->∃v',x'=some v'/\RV c q v' u)(g:x=.none->x'=.none):au c q x' y:=by
 induction x using oC with
 | none=>rw[g rfl];induction y using oC with
  | none=>trivial
  | some u=>exact h.elim
 | some v=>
  rcases y with _|u
  ·exact h.elim
  ·refine aH (f v u rfl h) λv' e r=>?_;rw[e];exact r
def EO(X:cF c p q T){k:Nat}{y:Option Value}(l:List (Nat×V)):∀{l'},bc (cA T) l l'=true->au c p (look k l) y->au c q (look k l') y:=by
 induction l with
 | nil=>intro l' h r;rw[ba h];exact ci r (λ_ _ e=>nomatch e) λ_=>rfl
 | cons x l ih=>
  intro l' h r
  obtain⟨x1,x2⟩:=x
  refine aT h λb bL e' h1 h=>ag h1 λh1 h2=>?_
  obtain⟨b1,b2⟩:=b
  have eb:x1=b1:=cf h1
  rw[e',<-eb,aX]
  rw[aX] at r
  by_cases e:x1=k
  ·rw[if_pos e] at r ⊢
   exact ci r (λv u e r=>⟨b2,rfl,by obtain rfl:=oI e;exact iH X h2 r⟩) nofun
  ·rw[if_neg e] at r ⊢;exact ih h r
end
section
variable{c:Cx}{p q:Pt}{kx:Nat->Sy->Bool}{n:Nat}{σ:Sg}{T:mr}{α:Type}
def KD.YX(a:KD):jJ a:=KD.rec (motive_1:=jJ) (motive_2:=jJ) (λx=>⟨λb=>ob (Kz b) λy=>SE.beq x y,λb h=>ay h λy e h=>by rw[lL e,SE.eq_of_beq _ h]⟩)
 (λx=>⟨λb=>ob (Ib b) λy=>kX x y,λb h=>ay h λy e h=>by rw[lK e,dn.mp h]⟩) (λ_ f=>⟨λb=>ob (Rx b) f.1,λb h=>ay h λy e h=>by rw[DL e,f.2 _ h]⟩) .nil (λ_ _ f g=>.cons f g) a
def H8(k:aA):k.toV.h_=true:=by
 refine aA.rec (motive_1:=λk=>k.toV.h_=true) (motive_2:=λl=>zQ 0 (aA.Zy l)=true) (λ_=>rfl) (λ_=>rfl) (λl ih=>(q7 0 _).trans ih) rfl (λa l h1 h2=>aP h1 h2) k
def PF(a b:Option Nat):Bool:=Option.rec (Option.rec true (λ_=>false) b) (λn=>Option.rec false (λm=>Nat.beq n m) b) a
def o8{a b}(h:PF a b=true):a=b:=by
 rcases a with _|n
 ·rcases b with _|_
  ·rfl
  ·exact bT h
 ·rcases b with _|m
  ·exact bT h
  ·rw[cf h]
def cI(T:mr)(x y:SE×V):Bool:=bb (SE.beq x.1 y.1) (cV T x.2 y.2)
def FH(a b:Option Bool):Bool:=Option.rec (Option.rec true (λ_=>false) b) (λn=>Option.rec false (λm=>pQ n m) b) a
def pd{a b}(h:FH a b=true):a=b:=by
 rcases a with _|n
 ·rcases b with _|_
  ·rfl
  ·exact bT h
 ·rcases b with _|m
  ·exact bT h
  ·rw[sD h]
def cC(T:mr)(x y:Int×V×Option Bool):Bool:=bb (pN x.1 y.1) (bb (bi (FH x.2.2 y.2.2) true (kP y.2.2)) (cV T x.2.1 y.2.1))
def cT(T:mr)(x y:KD×Option Nat×V):Bool:=bb (x.1.YX.1 y.1) (bb (PF x.2.1 y.2.1) (cV T x.2.2 y.2.2))
def o9(X:cF c p q T){g:Option Nat}{x:Int}{y:Option Value}(l:List (SE×V)):∀{l'},bc (cI T) l l'=true->au c p (cB c.σ l g x) y->au c q (cB c.σ l' g x) y:=by
 induction l with
 | nil=>
  intro l' h r
  rw[ba h]
  rcases g with _|g
  ·exact ci r (λ_ _ e=>nomatch e) λ_=>rfl
  ·exact ci r (λv u e r=>⟨v,e,r.cls X.I (c.σ.cδ g x v e)⟩) λe=>e
 | cons z l ih=>
  intro l' h r
  obtain⟨z1,z2⟩:=z
  refine aT h λb bL e' h1 h=>ag h1 λh1 h2=>?_
  obtain⟨b1,b2⟩:=b
  have eb:z1=b1:=SE.eq_of_beq _ h1
  rw[e',<-eb]
  show au c q (if z1.ev c.σ.ν=x then some b2 else cB c.σ bL g x) y
  have r:au c p (if z1.ev c.σ.ν=x then some z2 else cB c.σ l g x) y:=r
  by_cases e:z1.ev c.σ.ν=x
  ·rw[if_pos e] at r ⊢
   exact ci r (λv u e r=>⟨b2,rfl,by obtain rfl:=oI e;exact iH X h2 r⟩) nofun
  ·rw[if_neg e] at r ⊢;exact ih h r
def oz{v v':V}{b b':Option Bool}{y}(hb:b=b'\/b'=.none)(f:∀u,RV c p v u->RV c q v' u)(h:bE c p (some (v,b)) y):bE c q (some (v',b')) y:=by
 have k:∀{y},au c p (some v) y->au c q (some v') y:=λ{y} h=>by
  rcases y with _|u
  ·exact h
  ·exact f u h
 refine hb.elim (λe=>?_) λe=>?_
 ·rw[<-e]
  rcases b with _|b
  ·exact h.imp id k
  ·rcases b with _|_
   ·exact h
   ·exact k h
 ·rw[e]
  rcases b with _|b
  ·exact h.imp id k
  ·rcases b with _|_
   ·exact .inl h
   ·exact .inr (k h)
def E7(X:cF c p q T){x:Int}{y:Option Value}(l:List (Int×V×Option Bool)):∀{l'},bc (cC T) l l'=true->bE c p (cZ l x) y->bE c q (cZ l' x) y:=by
 induction l with
 | nil=>intro l' h r;rw[ba h];exact r
 | cons z l ih=>
  intro l' h r
  obtain⟨z1,z2,z3⟩:=z
  refine aT h λb bL e' h1 h=>ag h1 λh1 h2=>ag h2 λh2 h3=>?_
  obtain⟨b1,b2,b3⟩:=b
  have eb:z1=b1:=cw.mp h1
  rw[e',<-eb]
  show bE c q (if z1=x then some (b2,b3) else cZ bL x) y
  have r:bE c p (if z1=x then some (z2,z3) else cZ l x) y:=r
  by_cases e:z1=x
  ·rw[if_pos e] at r ⊢
   exact oz (bH h2 (λe _=>.inl (pd e)) λ_ h=>.inr (gb h)) (λu r=>iH X h3 r) r
  ·rw[if_neg e] at r ⊢;exact ih h r
def UL(b:Option Bool):Bool:=match b with
 | some true=>false
 | _=>true
def VS(T:mr)(l l':List (Int×V×Option Bool)):Bool:=bb (l'.all λz=>oi (Rb z.1 l) (λw=>cC T (z.1,w) z) (UL z.2.2)) (l.all λz=>Option.rec false (λ_=>true) (Rb z.1 l'))
def gP{x:Int}{w:V×Option Bool}(l:List (Int×V×Option Bool)):cZ l x=some w->(x,w)∈l:=by
 induction l with
 | nil=>exact nofun
 | cons z l ih=>
  intro h
  have h:(if z.1=x then some z.2 else cZ l x)=some w:=h
  by_cases e:z.1=x
  ·rw[if_pos e] at h;obtain rfl:=oI h;rw[<-e];exact .head _
  ·rw[if_neg e] at h;exact .tail _ (ih h)
def E4(X:cF c p q T){x:Int}{y:Option Value}{l l':List (Int×V×Option Bool)}(h:VS T l l'=true)(r:bE c p (cZ l x) y):bE c q (cZ l' x) y:=by
 refine ag h λh1 h2=>?_
 rcases e':cZ l' x with _|w'
 ·rcases e:cZ l x with _|w
  ·rw[e] at r;exact r
  ·have:=jt.mp h2 _ (gP l e)
   rw[rn,e'] at this;exact bT this
 ·have h3:=jt.mp h1 _ (gP l' e')
  dsimp only at h3
  rw[rn] at h3
  obtain⟨b2,b3⟩:=w'
  rcases e:cZ l x with _|w
  ·rw[e] at h3 r
   rcases b3 with _|b
   ·exact .inl r
   ·rcases b with _|_
    ·exact r
    ·exact bT h3
  ·rw[e] at h3 r
   obtain⟨z2,z3⟩:=w
   refine ag (show cC T (x,(z2,z3)) (x,(b2,b3))=true from h3) λ_ h=>ag h λh2 h3=>?_
   exact oz (bH h2 (λe _=>.inl (pd e)) λ_ h=>.inr (gb h)) (λu r=>iH X h3 r) r
theorem qc[DecidableEq α]:∀{l l':List α},l.Nodup->(∀x∈l,x∈l')->l.length<=l'.length
 | [],_,_,_=>fv _
 | x::l,l',h,k=>by
  have h1:=qc (l:=l) (l':=l'.erase x) (fH.mp h).2 λy hy=>(List.mem_erase_of_ne (show y≠x from λe=>(fH.mp h).1 (by rw[<-e];exact hy))).mpr (k y (.tail _ hy))
  rw[List.length_erase_of_mem (k x (.head _))] at h1
  have:=List.length_pos_of_mem (k x (.head _))
  rw[gq];omega
def O2{xs:List (Int×Value)}{x:Int}(h:x∈xs.map (·.1)):valueAt xs x≠.none:=by
 refine aH (fw.mp h) λz hz e=>?_
 unfold valueAt
 intro q
 have q:=Option.map_eq_none_iff.mp q
 have:=List.find?_eq_none.mp q z hz
 simp[e] at this
def Jp{xs:List (Int×Value)}{l l':List (Int×V×Option Bool)}(h:VS T l l'=true)(nd:(xs.map (·.1)).Nodup)(r:∀x,bE c p (cZ l x) (valueAt xs x)):xs.length<=l'.length:=by
 rw[<-gE (f:=(·.1)) (as:=xs),<-gE (f:=(·.1)) (as:=l')]
 refine qc nd λx hx=>?_
 rcases e:cZ l x with _|w
 ·have:=r x
  rw[e] at this
  exact absurd this (O2 hx)
 ·have:=jt.mp (al.mp h).2 _ (gP l e)
  dsimp only at this
  rw[rn] at this
  rcases e':cZ l' x with _|w'
  ·rw[e'] at this;exact bT this
  ·exact fw.mpr ⟨_,gP l' e',rfl⟩
def kY(X:cF c p q T){x:aA}{y:Option Value}(l:List (KD×Option Nat×V)):∀{l'},bc (cT T) l l'=true->au c p (dD c.σ l x) y->au c q (dD c.σ l' x) y:=by
 induction l with
 | nil=>intro l' h r;rw[ba h];exact ci r (λ_ _ e=>nomatch e) λ_=>rfl
 | cons z l ih=>
  intro l' h r
  obtain⟨z1,z2,z3⟩:=z
  refine aT h λb bL e' h1 h=>ag h1 λh1 h2=>ag h2 λh2 h3=>?_
  obtain⟨b1,b2,b3⟩:=b
  have e1:z1=b1:=z1.YX.2 _ h1
  have e2:z2=b2:=o8 h2
  rw[e',<-e1,<-e2]
  show au c q (if z1.ev c.σ.ν=x/\eL c.σ z2=true then some b3 else dD c.σ bL x) y
  have r:au c p (if z1.ev c.σ.ν=x/\eL c.σ z2=true then some z3 else dD c.σ l x) y:=r
  by_cases e:z1.ev c.σ.ν=x/\eL c.σ z2=true
  ·rw[if_pos e] at r ⊢
   exact ci r (λv u e r=>⟨b3,rfl,by obtain rfl:=oI e;exact iH X h3 r⟩) nofun
  ·rw[if_neg e] at r ⊢;exact ih h r
structure xw where
 l:List (Nat×Nat×List V)
 d:List (Nat×Nat×List (SE×V))
 a:List (Nat×Nat)
 e:List (SE×SE):=[]
structure gm(σ:Sg)(h:xw):Prop where
 l:∀z∈h.l,σ.γ z.2.1=σ.γ z.1++z.2.2
 d:∀z∈h.d,(∀x,σ.δ z.2.1 x=cB σ z.2.2 (some z.1) x)/\σ.z z.1+z.2.2.length<=σ.z z.2.1
 a:∀z∈h.a,σ.π z.1=σ.π z.2
 e:∀z∈h.e,z.1.ev σ.ν=z.2.ev σ.ν
def Ol(g g':Nat)(l:List (Nat×Nat×α)):Option (Nat×Nat×α):=mq (λz=>bb (Nat.beq g z.1) (Nat.beq g' z.2.1)) l
def yO{g g':Nat}{l:List (Nat×Nat×α)}{z}(h:Ol g g' l=some z):z∈l/\g=z.1/\g'=z.2.1:=cD h λm t=>⟨m,cf (al.mp t).1,cf (al.mp t).2⟩
def cO(T:mr)(ch:xw)(o o':AO):Bool:=
 oi (dw o) (λl=>ob (dw o') λl'=>bc (cV T) l l')
 (oi (jG o) (λg=>ob (jG o') λg'=>bi (Nat.beq g.1 g'.1) (bc (cV T) g.2 g'.2) (ob (Ol g.1 g'.1 ch.l) λz=>bb (bf g'.2) (bc (cV T) g.2 z.2.2)))
 (oi (eU o) (λi=>ob (eU o') λi'=>bb (Nat.beq i.1 i'.1) (bc (cA T) i.2 i'.2))
 (oi (lU o) (λl=>ob (lU o') λl'=>bc (cA T) l l')
 (oi (pS o) (λd=>ob (pS o') λd'=>bi (PF d.2 d'.2) (bc (cI T) d.1 d'.1) (ob d.2 λn=>ob d'.2 λn'=>ob (Ol n n' ch.d) λz=>bb (bf d'.1) (bc (cI T) d.1 z.2.2)))
 (oi (vh o) (λl=>ob (vh o') λl'=>bi (bc (cC T) l l') true (VS T l l'))
 (oi (pR o) (λt=>ob (pR o') λt'=>bb (Nat.beq t.1 t'.1) (bc (cT T) t.2 t'.2))
 (ob (eK o) λn=>ob (eK o') λm=>bi (Nat.beq n m) true (oi (mq (λz=>bb (Nat.beq n z.1) (Nat.beq m z.2)) ch.a) (λ_=>true) false))))))))
def eF.at{k j f g}(h:eF p k f)(hk:q.ρ[j]? =p.ρ[k]?)(w:∀a d,f a d->g a d):eF q j g:=h.elim λa h=>h.elim λd h=>⟨a,d,hk.trans h.1,w a d h.2⟩
def DX.le{κ:Type}{x a F n n'}{G G':List κ->Prop}(h:DX x a F n G)(hn:n<=n')(g:∀xs,G xs->G' xs):DX x a F n' G':=⟨h.1,h.2.elim λo h=>h.elim λxs h=>⟨o,xs,h.1,h.2.1,dK h.2.2.1 hn,g xs h.2.2.2⟩⟩
def oP(X:cF c p q T){g:Nat}{l l':List V}{x a}(hl:bc (cV T) l l'=true)(h:LX c p (c.σ.γ g++l) x a):LX c q (c.σ.γ g++l') x a:=h.elim λvs h=>h.elim λn h=>by
 refine eC (jg _ h.1) λu1 u2 e r1 r2=>?_
 exact⟨vs,n,e▸eO (wT X l hl r2) _ (r1.imp _ λv hv u r=>r.cls X.I (c.σ.cγ g v hv)),h.2⟩
def wV(X:cF c p q T){ch:xw}(C:gm c.σ ch){k j o o' x}(hk:q.ρ[j]? =p.ρ[k]?)(hj:j=k\/eK o=.none)(h:cO T ch o o'=true)(r:RO c p k x o):RO c q j x o':=by
 refine bq h (λl e h=>ay h λl' e' h=>?_) λ_ h=>bq h (λg e h=>ay h λg' e' h=>?_) λ_ h=>bq h (λi e h=>ay h λi' e' h=>ag h λh1 h=>?_) λ_ h=>bq h (λl e h=>ay h λl' e' h=>?_) λ_ h=>bq h (λd e h=>ay h λd' e' h=>?_) λ_ h=>bq h (λl e h=>ay h λl' e' h=>?_) λ_ h=>bq h (λt e h=>ay h λt' e' h=>ag h λh1 h=>?_) λ_ h=>ay h λn e h=>ay h λm e' h=>?_
 ·rw[bU e] at r
  rw[bU e']
  exact eF.at r hk λa d r=>r.elim λvs r=>r.elim λn r=>⟨vs,n,wT X l h r.1,r.2⟩
 ·rw[eA e] at r
  rw[eA e']
  refine bH h (λe h=>?_) λ_ h=>ay h λz hz h=>ag h λhn h=>?_
  ·rw[<-cf e]
   exact eF.at r hk λa d r=>oP X h r
  ·refine nJ (yO hz) λz1 z2 z3=>?_
   rw[aG hn,z3]
   refine eF.at r hk λa d r=>?_
   rw[gN,C.l z z1,<-z2]
   exact oP X h r
 ·rw[bZ e] at r
  rw[bZ e',<-cf h1]
  exact eF.at r hk λa d r=>r.elim λes r=>r.elim λn r=>⟨es,n,ON X _ h r.1,r.2⟩
 ·rw[dp e] at r
  rw[dp e']
  exact eF.at r hk λa d r=>DX.le r (jL (aQ _ h)) λxs r x=>EO X _ h (r x)
 ·rw[eZ e] at r
  rw[eZ e']
  refine bH h (λe h=>?_) λ_ h=>ay h λg eg h=>ay h λg' eg' h=>ay h λz hz h=>ag h λhn h=>?_
  ·rw[<-o8 e]
   exact eF.at r hk λa d' r=>DX.le r (by rw[aQ _ h];exact fG _) λxs r x=>o9 X _ h (r x)
  ·refine nJ (yO hz) λz1 z2 z3=>?_
   rw[eg] at r
   rw[aG hn,eg',z3]
   refine eF.at r hk λa d' r=>DX.le r ?_ λxs r x=>?_
   ·have h1:=(C.d z z1).2
    have h2:=aQ _ h
    show d.1.length+c.σ.z g<=0+c.σ.z z.2.1
    rw[<-z2] at h1
    lia
   ·show au c q (c.σ.δ z.2.1 x) _
    rw[(C.d z z1).1 x,<-z2]
    exact o9 X _ h (r x)
 ·rw[iB e] at r
  rw[iB e']
  refine bH h (λh _=>eF.at r hk λa d r=>DX.le r (jL (aQ _ h)) λxs r x=>E7 X _ h (r x)) λ_ h=>eF.at r hk λa d r=>⟨r.1,r.2.elim λo r=>r.elim λxs r=>⟨o,xs,r.1,r.2.1,?_,λx=>E4 X h (r.2.2.2 x)⟩⟩
  refine Un r.2.1 λes ep h1 h2 h3 h4 nd=>?_
  exact Jp h nd r.2.2.2
 ·rw[fS e] at r
  rw[fS e',<-cf h1]
  refine eF.at r hk λa d r=>DX.le r (jL (aQ _ h)) λxs r=>⟨λx hx=>⟨(r.1 x hx).1.cls X.I (H8 x.1),(r.1 x hx).2⟩,λx=>kY X _ h (r.2 x)⟩
 ·have hj:j=k:=hj.elim id λn=>by rw[e] at n;exact oS n
  subst hj
  rw[gY e] at r
  rw[gY e']
  refine bH h (λe _=>?_) λ_ h=>bq h (λz hz _=>?_) λ_ h=>nomatch h
  ·rw[<-cf e]
   exact c.σ.πm r (λ_ e=>hk.trans e) X.I
  ·refine cD hz λm t=>?_
   refine bS (al.mp t) λt1 t2=>?_
   have:=C.a z m
   rw[<-cf t1,<-cf t2] at this
   show c.σ.π _ _ _ _ _
   rw[<-this]
   exact c.σ.πm r (λ_ e=>hk.trans e) X.I
def qx(X:cF c p q T){ch:xw}(C:gm c.σ ch){k o o' x}(hk:q.ρ[k]? =p.ρ[k]?)(h:cO T ch o o'=true)(r:RO c p k x o):RO c q k x o':=wV X C hk (.inl rfl) h r
end
section
variable{c:Cx}{p q:Pt}{n:Nat}{σ:Sg}{T:mr}
theorem bG.Y_(X:cF c p q T)(l:List V):∀{us l'},bG c p l us->BX T l=some l'->bG c q l' us:=by
 induction l with
 | nil=>intro us l' r e;obtain rfl:=oI e;rw[r.inv];exact .nil
 | cons v l ih=>intro us l' r e;refine eC r.inv λu Za e' r1 r2=>?_;refine aH (cU e) λx e1 e=>?_;refine aH (fp e) λy e2 e=>?_;rw[e',<-e];exact .cons (r1.Y_ X x e1) (ih r2 e2)
def Qe(T:mr)(l:List (Nat×V)):Option (List (Nat×V)):=List.rec (some []) (λx _ g=>(x.2.Y_ T).bind λv=>g.map ((x.1,v)::·)) l
def Mr(X:cF c p q T)(l:List (Nat×V)):∀{es l'},RA c p l es->Qe T l=some l'->RA c q l' es:=by
 induction l with
 | nil=>intro es l' r e;obtain rfl:=oI e;rw[show es=[] from r.inv];exact .nil
 | cons x l ih=>
  intro es l' r e
  refine li r.inv λy t u Zk e1 e2 r1 r2=>?_
  refine aH (cU e) λv e3 e=>?_
  refine aH (fp e) λz e4 e=>?_
  rw[e2,<-e,e1]
  exact .cons (r1.Y_ X v e3) (ih r2 e4)
def aK.freeze{a:Act c}{mm Y s j o}(S:aK a p mm Y s)(hj:Y.H[j]? =some o):∃x,RO c p j x o/\aK a ⟨p.ρ,x++p.I,p.τ⟩ mm ⟨Y.pc,bW j .gone Y.H⟩ s:=by
 refine S.el λg own tn F N hn hH hr le cv pc ge os=>?_
 refine hH.split hj λpre x post e P=>?_
 have l:Le p ⟨p.ρ,x++p.I,p.τ⟩:=⟨iM.refl _,λ_ h=>j0 _ h,rfl⟩
 have pm:((pre++([]++post))++(a.X++(x++p.I))).Perm (own++(a.X++p.I)):=by
  rw[e]
  simp only [List.nil_append,gK]
  refine mC pre ?_
  have:=sZ (post++a.X) x p.I
  simpa [gK] using this
 refine⟨x,eM j▸P.1,⟨⟨g,pre++([]++post),tn,F,News.perm N pm,aY hn pm,?_,by show _=(bW j .gone Y.H).length;rw[dj,List.length_set];exact hr⟩,le.trans l |> λh=>h,eh l cv,pc,ge,os⟩⟩
 show RH c _ 0 (bW j .gone Y.H) _
 rw[dj]
 exact P.2 _ l .gone [] rfl
abbrev Fz:=List (Nat×V)
def mU(c:Cx)(p:Pt)(t:Fz):Prop:=∀k v u,lk k t=some v->RV c p (.ref k) u->RV c p v u
def TF(t:Fz):mr:=⟨1000000,λk=>some (Option.rec (.ref k) (λv=>v) (lk k t)),λn=>some (.pat n),λe=>some (.sym e)⟩
def Tn{t:Fz}(h:mU c p t)(l:Le p q)(g_:q.ρ=p.ρ):cF c p q (TF t) where
 ρ k _:=by rw[g_]
 I:=l.I
 r k v u e r:=by
  rcases e':lk k t with _|w
  ·have e:some (Option.rec (.ref k) (λv=>v) (lk k t):V)=some v:=e;rw[e'] at e;obtain rfl:=oI e;exact r.mono l
  ·have e:some (Option.rec (.ref k) (λv=>v) (lk k t):V)=some v:=e;rw[e'] at e;obtain rfl:=oI e;exact(h k w u e' r).mono l
 t n v u e r:=by obtain rfl:=oI e;exact r.mono l
 s e v t h:=by obtain rfl:=oI h;exact .sym e t
def Sm(j:Nat)(H:Hp)(t:Fz):Option (Hp×Fz):=(bh H j).bind λo=>
 pC ((dw o).bind λl=>(BX (TF t) l).map λl=>(bW j .gone H,(j,.fls l)::t)) ((eU o).bind λz=>(Qe (TF t) z.2).map λl=>(bW j .gone H,(j,.fin z.1 l)::t))
def mU.cons{t:Fz}(h:mU c p t)(l:Le p q)(g_:q.ρ=p.ρ){j v}(hv:∀u,RV c p (.ref j) u->RV c q v u):mU c q ((j,v)::t):=λk w u e r=>by
 have r':RV c p (.ref k) u:=by refine iR r.inv λa d e h=>?_;rw[e];exact .ref (g_▸h)
 refine bp (show(Bool.rec (lk k t) (some v) (Nat.beq j k):Option V)=some w from e) (λe1 e=>?_) λ_ e=>(h k w u e r').mono l
 obtain rfl:=oI e
 rw[<-cf e1] at r'
 exact hv u r'
def IO{a:Act c}{mm Y s j t z}(S:aK a p mm Y s)(hf:mU c p t)(h:Sm j Y.H t=some z):∃I',(∀x∈p.I,x∈I')/\aK a ⟨p.ρ,I',p.τ⟩ mm ⟨Y.pc,z.1⟩ s/\mU c ⟨p.ρ,I',p.τ⟩ z.2:=by
 refine aH (cU h) λo ho h=>?_
 refine aH (S.freeze (eQ ho)) λx R S'=>?_
 have l:Le p ⟨p.ρ,x++p.I,p.τ⟩:=⟨iM.refl _,λ_ h=>j0 _ h,rfl⟩
 have X:=Tn (q:=⟨p.ρ,x++p.I,p.τ⟩) hf l rfl
 refine dS h (λh=>?_) λh=>?_
 ·refine aH (cU h) λy hy h=>?_
  refine aH (fp h) λy' hy' h=>?_
  rw[bU hy] at R
  rw[<-h]
  refine⟨_,l.I,S',hf.cons l rfl λu r=>?_⟩
  refine iR r.inv λad d e g_=>?_
  obtain⟨a',d',e',vs,nn,h1,h2⟩:=R
  rw[g_] at e';refine bS (fI (oI e')) λX_ YO=>?_;obtain rfl:=X_;obtain rfl:=YO
  rw[e]
  exact .fls (n:=nn) (.inl (by rw[h2];exact .head _)) (h1.Y_ X y hy')
 ·refine aH (cU h) λy hy h=>?_
  refine aH (fp h) λy' hy' h=>?_
  rw[bZ hy] at R
  rw[<-h]
  refine⟨_,l.I,S',hf.cons l rfl λu r=>?_⟩
  refine iR r.inv λad d e g_=>?_
  obtain⟨a',d',e',es,nn,h1,h2⟩:=R
  rw[g_] at e';refine bS (fI (oI e')) λZx Z9=>?_;obtain rfl:=Zx;obtain rfl:=Z9
  rw[e]
  exact .fin (es:=es) (n:=nn) (.inl (by rw[h2];exact .head _)) (.inl (by rw[h2];exact .tail _ (.head _))) (Mr X y.2 h1 hy')
def Oh(js:List Nat):Hp->Fz->Option (Hp×Fz):=List.rec (λH t=>some (H,t)) (λj _ g H t=>(Sm j H t).bind λz=>g z.1 z.2) js
def yM{a:Act c}{mm pc s}(js:List Nat):∀{I τ ρ H t z},aK a ⟨ρ,I,τ⟩ mm ⟨pc,H⟩ s->mU c ⟨ρ,I,τ⟩ t->Oh js H t=some z->∃I',(∀x∈I,x∈I')/\aK a ⟨ρ,I',τ⟩ mm ⟨pc,z.1⟩ s/\mU c ⟨ρ,I',τ⟩ z.2:=by
 induction js with
 | nil=>intro I τ ρ H t z S hf h;obtain rfl:=oI h;exact⟨I,λ_ h=>h,S,hf⟩
 | cons j js ih=>
  intro I τ ρ H t z S hf h
  refine aH (cU h) λy hy h=>?_
  refine lj (IO S hf hy) λYA h1 aC Vo=>?_
  refine lj (ih aC Vo h) λfj h2 aO Vn=>?_
  exact⟨fj,λx hx=>h2 x (h1 x hx),aO,Vn⟩
def ol(H:Hp)(n:Nat):Option V:=(bh H (n / 64)).bind λo=>pC ((eU o).bind λz=>(bh z.2 (n % 64)).map (·.2)) ((lU o).bind λl=>(bh l (n % 64)).map (·.2))
def dQ(o:AO):Bool:=match o with
 | .gone=>true
 | _=>false
def fT{o}(h:dQ o=true):o=.gone:=by induction o using AO.casesOn with
 | gone=>rfl
 | _=>exact bT h
def mV(m n:Nat)(x y:V):Bool:=bi (bb (Nat.beq x.tag 17) (Nat.beq x.xn n)) true (bb (V.beq x y) (y.S_ m))
def mA(m:Nat)(l:List (Nat×V)):Nat->List (Nat×V)->Bool:=List.rec (λ_=>bf) (λx _ g n l'=>bR l' λy r=>bb (Nat.beq x.1 y.1) (bb (mV m n x.2 y.2) (g (n+1) r))) l
def Tm(m:Nat):mr:=⟨m,λk=>ij (Nat.blt k m) (some (.ref k)),λ_=>.none,λe=>some (.sym e)⟩
def i8:xw:=⟨[],[],[],[]⟩
def aV:gm σ i8:=⟨ae,ae,ae,ae⟩
def vk{m:Nat}(g_:∀k,k < m->q.ρ[k]? =p.ρ[k]?)(hI:∀x∈p.I,x∈q.I):cF c p q (Tm m) where
 ρ:=g_
 I:=hI
 r k v u e r:=be e λh e=>by
  obtain rfl:=oI e
  refine iR r.inv λa d e h'=>?_
  rw[e];exact .ref ((g_ k (fu h)).trans h')
 t n v u e r:=nomatch e
 s e v t h:=by obtain rfl:=oI h;exact .sym e t
def mO(m j:Nat)(x y:AO):Bool:=bi (dQ x) true
 (oi (eU x) (λz=>ob (eU y) λw=>bb (Nat.beq z.1 w.1) (bb (Nat.ble z.2.length 64) (mA m z.2 (64 * j) w.2)))
 (oi (lU x) (λl=>ob (lU y) λl'=>bb (Nat.ble l.length 64) (mA m l (64 * j) l'))
 (bb (cO (Tm m) i8 y x) (cO (Tm m) i8 x y))))
def mH(m:Nat)(Hs:Hp):Nat->Hp->Bool:=List.rec (λ_ _=>true) (λx _ g j H=>bR H λy r=>bb (mO m j x y) (g (j+1) r)) Hs
def MX{m:Nat}(Hs:Hp):∀{DO:Nat} {H:Hp},mH m Hs DO H=true->Hs.length<=H.length/\∀j x,Hs[j]? =some x->∃y,H[j]? =some y/\mO m (DO+j) x y=true:=by
 induction Hs with
 | nil=>exact λ_=>⟨fv _,λj x h=>nomatch h⟩
 | cons x Hs ih=>
  intro DO H h
  refine aZ h λy r e h=>ag h λh1 h=>?_
  refine bS (ih h) λi1 i2=>?_
  rw[e]
  refine⟨j3 i1,λj z hz=>?_⟩
  induction j using nC with
  | zero=>obtain rfl:=oI hz;exact⟨y,rfl,h1⟩
  | succ j=>rw[s7] at hz ⊢;rw[show DO+(j+1)=DO+1+j by lia];exact i2 j z hz
section
variable{m:Nat}{H:Hp}
structure zm(c:Cx)(p q:Pt)(m:Nat)(H:Hp):Prop where
 ρ:∀k,k < m->q.ρ[k]? =p.ρ[k]?
 I:∀x∈p.I,x∈q.I
 f:∀n act u,ol H n=some act->RV c p act u->RV c q (.pat n) u
structure F5(c:Cx)(p q:Pt)(m:Nat)(H:Hp):Prop where
 ρ:∀k,k < m->q.ρ[k]? =p.ρ[k]?
 I:∀x∈p.I,x∈q.I
 f:∀n act u,ol H n=some act->RV c p (.pat n) u->RV c q act u
def Dl(X:zm c p q m H){n x y u}(e:ol H n=some y)(h:mV m n x y=true)(r:RV c p y u):RV c q x u:=bH h (λh _=>by
  refine bS (al.mp h) λt1 t2=>?_
  rw[V.is t1]
  show RV c q (.pat x.xn) u
  rw[cf t2]
  exact X.f n y u e r) λ_ h=>ag h λh1 h2=>by rw[V.eq_of_beq _ h1];exact r.move X.ρ X.I h2
def Dm(X:F5 c p q m H){n x y u}(e:ol H n=some y)(h:mV m n x y=true)(r:RV c p x u):RV c q y u:=bH h (λh _=>by
  refine bS (al.mp h) λt1 t2=>?_
  rw[V.is t1] at r
  have r:RV c p (.pat x.xn) u:=r
  rw[cf t2] at r
  exact X.f n y u e r) λ_ h=>ag h λh1 h2=>by rw[V.eq_of_beq _ h1] at r;exact r.move X.ρ X.I h2
def rm(l:List (Nat×V)):∀{n l'},mA m l n l'=true->(∀i v,(bh l' i).map (·.2)=some v->i < l.length->ol H (n+i)=some v)->∃b:List (Nat×(V×V)),l=b.map (λz=>(z.1,z.2.1))/\l'=b.map (λz=>(z.1,z.2.2))/\∀z∈b,∃n,ol H n=some z.2.2/\mV m n z.2.1 z.2.2=true:=by
 induction l with
 | nil=>intro n l' h f;rw[aG h];exact⟨[],rfl,rfl,ae⟩
 | cons x l ih=>
  intro n l' h f
  refine aZ h λy r e h=>ag h λh1 h=>ag h λh2 h=>?_
  rw[e] at f ⊢
  obtain⟨b,e1,e2,hb⟩:=ih h λi v hv hi=>by
   have:=f (i+1) v hv (Nat.succ_lt_succ hi)
   rwa [show n+(i+1)=n+1+i by lia] at this
  obtain⟨y1,y2⟩:=y
  have ey:x.1=y1:=cf h1
  refine⟨(x.1,x.2,y2)::b,by rw[e1];rfl,by rw[e2,<-ey];rfl,λz hz=>(dL.mp hz).elim (λe=>?_) (hb z)⟩
  rw[e]
  exact⟨n,f 0 y2 rfl (qG _),h2⟩
def tM{f g:V×V->V}(b:List (Nat×(V×V))):∀{es},(∀z∈b,∀u,RV c p (f z.2) u->RV c q (g z.2) u)->RA c p (b.map λz=>(z.1,f z.2)) es->RA c q (b.map λz=>(z.1,g z.2)) es:=by
 induction b with
 | nil=>intro es _ r;rw[show es=[] from r.inv];exact .nil
 | cons z b ih=>
  intro es h r
  refine li r.inv λy t u Zk e1 e2 r1 r2=>?_
  have e1:z.1=code y:=e1
  rw[e2]
  show RA c q ((z.1,g z.2)::_) _
  rw[e1]
  exact .cons (h z (.head _) u r1) (ih (λw hw=>h w (.tail _ hw)) r2)
def oB{f g:V×V->V}{k:Nat}{y:Option Value}(b:List (Nat×(V×V))):(∀z∈b,∀u,RV c p (f z.2) u->RV c q (g z.2) u)->au c p (look k (b.map λz=>(z.1,f z.2))) y->au c q (look k (b.map λz=>(z.1,g z.2))) y:=by
 induction b with
 | nil=>intro _ r;exact ci r (λ_ _ e=>nomatch e) λ_=>rfl
 | cons z b ih=>
  intro h r
  show au c q (look k ((z.1,g z.2)::_)) y
  have r:au c p (look k ((z.1,f z.2)::b.map λz=>(z.1,f z.2))) y:=r
  rw[aX] at r ⊢
  by_cases e:z.1=k
  ·rw[if_pos e] at r ⊢
   exact ci r (λv u e r=>⟨_,rfl,h z (.head _) u (by obtain rfl:=oI e;exact r)⟩) nofun
  ·rw[if_neg e] at r ⊢
   exact ih (λw hw=>h w (.tail _ hw)) r
def tR{j i:Nat}{C l v}(hj:H[j]? =some (.inst C l))(hi:i < 64)(e:(bh l i).map (·.2)=some v):ol H (64 * j+i)=some v:=by
 unfold ol
 rw[show(64 * j+i) / 64=j by lia,show(64 * j+i) % 64=i by lia,bK,hj]
 show pC ((bh l i).map (·.2)) _=_
 rw[e];rfl
def CP{j i:Nat}{l v}(hj:H[j]? =some (.ds l))(hi:i < 64)(e:(bh l i).map (·.2)=some v):ol H (64 * j+i)=some v:=by
 unfold ol
 rw[show(64 * j+i) / 64=j by lia,show(64 * j+i) % 64=i by lia,bK,hj]
 show pC .none ((bh l i).map (·.2))=_
 rw[e];rfl
def MV(X:zm c p q m H){k x y led}(hk:q.ρ[k]? =p.ρ[k]?)(hj:H[k]? =some y)(h:mO m k x y=true)(r:RO c p k led y):dQ x=true\/RO c q k led x:=by
 refine bH h (λh _=>.inl h) λ_ h=>.inr (bq h (λz e h=>ay h λw e' h=>ag h λh1 h=>ag h λh2 h=>?_) λ_ h=>bq h (λl e h=>ay h λl' e' h=>ag h λh2 h=>?_) λ_ h=>ag h λh _=>?_)
 ·rw[bZ e'] at r hj
  rw[bZ e,cf h1]
  refine lj (rm (H:=H) z.2 h λi v hv hi=>tR hj (vz hi (fu h2)) hv) λb e1 e2 hb=>?_
  rw[e2] at r
  rw[e1]
  exact eF.at r hk λa d r=>r.elim λes r=>r.elim λn r=>⟨es,n,tM (f:=(·.2)) (g:=(·.1)) b (λz hz u r=>(hb z hz).elim λn hn=>Dl X hn.1 hn.2 r) r.1,r.2⟩
 ·rw[dp e'] at r hj
  rw[dp e]
  refine lj (rm (H:=H) l h λi v hv hi=>CP hj (vz hi (fu h2)) hv) λb e1 e2 hb=>?_
  rw[e2] at r
  rw[e1]
  exact eF.at r hk λa d r=>DX.le r (by rw[gE,gE];exact fG _) λxs r x=>oB (f:=(·.2)) (g:=(·.1)) b (λz hz u r=>(hb z hz).elim λn hn=>Dl X hn.1 hn.2 r) (r x)
 ·exact qx (vk X.ρ X.I) aV hk h r
def MW(X:F5 c p q m H){k x y led}(hk:q.ρ[k]? =p.ρ[k]?)(hj:H[k]? =some y)(h:mO m k x y=true)(hg:dQ x=false)(r:RO c p k led x):RO c q k led y:=by
 refine bH h (λh _=>by rw[hg] at h;exact bT h) λ_ h=>bq h (λz e h=>ay h λw e' h=>ag h λh1 h=>ag h λh2 h=>?_) λ_ h=>bq h (λl e h=>ay h λl' e' h=>ag h λh2 h=>?_) λ_ h=>ag h λ_ h=>?_
 ·rw[bZ e'] at hj ⊢
  rw[bZ e,cf h1] at r
  refine lj (rm (H:=H) z.2 h λi v hv hi=>tR hj (vz hi (fu h2)) hv) λb e1 e2 hb=>?_
  rw[e1] at r
  rw[e2]
  exact eF.at r hk λa d r=>r.elim λes r=>r.elim λn r=>⟨es,n,tM (f:=(·.1)) (g:=(·.2)) b (λz hz u r=>(hb z hz).elim λn hn=>Dm X hn.1 hn.2 r) r.1,r.2⟩
 ·rw[dp e'] at hj ⊢
  rw[dp e] at r
  refine lj (rm (H:=H) l h λi v hv hi=>CP hj (vz hi (fu h2)) hv) λb e1 e2 hb=>?_
  rw[e1] at r
  rw[e2]
  exact eF.at r hk λa d r=>DX.le r (by rw[gE,gE];exact fG _) λxs r x=>oB (f:=(·.1)) (g:=(·.2)) b (λz hz u r=>(hb z hz).elim λn hn=>Dm X hn.1 hn.2 r) (r x)
 ·exact qx (vk X.ρ X.I) aV hk h r
end
end
section
variable{c:Cx}{p q r:Pt}{n N:Nat}{σ:Sg}{T:mr}{H H' dg Hs:Hp}
def Bk(c:Cx)(q r:Pt)(k:Nat)(Hs H dg H':Hp):Prop:=∀j o',H'[j]? =some o'->(H[j]? =some o'/\∀x,Hs[j]? =some x->dQ x=true)\/j < Hs.length/\∃gG,dg[j]? =some gG/\∀led,RO c q (k+j) led gG->RO c r (k+j) led o'
def Bk.tail{k x y gG o'}(h:Bk c q r k (x::Hs) (y::H) (gG::dg) (o'::H')):Bk c q r (k+1) Hs H dg H':=λj z e=>(h (j+1) z e).imp (λh=>⟨h.1,λx hx=>h.2 x hx⟩) λh=>⟨Nat.lt_of_succ_lt_succ h.1,h.2.elim λo h=>⟨o,h.1,λled=>(show k+(j+1)=k+1+j by omega)▸h.2 led⟩⟩
def yb{α:Type}(a b c d:List α):((a++b)++(c++d)).Perm ((a++c)++(b++d)):=by
 simp only [gK]
 exact mC a (sZ b c d)
def MD{α:Type}(a b c d:List α):((a++b)++(c++d)).Perm ((c++b)++(a++d)):=by
 simp only [gK]
 exact((mC a (sZ b c d)).trans (sZ a c (b++d))).trans (mC c (sZ a b d))
def En{G:Hp}(X:zm c p q N G)(hk:∀k,k < N->q.ρ[k]? =p.ρ[k]?)(Hs:Hp):∀{k H own},RH c p k H own->(∀j y,H[j]? =some y->G[k+j]? =some y)->mH N Hs k H=true->k+Hs.length<=N->
  ∃f8 rest,own.Perm (f8++rest)/\RH c q k Hs f8/\∀{q' r dg j_ H'},Le p r->RH c q' k dg j_->Hs.length<=dg.length->H'.length=H.length->Bk c q' r k Hs H dg H'->∃cY YJ,(j_++rest).Perm (cY++YJ)/\RH c r k H' cY:=by
 induction Hs with
 | nil=>
  intro k H own h _ _ _
  refine⟨[],own,.refl _,rfl,λ{q' r dg j_ H'} l h' _ e b=>?_⟩
  have:H'=H:=List.ext_getElem? λj=>by
   rcases e1:H'[j]? with _|o
   ·rw[zt] at e1;rw[eq_comm,zt,<-e];exact e1
   ·exact(b j o e1).elim (λh=>h.1.symm) λh=>absurd h.1 (Nat.not_lt_zero _)
  rw[this]
  exact⟨own,j_,List.perm_append_comm,h.mono l⟩
 | cons x Hs ih=>
  intro k H own h hG hm hN
  refine aZ hm λy rr e hm=>ag hm λh1 h2=>?_
  rw[e] at h hG
  refine eC h λa b e1 ro h=>?_
  have hN':k+1+Hs.length<=N:=by rw[gq] at hN;omega
  have hkN:k < N:=by rw[gq] at hN;omega
  obtain⟨f8,rest,pm,hH,back⟩:=ih h (λj y e=>(show k+(j+1)=k+1+j by omega)▸hG (j+1) y e) h2 hN'
  rw[e,e1]
  rcases hg:dQ x with _|_
  ·have Qv:RO c q k a x:=(MV X (hk k hkN) (hG 0 y rfl) h1 ro).elim (λh=>by rw[hg] at h;exact bT h) id
   refine⟨a++f8,rest,?_,⟨a,f8,rfl,Qv,hH⟩,λ{q' r dg j_ H'} l h' hl Ze bk=>?_⟩
   ·rw[gK];exact mC a pm
   ·rcases dg with _|⟨gG,dg⟩
    ·exact absurd hl (Nat.not_succ_le_zero _)
    ·rcases H' with _|⟨o',H'⟩
     ·cases Ze
     ·refine eC h' λa' b' e2 ro' h'=>?_
      refine iR (back l h' (Nat.le_of_succ_le_succ hl) (Nat.succ.inj Ze) bk.tail) λcY YJ Z4 h3=>?_
      rw[e2]
      refine(bk 0 o' rfl).elim (λz=>?_) λz=>?_
      ·have:=z.2 x rfl;rw[hg] at this;exact bT this
      ·obtain⟨_,o,eo,w⟩:=z
       obtain rfl:=oI eo
       exact⟨a'++cY,YJ,by rw[gK,gK];exact mC a' Z4,⟨a',cY,rfl,w a' ro',h3⟩⟩
  ·rw[fT hg]
   refine⟨[]++f8,a++rest,?_,⟨[],f8,rfl,rfl,hH⟩,λ{q' r dg j_ H'} l h' hl Ze bk=>?_⟩
   ·rw[List.nil_append];exact(mC a pm).trans (sZ a f8 rest)
   ·rcases dg with _|⟨gG,dg⟩
    ·exact absurd hl (Nat.not_succ_le_zero _)
    ·rcases H' with _|⟨o',H'⟩
     ·cases Ze
     ·refine eC h' λa' b' e2 ro' h'=>?_
      refine iR (back l h' (Nat.le_of_succ_le_succ hl) (Nat.succ.inj Ze) bk.tail) λcY YJ Z4 h3=>?_
      rw[e2]
      refine(bk 0 o' rfl).elim (λz=>?_) λz=>?_
      ·cases z.1
       exact⟨a++cY,a'++YJ,(MD a' b' a rest).trans (((yb a b' a' rest).trans (mC _ Z4)).trans (yb a a' cY YJ)),⟨a,cY,rfl,ro.mono l,h3⟩⟩
      ·obtain⟨_,o,eo,w⟩:=z
       obtain rfl:=oI eo
       exact⟨a'++cY,a++YJ,((yb a' b' a rest).trans (mC _ Z4)).trans (yb a' a cY YJ),⟨a',cY,rfl,w a' ro',h3⟩⟩
def VG(e:SE)(es:List (SE×SE)):SE:=Option.rec e (·.2) (mq (λz=>SE.beq e z.1) es)
def Ov{e:SE}{es:List (SE×SE)}{ν}(h:∀z∈es,z.1.ev ν=z.2.ev ν):(VG e es).ev ν=e.ev ν:=by
 unfold VG
 induction e1:mq (λz=>SE.beq e z.1) es using oC with
 | none=>rfl
 | some z=>exact cD e1 λm t=>by rw[SE.eq_of_beq _ t];exact(h z m).symm
def TZ(t:Fz)(m:Nat)(es:List (SE×SE)):mr:=⟨m,λk=>Option.rec (ij (Nat.blt k m) (some (.ref k))) (λv=>ij (v.S_ m) (some v)) (lk k t),λ_=>.none,λe=>some (.sym (VG e es))⟩
def Tl{t:Fz}{es}(h:mU c p t)(g_:∀k,k < N->q.ρ[k]? =p.ρ[k]?)(hI:∀x∈p.I,x∈q.I)(he:∀z∈es,z.1.ev c.σ.ν=z.2.ev c.σ.ν):cF c p q (TZ t N es) where
 ρ:=g_
 I:=hI
 r k v u e r:=by
  have e:(Option.rec (ij (Nat.blt k N) (some (.ref k))) (λv=>ij (v.S_ N) (some v)) (lk k t):Option V)=some v:=e
  refine tL e (λw e1 e=>be e λh1 e=>?_) λ_ e=>be e λh1 e=>?_
  ·obtain rfl:=Eq.symm (oI e);exact(h k _ u e1 r).move g_ hI h1
  ·obtain rfl:=oI e
   refine iR r.inv λa d e h'=>?_
   rw[e];exact .ref ((g_ k (fu h1)).trans h')
 t n v u e r:=nomatch e
 s e v t h:=by obtain rfl:=oI h;rw[<-Ov he];exact .sym _ t
def JX:mr:=⟨1000000,λk=>some (.ref k),λn=>some (.pat n),λe=>some (.sym e)⟩
def l4:cF c p p JX:=⟨λ_ _=>rfl,λ_ h=>h,λk v u e r=>by obtain rfl:=oI e;exact r,λn v u e r=>by obtain rfl:=oI e;exact r,λe v t h=>by obtain rfl:=oI h;exact .sym e t⟩
def iU(ch:List (Nat×AO))(H:Hp):Hp:=List.rec H (λz _ g=>bW z.1 z.2 g) ch
def nR(ch:List (Nat×AO)):(iU ch H).length=H.length:=by
 induction ch with
 | nil=>rfl
 | cons z ch ih=>show(bW z.1 z.2 (iU ch H)).length=_;rw[dj,List.length_set];exact ih
def vV(ch:List (Nat×AO)):∀{j:Nat} {o},(iU ch H)[j]? =some o->lk j ch=some o\/(lk j ch=.none/\H[j]? =some o):=by
 induction ch with
 | nil=>exact λh=>.inr ⟨rfl,h⟩
 | cons z ch ih=>
  intro j o e
  have e:(bW z.1 z.2 (iU ch H))[j]? =some o:=e
  rw[dj,List.getElem?_set] at e
  show(Bool.rec (lk j ch) (some z.2) (Nat.beq z.1 j):Option AO)=some o\/_
  by_cases h:z.1=j
  ·rw[if_pos h] at e
   rw[h,mz]
   by_cases h2:j < (iU ch H).length
   ·rw[h,if_pos h2] at e;exact .inl e
   ·rw[h,if_neg h2] at e;exact oN e
  ·rw[if_neg h] at e
   have:Nat.beq z.1 j=false:=by
    rcases e:Nat.beq z.1 j with _|_
    ·rfl
    ·exact absurd (cf e) h
   show _\/((Bool.rec (lk j ch) (some z.2) (Nat.beq z.1 j):Option AO)=.none/\_)
   rw[this]
   exact ih e
def W9(t:Fz)(cg:xw)(ch:List (Nat×AO))(N:Nat)(Hs:Hp):Nat->Hp->Bool:=List.rec (λ_ _=>true) (λx _ g k dg=>bR dg λgG GV=>bb (oi (lk k ch) (λo'=>cO (TZ t N cg.e) cg gG o') (bi (dQ x) true (cO JX i8 gG x))) (g (k+1) GV)) Hs
def Jz{t cg ch}(Hs:Hp):∀{k dg},W9 t cg ch N Hs k dg=true->Hs.length<=dg.length/\∀j x,Hs[j]? =some x->∃gG,dg[j]? =some gG/\oi (lk (k+j) ch) (λo'=>cO (TZ t N cg.e) cg gG o') (bi (dQ x) true (cO JX i8 gG x))=true:=by
 induction Hs with
 | nil=>exact λ_=>⟨fv _,λj x h=>nomatch h⟩
 | cons x Hs ih=>
  intro k dg h
  refine aZ h λy r e h=>ag h λh1 h=>?_
  refine bS (ih h) λi1 i2=>?_
  rw[e]
  refine⟨j3 i1,λj z hz=>?_⟩
  induction j using nC with
  | zero=>obtain rfl:=oI hz;exact⟨y,rfl,h1⟩
  | succ j=>rw[s7] at hz ⊢;rw[show k+(j+1)=k+1+j by omega];exact i2 j z hz
def Nb{α:Type}{P:Nat->Prop}{j:Nat}{o:α}(l:List (Nat×α))(h:∀z∈l,P z.1)(e:lk j l=some o):P j:=by
 induction l with
 | nil=>exact oN e
 | cons z l ih=>exact bp (show(Bool.rec (lk j l) (some z.2) (Nat.beq z.1 j):Option α)=some o from e) (λe1 _=>(cf e1)▸h z (.head _)) λ_ e=>ih (λz hz=>h z (.tail _ hz)) e
def tF(code:FS)(pc:PC)(vs:List V)(Hs:Hp)(js:List Nat)(ch:List (Nat×AO))(cg:xw)(res:V):Bool:=
 bb (zQ Hs.length vs) (bb (ch.all λz=>Nat.blt z.1 Hs.length) (code vs ⟨pc,Hs⟩ λv Y=>ob (Oh js Y.H []) λz=>bb (W9 z.2 cg ch Hs.length Hs 0 z.1) (cV (TZ z.2 Hs.length cg.e) v res)))
def Yn{f n code}(hc:ah aq c n f code){a:Act c}{A:Around}{m Y s vs us}{R:Result->Shared->Prop}{js ch cg res CN}(hr:jz A n)(hA:A.frames=some a.fl)(S:aK a p m Y s)(p_:bG c p vs us)(hm:mH Hs.length Hs 0 Y.H=true)(C:gm c.σ cg)(ZE:∀x∈CN,c.σ.β x.1=x.2)
  (run:tF code CN vs Hs js ch cg res=true)
  (hR:∀q u s',Le p q->aK a q m ⟨Y.pc,iU ch Y.H⟩ s'->RV c q res u->R (.ok (.ret u)) s'):codeAny (Mo c) A (.call (.ref f) ⟨us,[]⟩) R s:=by
 refine ag run λhv run=>ag run λhcl run=>?_
 refine S.el λg own tn F N nd rh len le cv pc ge os=>?_
 refine bS (MX Hs hm) λhl hg=>?_
 let bP:Pt:=⟨p.ρ.take Hs.length,p.I,λn u=>∃act,ol Y.H n=some act/\RV c p act u⟩
 have g_:∀k,k < Hs.length->bP.ρ[k]? =p.ρ[k]?:=λk hk=>by show(p.ρ.take Hs.length)[k]? =_;rw[List.getElem?_take,if_pos hk]
 have X:zm c p bP Hs.length Y.H:=⟨g_,λ_ h=>h,λn act u e r=>.pat ⟨act,e,r⟩ r.handed⟩
 obtain⟨f8,rest,pm,hH,back⟩:=En X g_ Hs rh (λj y e=>by rw[eM];exact e) hm (jL (eM _))
 have Z4:(f8++((rest++a.X)++p.I)).Perm (own++(a.X++p.I)):=by
  have:=(pm.symm.append_right (a.X++p.I))
  simpa [gK] using this
 refine hc {a with X:=rest++a.X,cv:=[],p₀:=bP} A bP m ⟨CN,Hs⟩ s vs us _ R hr hA run ⟨⟨g,f8,tn,F,News.perm N Z4,aY nd Z4,hH,by rw[List.length_take,len];exact Nat.min_eq_left hl⟩,Le.refl _,(λx v h=>nomatch h),ZE,ge,os⟩ (bG.imp vs (λv YY u r=>r.move g_ (λ_ h=>h) (q8 hv v YY)) p_) (λq u v bn s' l aC hu hk=>?_) λq Y s' j e _ _ _ _ h=>nomatch h
 refine ay hk λz hz hk=>ag hk λh1 h2=>?_
 obtain⟨fj,yG,aO,hF⟩:=yM js (I:=q.I) (τ:=q.τ) (ρ:=q.ρ) (pc:=bn.pc) aC (λk v u e=>by exact oN e) hz
 obtain⟨g',j_,tn',F',N',nd',rh',Zl⟩:=aO.st
 have hI:∀x∈p.I,x∈fj:=λx hx=>yG x (l.I x hx)
 have lr:Le p ⟨p.ρ,fj,p.τ⟩:=⟨iM.refl _,hI,rfl⟩
 have Zc:∀k,k < Hs.length->p.ρ[k]? =q.ρ[k]?:=λk hk=>by
  have Zn:k < p.ρ.length:=by rw[len];omega
  have e1:p.ρ[k]? =some p.ρ[k]:=vr Zn
  rw[e1]
  exact(l.ρ.get ((g_ k hk).trans e1)).symm
 have TX:cF c ⟨q.ρ,fj,q.τ⟩ ⟨p.ρ,fj,p.τ⟩ (TZ z.2 Hs.length cg.e):=Tl hF Zc (λ_ h=>h) C.e
 have TP:F5 c ⟨q.ρ,fj,q.τ⟩ ⟨p.ρ,fj,p.τ⟩ Hs.length Y.H:=⟨Zc,λ_ h=>h,λn act u e r=>by
  have h:=r.inv.1
  have h:q.τ n u:=h
  rw[l.τ] at h
  refine aH h λai7 e' r'=>?_
  rw[e] at e';obtain rfl:=oI e'
  exact r'.mono lr⟩
 refine bS (Jz Hs h1) λb1 b2=>?_
 have ag3:∀z∈ch,z.1 < Hs.length:=λz hz=>fu (jt.mp hcl z hz)
 obtain⟨cY,YJ,QL,h3⟩:=back lr rh' b1 (nR ch) λj o' e=>by
  rw[eM]
  refine(vV ch e).elim (λe1=>?_) λe1=>?_
  ·have hj:=Nb (P:=λj=>j < Hs.length) ch ag3 e1
   refine aH (b2 j _ (vr hj)) λgG e2 h=>?_
   rw[eM,e1] at h
   exact .inr ⟨hj,gG,e2,λled r=>qx TX C (Zc j hj) h r⟩
  ·by_cases hj:j < Hs.length
   ·refine aH (b2 j _ (vr hj)) λgG e2 h=>?_
    rw[eM,e1.1] at h
    refine aH (hg j _ (vr hj)) λy e3 h3=>?_
    rw[e1.2] at e3;obtain rfl:=oI e3
    rw[eM] at h3
    refine bH (show bi (dQ Hs[j]) true (cO JX i8 gG Hs[j])=true from h) (λh _=>.inl ⟨e1.2,λx hx=>?_⟩) λhg h=>.inr ⟨hj,gG,e2,λled r=>?_⟩
    ·rw[vr hj] at hx;obtain rfl:=oI hx;exact h
    ·refine MW TP (Zc j hj) e1.2 h3 ?_ (qx (q:=⟨q.ρ,fj,q.τ⟩) l4 aV rfl h r)
     rcases e:dQ Hs[j] with _|_
     ·rfl
     ·rw[e] at hg;exact bF hg
   ·exact .inl ⟨e1.2,λx hx=>absurd (oD hx).1 hj⟩
 have tQ:(YJ++(cY++(a.X++fj))).Perm (j_++((rest++a.X)++fj)):=by
  have h4:=(QL.append_right (a.X++fj)).symm
  have h5:(YJ++(cY++(a.X++fj))).Perm ((cY++YJ)++(a.X++fj)):=by
   rw[gK];exact sZ ..
  refine h5.trans (h4.trans ?_)
  simp only [gK]
  exact .refl _
 have xq:=News.perm N' tQ
 have io:=aY nd' tQ
 exact hR ⟨p.ρ,fj,p.τ⟩ u s' lr ⟨⟨g',cY,tn',F',λx hx=>xq x (j0 _ hx),by rw[sX] at io;exact(zo.mp io).2.1,h3,by rw[nR];exact len⟩,le.trans lr,eh lr cv,pc,aO.ge,aO.os⟩ (iH TX h2 (hu.mono (⟨iM.refl _,yG,rfl⟩:Le q ⟨q.ρ,fj,q.τ⟩)))
variable{kx:Nat->Sy->Bool}
structure sT where
 args:List V
 res:V
 ch:List (Nat×AO)
def So(vs:List V)(l:List sT):Option sT:=mq (λp=>jF vs p.args) l
def bg(Hs:Hp)(rows:List sT):FS:=λvs Y k=>ob (So vs rows) λp=>bb (mH Hs.length Hs 0 Y.H) (k p.res ⟨Y.pc,iU p.ch Y.H⟩)
def ax(σ:Sg)(l l':List V):Prop:=∀⦃c:Cx⦄ ⦃p:Pt⦄ ⦃us:List Value⦄,c.σ=σ->bG c p l us->bG c p l' us
def ax.refl(v:List V):ax σ v v:=λ_ _ _ _ h=>h
theorem ax.cons{v v' l l'}(h:ak σ v v')(k:ax σ l l'):ax σ (v::l) (v'::l'):=λc p us hc r=>by
 refine eC r.inv λu Za e r1 r2=>?_
 rw[e];exact .cons (h hc r1) (k hc r2)
def ax.one{v v'}(h:ak σ v v'):ax σ [v] [v']:=.cons h (.refl _)
theorem ax.tup{l l'}(h:ax σ l l'):ak σ (.tup l) (.tup l'):=λc p u hc r=>by
 refine mE r.inv λa items n e h1 h2=>?_
 rw[e];exact .tup h1 (h hc h2)
def ak.trans{a b d:V}(h:ak σ a b)(h':ak σ b d):ak σ a d:=λ_ _ _ hc r=>h' hc (h hc r)
def qC(c:Cx)(n:Nat)(f:Addr)(Hs:Hp)(p:sT):Prop:=
 ∃code pc vs r js cg,ah aq c n f code/\ax c.σ p.args vs/\ak c.σ r p.res/\(∀x∈pc,c.σ.β x.1=x.2)/\gm c.σ cg/\tF code pc vs Hs js p.ch cg r=true
def a8{f:Addr}{rows:List sT}(ac3:∀p∈rows,qC c n f Hs p):ah kx c n f (bg Hs rows):=λa A p m Y s vs us k R hr hA h S p_ hR _=>by
 refine ay h λrow hf h=>ag h λhm h=>cD hf λm he=>?_
 obtain⟨code,pc,Zp,r,js,cg,hc,h1,h2,ZE,hC,run⟩:=ac3 row m
 rw[i9 _ he] at p_
 exact Yn hc hr hA S (h1 rfl p_) hm hC ZE run λq u s' l S' hu=>hR q u row.res _ s' l S' (h2 rfl hu) h
def Sg.pi(σ:Sg)(π:Nat->Ro->fh->Nat->fh->Prop)(m:∀{n ρ Y9 I I' k x},π n ρ I k x->(∀p,ρ[k]? =some p->Y9[k]? =some p)->(∀y∈I,y∈I')->π n Y9 I' k x):Sg:={σ with π:=π,πm:=m}
def Cx.pi(c:Cx)(π:Nat->Ro->fh->Nat->fh->Prop)(m:∀{n ρ Y9 I I' k x},π n ρ I k x->(∀p,ρ[k]? =some p->Y9[k]? =some p)->(∀y∈I,y∈I')->π n Y9 I' k x):Cx:={c with σ:=c.σ.pi π m}
section
variable{π:Nat->Ro->fh->Nat->fh->Prop}{m:∀{n ρ Y9 I I' k x},π n ρ I k x->(∀p,ρ[k]? =some p->Y9[k]? =some p)->(∀y∈I,y∈I')->π n Y9 I' k x}
theorem RV.pi{v u}(h:RV c p v u):RV (c.pi π m) p v u:=
 RV.rec (c:=c) (p:=p) (motive_1:=λv u _=>RV (c.pi π m) p v u) (motive_2:=λl us _=>bG (c.pi π m) p l us) (motive_3:=λl es _=>vw (c.pi π m) p l es) (motive_4:=λl es _=>RA (c.pi π m) p l es)
  .none .bool .int .sym .any (λt h=>.clo (c:=c.pi π m) t h) (λ_ h=>.b_ h) (λh=>.rng (c:=c.pi π m) h) (λh lo _ n ih=>.Y8 h lo ih n) .str (λh _ ih=>.tup h ih) .ref (λh=>.glob (c:=c.pi π m) h) .bi .ty (λh _ ih=>.fls h ih) (λh h2 _ ih=>.fin h h2 ih) .pat
  .nil (λ_ _ h1 h2=>.cons h1 h2) .nil (λ_ _ h1 h2=>.cons h1 h2) .nil (λ_ _ h1 h2=>.cons h1 h2) h
theorem bG.pi{l us}(h:bG c p l us):bG (c.pi π m) p l us:=bG.imp l (λ_ _ _ r=>r.pi) h
def Km(l:List (Nat×V)):∀{es},RA c p l es->RA (c.pi π m) p l es:=by
 induction l with
 | nil=>intro es r;rw[show es=[] from r.inv];exact .nil
 | cons x l ih=>
  intro es r
  refine li r.inv λy t u Zk e1 e2 r1 r2=>?_
  obtain⟨x1,x2⟩:=x
  rw[show x1=code y from e1,e2]
  exact .cons r1.pi (ih r2)
theorem au.pi{x y}(h:au c p x y):au (c.pi π m) p x y:=by
 rcases x with _|v
 ·rcases y with _|u
  ·trivial
  ·exact h.elim
 ·rcases y with _|u
  ·exact h.elim
  ·exact RV.pi h
def Ds(l:List (SE×V)){g x}:cB (c.pi π m).σ l g x=cB c.σ l g x:=by
 induction l with
 | nil=>cases g <;> rfl
 | cons z l ih=>obtain⟨z1,z2⟩:=z;show(if z1.ev c.σ.ν=x then some z2 else cB (c.pi π m).σ l g x)=if z1.ev c.σ.ν=x then some z2 else cB c.σ l g x;rw[ih]
def Dr(l:List (KD×Option Nat×V)){x}:dD (c.pi π m).σ l x=dD c.σ l x:=by
 induction l with
 | nil=>rfl
 | cons z l ih=>obtain⟨z1,z2,z3⟩:=z;show(if z1.ev c.σ.ν=x/\eL c.σ z2=true then some z3 else dD (c.pi π m).σ l x)=if z1.ev c.σ.ν=x/\eL c.σ z2=true then some z3 else dD c.σ l x;rw[ih]
theorem bE.pi{x y}(h:bE c p x y):bE (c.pi π m) p x y:=by
 rcases x with _|z
 ·exact h
 ·obtain⟨v,b⟩:=z
  rcases b with _|b
  ·exact h.imp id au.pi
  ·rcases b with _|_
   ·exact h
   ·exact au.pi h
theorem RO.pi{k x o}(h:RO c p k x o)(ho:eK o=.none):RO (c.pi π m) p k x o:=match o with
 | .gone=>h
 | .t_ _=>nomatch ho
 | .lst _| .v_ _ _=>h.elim λa h=>h.elim λd h=>⟨a,d,h.1,h.2.elim λvs h=>h.elim λn h=>⟨vs,n,h.1.pi,h.2⟩⟩
 | .inst _ l=>h.elim λa h=>h.elim λd h=>⟨a,d,h.1,h.2.elim λvs h=>h.elim λn h=>⟨vs,n,Km l h.1,h.2⟩⟩
 | .exc _ l=>h.elim λa h=>h.elim λd h=>⟨a,d,h.1,h.2.casesOn λes oe vs dl hR hc hd h0 ZW hx=>⟨es,oe,vs,dl,Km l hR,hc,hd,h0,ZW,hx⟩⟩
 | .di l g=>h.elim λa h=>h.elim λd h=>⟨a,d,h.1,h.2.imp λ_ h x=>by rw[Ds];exact(h x).pi⟩
 | .ds _=>h.elim λa h=>h.elim λd h=>⟨a,d,h.1,h.2.imp λ_ h x=>(h x).pi⟩
 | .dc _=>h.elim λa h=>h.elim λd h=>⟨a,d,h.1,h.2.imp λ_ h x=>(h x).pi⟩
 | .dt _ l=>h.elim λa h=>h.elim λd h=>⟨a,d,h.1,h.2.imp λ_ h=>⟨λx hx=>⟨(h.1 x hx).1.pi,(h.1 x hx).2⟩,λx=>by rw[Dr];exact(h.2 x).pi⟩⟩
def jB(H:Hp):Bool:=H.all λo=>Option.rec true (λ_=>false) (eK o)
def C5{o:AO}(h:jB H=true)(m:o∈H):eK o=.none:=by
 have:=jt.mp h o m
 rcases e:eK o with _|i
 ·rfl
 ·rw[e] at this;exact bT this
theorem RH.pi(H:Hp):∀{k x},jB H=true->RH c p k H x->RH (c.pi π m) p k H x:=by
 induction H with
 | nil=>exact λ_ h=>h
 | cons o H ih=>
  intro k x h r
  refine eC r λa b e r1 r2=>?_
  refine⟨a,b,e,r1.pi (C5 h (.head _)),ih ?_ r2⟩
  exact jt.mpr λo' ho=>jt.mp h o' (.tail _ ho)
end
def gD(c:Cx)(es:Hp)(ρ:Ro)(I:fh)(k:Nat)(x:fh):Prop:=∃Zw p₀,ρ[k]? =some p₀/\Zw[0]? =some p₀/\Zw.length=es.length/\∀τ,RH c ⟨Zw,I,τ⟩ 0 es x
theorem gD.mono{es ρ Y9 I I' k x}(h:gD c es ρ I k x)(g_:∀p,ρ[k]? =some p->Y9[k]? =some p)(hI:∀y∈I,y∈I'):gD c es Y9 I' k x:=by
 refine Gs h λ Zw p₀ h1 h2 h3 h4=>?_
 exact⟨Zw,p₀,g_ _ h1,h2,h3,λ τ=>(h4 τ).mono (⟨iM.refl _,hI,rfl⟩:Le ⟨Zw,I,τ⟩ ⟨Zw,I',τ⟩)⟩
def Gp(T:mr)(cg:xw)(es:Hp):Hp->Bool:=List.rec (λ_=>true) (λo' _ g dg=>bR dg λgG r=>bb (cO T cg gG o') (g r)) es
def E0{cg}(C:gm c.σ cg)(es:Hp):∀{k H x},Gp T cg es H=true->RH c p k H x->∃a b,x=a++b/\∀q,cF c p q T->(∀j,k<=j->j < k+es.length->q.ρ[j]? =p.ρ[j]?)->RH c q k es a:=by
 induction es with
 | nil=>intro k H x _ _;exact⟨[],x,rfl,λ_ _ _=>rfl⟩
 | cons o' es ih=>
  intro k H x h r
  refine aZ h λgG rr e h=>ag h λh1 h=>?_
  rw[e] at r
  refine eC r λa b e1 r1 r2=>?_
  refine iR (ih h r2) λa' b' e2 r'=>?_
  exact⟨a++a',b',by rw[e1,e2,gK],λq X hk=>⟨a,a',rfl,qx X C (hk k (fG _) (by rw[gq];omega)) h1 r1,r' q X λj h1 h2=>hk j (by omega) (by rw[gq];omega)⟩⟩
structure Lz(c bj:Cx)(ES:Nat->Hp):Prop where
 π:∀i ρ I k x,c.σ.π i ρ I k x↔gD bj (ES i) ρ I k x
 e:∃π m,bj=c.pi π m
def Lz.inn{bj:Cx}{ES:Nat->Hp}(O:Lz c bj ES){H k x}(h:jB H=true)(r:RH bj p k H x):RH c p k H x:=by
 obtain⟨π,m,e⟩:=O.e
 rw[e] at r
 exact RH.pi (c:=c.pi π m) (π:=c.σ.π) (m:=c.σ.πm) H h r
def Lz.out{bj:Cx}{ES:Nat->Hp}(O:Lz c bj ES){H k x}(h:jB H=true)(r:RH c p k H x):RH bj p k H x:=by
 obtain⟨π,m,e⟩:=O.e
 rw[e]
 exact RH.pi (π:=π) (m:=m) H h r
def l7(c:Cx)(H H':Hp):Prop:=H'.length=H.length/\∀p k x,RH c p k H x->RH c p k H' x
def ke(code:FS)(vs:List V)(res:V)(Hx Hy:Hp):Bool:=bb (zQ 0 vs) (bb (Nat.beq Hy.length Hx.length) (code (.ref 0::vs) ⟨[],Hx⟩ λv Y=>bb (Gp (Tm Hx.length) i8 Hy Y.H) (cV (Tm 0) v res)))
def GM{j:Nat}{o:AO}(h:H[j]? =some o):bW j o H=H:=by rw[dj];exact tC h
def GY(hI:∀x∈p.I,x∈q.I){l:List V}(h:zQ 0 l=true):∀{us},bG c p l us->bG c q l us:=by
 induction l with
 | nil=>intro us r;rw[r.inv];exact .nil
 | cons v l ih=>intro us r;refine eC r.inv λu Za e r1 r2=>?_;rw[e];exact .cons (r1.cls hI (al.mp h).1) (ih (al.mp h).2 r2)
def Vu{f code bj ES}(O:Lz c bj ES)(hc:ah aq c n f code){a:Act c}{A:Around}{m Y s v vs us}{R:Result->Shared->Prop}{i i' Hx Hy res}(hr:jz A n)(hA:A.frames=some a.fl)(S:aK a p m Y s)(p_:bG c p (v::vs) us)(hv:v.tag=11)(hj:Y.H[v.xn]? =some (.t_ i))
  (n1:jB (ES i)=true) (n2:jB (ES i')=true) (hx:l7 c (ES i) Hx) (hy:l7 c Hy (ES i')) (run:ke code vs res Hx Hy=true)
  (hR:∀q u s',Le p q->aK a q m ⟨Y.pc,bW v.xn (.t_ i') Y.H⟩ s'->RV c q res u->R (.ok (.ret u)) s'):codeAny (Mo c) A (.call (.ref f) ⟨us,[]⟩) R s:=by
 refine ag run λhok run=>ag run λhl run=>?_
 refine S.el λg own tn F N nd rh len le cv pc ge os=>?_
 refine rh.split hj λpre x post e P=>?_
 have P1:=P.1
 rw[eM] at P1
 refine Gs ((O.π i _ _ _ _).mp P1) λ Zw p₀ h1 h2 h3 h4=>?_
 let CH:Pt:=⟨Zw,p.I,p.τ⟩
 have hX:RH c CH 0 Hx x:=hx.2 _ _ _ (O.inn n1 (h4 p.τ))
 have pm:(x++((pre++(post++a.X))++p.I)).Perm (own++(a.X++p.I)):=by
  rw[e]
  simp only [gK]
  exact sZ ..
 refine eC p_.inv λu0 Za eu r1 r2=>?_
 have r0:RV c CH (.ref 0) u0:=by
  rw[V.is (show Nat.beq v.tag 11=true by rw[hv];rfl)] at r1
  refine iR ((show RV c p (.ref v.xn) u0 from r1).inv) λad d e h=>?_
  rw[h1] at h
  obtain rfl:=oI h
  rw[e];exact .ref h2
 refine hc {a with X:=pre++(post++a.X),cv:=[],p₀:=CH} A CH m ⟨[],Hx⟩ s (.ref 0::vs) us _ R hr hA run ⟨⟨g,x,tn,F,News.perm N pm,aY nd pm,hX,h3.trans hx.1.symm⟩,Le.refl _,(λx v h=>nomatch h),ae,ge,os⟩ ?_ (λq u w bn s' l aC hu hk=>?_) λq Y s' j e _ _ _ _ h=>nomatch h
 ·rw[eu]
  exact .cons r0 (GY (p:=p) (q:=CH) (λ_ h=>h) hok r2)
 ·refine ag hk λk1 k2=>?_
  obtain⟨g',j_,tn',F',N',nd',rh',Zl⟩:=aC.st
  have hlx:Hy.length=Hx.length:=cf hl
  let Y9:Ro:=q.ρ.take Hx.length
  have Zc:∀k,k < Hx.length->Y9[k]? =q.ρ[k]?:=λk hk=>by show(q.ρ.take Hx.length)[k]? =_;rw[List.getElem?_take,if_pos hk]
  have lr:Le p ⟨p.ρ,q.I,p.τ⟩:=⟨iM.refl _,l.I,rfl⟩
  refine iR (E0 (p:=q) aV Hy k1 rh') λAU Fx Vz cl=>?_
  have nA:gD bj (ES i') p.ρ q.I v.xn AU:=⟨Y9,p₀,h1,(Zc 0 (by rw[<-hx.1,<-h3] at *;exact(oD h2).1)).trans (l.ρ.get h2),by
   show(q.ρ.take Hx.length).length=_
   rw[List.length_take,hy.1,hlx]
   have:Zw.length<=q.ρ.length:=l.ρ.elim λt e=>by rw[e];exact(nE▸j2 _ _)
   exact Nat.min_eq_left (by rw[hx.1,<-h3];exact this),λ τ=>O.out n2 (hy.2 _ _ _ (cl ⟨Y9,q.I,τ⟩ (vk Zc λ_ h=>h) λj _ h=>Zc j (by omega)))⟩
  have P2:=P.2 ⟨p.ρ,q.I,p.τ⟩ lr (.t_ i') AU (by rw[eM];exact(O.π i' _ _ _ _).mpr nA)
  have tQ:(Fx++((pre++(AU++post))++(a.X++q.I))).Perm (j_++((pre++(post++a.X))++q.I)):=by
   rw[Vz]
   have h6:(Fx++((pre++(AU++post))++(a.X++q.I))).Perm (Fx++(AU++((pre++(post++a.X))++q.I))):=by
    refine mC Fx ?_
    simp only [gK]
    exact sZ ..
   refine h6.trans ?_
   rw[gK AU Fx]
   exact sZ ..
  have xq:=News.perm N' tQ
  have io:=aY nd' tQ
  exact hR ⟨p.ρ,q.I,p.τ⟩ u s' lr ⟨⟨g',_,tn',F',λx hx=>xq x (j0 _ hx),by rw[sX] at io;exact(zo.mp io).2.1,by rw[dj];exact P2,by rw[dj,List.length_set];exact len⟩,le.trans lr,eh lr cv,pc,aC.ge,aC.os⟩ (iH (vk (p:=q) (q:=⟨p.ρ,q.I,p.τ⟩) (λk h=>absurd h (Nat.not_lt_zero k)) λ_ h=>h) k2 hu)
structure mc where
 args:List V
 res:V
 to:Option (Nat×Nat)
def T0(p:mc)(i:Nat):Nat:=Option.rec i (·.2) p.to
def Em(p:mc)(i:Nat):Bool:=Option.rec true (λt=>Nat.beq t.1 i) p.to
def Sp(i:Nat)(vs:List V)(l:List mc):Option mc:=mq (λp=>bb (jF vs p.args) (Em p i)) l
def mI(okv:Nat->Bool)(rows:List mc):FS:=λvs Y k=>bR vs λv rest=>bb (Nat.beq v.tag 11) (ob ((bh Y.H v.xn).bind eK) λi=>bb (okv i) (ob (Sp i rest rows) λp=>k p.res (Option.rec Y (λt=>⟨Y.pc,bW v.xn (.t_ t.2) Y.H⟩) p.to)))
def Gh(c:Cx)(n:Nat)(f:Addr)(okv:Nat->Bool)(ES:Nat->Hp)(p:mc):Prop:=
 ∀i,okv i=true->Em p i=true->∃code vs r Hx Hy,ah aq c n f code/\ax c.σ p.args vs/\ak c.σ r p.res/\l7 c (ES i) Hx/\l7 c Hy (ES (T0 p i))/\ke code vs r Hx Hy=true
def on{f:Addr}{bj:Cx}{ES:Nat->Hp}(O:Lz c bj ES){okv:Nat->Bool}{rows:List mc}(hn:∀i,jB (ES i)=true)(ac3:∀p∈rows,Gh c n f okv ES p):ah kx c n f (mI okv rows):=λa A p m Y s vs us k R hr hA h S p_ hR _=>by
 refine aZ h λv rest e h=>ag h λhv h=>ay h λi hi h=>ag h λok h=>ay h λrow hf h=>cD hf λmm he=>ag he λhe ZF=>?_
 refine aH (cU hi) λo ho hi=>?_
 have hj:=eQ ho
 rw[gY hi] at hj
 obtain⟨code,Zp,r,Hx,Hy,hc,h1,h2,hx,hy,run⟩:=ac3 row mm i ok ZF
 rw[e,i9 _ he] at p_
 refine Vu O hc hr hA S (ax.cons (ak.refl v) h1 rfl p_) (cf hv) hj (hn i) (hn _) hx hy run λq u s' l S' hu=>?_
 refine hR q u row.res _ s' l ?_ (h2 rfl hu) h
 unfold T0 at S'
 rcases e2:row.to with _|t
 ·rw[e2] at S';rw[show bW v.xn (.t_ i) Y.H=Y.H from GM hj] at S';exact S'
 ·rw[e2] at S';exact S'
end
section
def cc(s:String):Nat:=code (Str.ofString s)
def Sq(s:Stmt):Bl:=⟨(Hd.C_ s).args,Hd.bodyOf s,(Hd.n_ s).names⟩
inductive NT(α:Type) where
 | nil
 | node (l:NT α) (k:Nat) (v:α) (r:NT α)
def NT.get{α:Type}:NT α->Nat->Option α
 | .nil,_=>none
 | .node l k v r,i=>match Nat.beq i k with
  | true=>some v
  | false=>match Nat.ble i k with
   | true=>l.get i
   | false=>r.get i
def tX:List Nat->Nat->Bool
 | [],_=>false
 | a::r,x=>match Nat.beq a x with
  | true=>true
  | false=>tX r x
def Df:List String->Nat->Bool
 | [],_=>false
 | a::r,x=>match Nat.beq (cc a) x with
  | true=>true
  | false=>Df r x
open Hd (st mt)
def IR:NT Stmt:=(.node (.node (.node (.node (.node (.node (.node (.node .nil 35 (mt 6 0) .nil) 105 (mt 45 0) .nil) 112 (mt 45 1) (.node .nil 119 (mt 45 2) .nil)) 133 (st 46) (.node (.node (.node .nil 140 (st 47) .nil) 147 (st 48) .nil) 154 (st 49) (.node .nil 161 (st 50) .nil))) 168 (st 51) (.node (.node (.node (.node .nil 175 (st 52) .nil) 182 (st 53) .nil) 189 (st 54) (.node .nil 196 (st 55) .nil)) 203 (st 56) (.node (.node .nil 210 (st 57) .nil) 217 (st 58) (.node .nil 224 (st 59) .nil)))) 231 (st 60) (.node (.node (.node (.node (.node .nil 238 (st 61) .nil) 245 (st 62) .nil) 252 (st 63) (.node .nil 259 (st 64) .nil)) 266 (st 65) (.node (.node .nil 280 (st 67) .nil) 294 (mt 75 0) (.node .nil 315 (mt 76 0) .nil))) 329 (st 77) (.node (.node (.node (.node .nil 343 (mt 79 0) .nil) 350 (mt 79 1) .nil) 385 (mt 84 0) (.node .nil 406 (mt 85 0) .nil)) 427 (mt 90 0) (.node (.node .nil 447 (mt 91 0) .nil) 467 (mt 92 0) (.node .nil 488 (mt 93 0) .nil))))) 516 (mt 94 0) (.node (.node (.node (.node (.node (.node .nil 537 (mt 95 0) .nil) 579 (mt 97 0) .nil) 621 (mt 99 0) (.node .nil 628 (mt 99 1) .nil)) 656 (mt 100 1) (.node (.node .nil 719 (st 101) .nil) 726 (st 102) (.node .nil 733 (st 103) .nil))) 740 (st 104) (.node (.node (.node (.node .nil 747 (st 105) .nil) 754 (st 106) .nil) 761 (st 107) (.node .nil 768 (st 108) .nil)) 775 (st 109) (.node (.node .nil 782 (st 110) .nil) 789 (st 111) (.node .nil 796 (st 112) .nil)))) 803 (st 113) (.node (.node (.node (.node (.node .nil 810 (st 114) .nil) 817 (st 115) .nil) 824 (st 116) (.node .nil 831 (st 117) .nil)) 838 (st 118) (.node (.node .nil 845 (st 119) .nil) 852 (st 120) (.node .nil 859 (st 121) .nil))) 866 (st 122) (.node (.node (.node (.node .nil 874 (st 130) .nil) 881 (st 131) .nil) 895 (mt 134 0) (.node .nil 916 (mt 135 0) .nil)) 923 (mt 135 1) (.node (.node .nil 937 (mt 135 3) .nil) 944 (mt 135 4) (.node .nil 951 (mt 135 5) .nil)))))) 972 (mt 135 8) (.node (.node (.node (.node (.node (.node (.node .nil 984 (st 136) .nil) 991 (st 137) .nil) 998 (st 138) (.node .nil 1005 (st 139) (.node .nil 1010 (st 140) .nil))) 1017 (st 141) (.node (.node (.node .nil 1024 (st 142) .nil) 1031 (st 143) .nil) 1038 (st 146) (.node .nil 1045 (st 147) .nil))) 1052 (st 148) (.node (.node (.node (.node .nil 1066 (mt 150 0) .nil) 1078 (st 151) .nil) 1092 (mt 152 0) (.node .nil 1104 (st 157) .nil)) 1118 (mt 158 0) (.node (.node .nil 1139 (mt 159 0) .nil) 1153 (st 160) (.node .nil 1167 (mt 162 0) .nil)))) 1189 (mt 169 0) (.node (.node (.node (.node (.node .nil 1266 (mt 172 0) .nil) 1294 (mt 173 0) .nil) 1320 (mt 174 0) (.node .nil 1327 (mt 174 1) .nil)) 1341 (mt 174 3) (.node (.node .nil 1369 (mt 174 7) .nil) 1376 (mt 174 8) (.node .nil 1383 (mt 174 9) .nil))) 1397 (mt 174 11) (.node (.node (.node (.node .nil 1404 (mt 174 12) .nil) 1411 (mt 174 13) .nil) 1418 (mt 174 14) (.node .nil 1439 (st 175) .nil)) 1446 (st 176) (.node (.node .nil 1453 (st 177) .nil) 1460 (st 178) (.node .nil 1467 (st 179) .nil))))) 1481 (st 181) (.node (.node (.node (.node (.node (.node .nil 1488 (st 182) .nil) 1495 (st 183) .nil) 1502 (st 188) (.node .nil 1509 (st 189) .nil)) 1523 (mt 190 0) (.node (.node .nil 1542 (mt 191 0) .nil) 1554 (st 192) (.node .nil 1568 (mt 194 0) .nil))) 1598 (st 200) (.node (.node (.node (.node .nil 1605 (st 201) .nil) 1612 (st 202) .nil) 1619 (st 203) (.node .nil 1626 (st 204) .nil)) 1633 (st 205) (.node (.node .nil 1640 (st 206) .nil) 1647 (st 207) (.node .nil 1654 (st 208) .nil)))) 1661 (st 209) (.node (.node (.node (.node (.node .nil 1668 (st 210) .nil) 1675 (st 211) .nil) 1682 (st 212) (.node .nil 1689 (st 213) .nil)) 1696 (st 214) (.node (.node .nil 1703 (st 215) .nil) 1710 (st 216) (.node .nil 1717 (st 217) .nil))) 1724 (st 218) (.node (.node (.node (.node .nil 1731 (st 219) .nil) 1738 (st 220) .nil) 1745 (st 221) (.node .nil 1752 (st 222) .nil)) 1759 (st 223) (.node (.node .nil 1766 (st 224) .nil) 1773 (st 225) (.node .nil 1780 (st 226) .nil)))))))
def src(f:Addr):Option Bl:=(IR.get f).map Sq
noncomputable def R9:List (String×V):=[("LF_NOTYPE",.int 1),
 ("LF_ENUM",.int 12),
 ("W_SLOT",.int 1),
 ("W_EMPTY",.int 2),
 ("BadKind",.glob 51),
 ("LoadFault",.glob 63),
 ("RunBound",.glob 75),
 ("LeftOut",.glob 87),
 ("VOID",.int 0),
 ("BOOL",.int 1),
 ("U4",.int 8),
 ("I8",.int 9),
 ("U8",.int 10),
 ("NINT",.int 11),
 ("OBJECT",.int 12),
 ("STRING",.int 13),
 ("NULLK",.int 14),
 ("PRIM_END",.int 16),
 ("R_PRIM",.int 1),
 ("R_CLASS",.int 2),
 ("R_VALUE",.int 3),
 ("R_ARRAY",.int 4),
 ("R_BYREF",.int 5),
 ("R_VAR",.int 6),
 ("R_MVAR",.int 7),
 ("R_BOXED",.int 8),
 ("R_ROREF",.int 9),
 ("R_FTN",.int 10),
 ("R_RAW",.int 11),
 ("DEEPEST_KIND",.int 24),
 ("HEAVIEST_KIND",.int 4096),
 ("PRIM_TID",.Y8 [(0,.int 20),(1,.int 9),(2,.int 10),(3,.int 11),(4,.int 12),(5,.int 13),(6,.int 14),(7,.int 15),(8,.int 16),(9,.int 17),(10,.int 18),(11,.int 19),(12,.int 1),(13,.int 4)]),
 ("TID_PRIM",.Y8 [(20,.int 0),(9,.int 1),(10,.int 2),(11,.int 3),(12,.int 4),(13,.int 5),(14,.int 6),(15,.int 7),(16,.int 8),(17,.int 9),(18,.int 10),(19,.int 11),(1,.int 12),(4,.int 13)]),
 ("ARRAY_TID",.int 5),
 ("NULLABLE_TID",.int 8),
 ("KindTable",.glob 122),
 ("inner_kinds",.glob 133),
 ("row_level",.glob 140),
 ("row_length",.glob 147),
 ("check_kind_row",.glob 154),
 ("check_named",.glob 161),
 ("check_args",.glob 168),
 ("may_stand",.glob 175),
 ("class_kind",.glob 182),
 ("prim_kind",.glob 189),
 ("kind_sort",.glob 196),
 ("elem_of",.glob 203),
 ("tid_of",.glob 210),
 ("args_of",.glob 217),
 ("is_value",.glob 224),
 ("is_var",.glob 231),
 ("close",.glob 238),
 ("close_in",.glob 245),
 ("with_inner",.glob 252),
 ("box_of",.glob 259),
 ("pick_arg",.glob 266),
 ("is_int",.glob 280),
 ("S_STRUCT",.int 2),
 ("S_ENUM",.int 5),
 ("VA_NONE",.int 0),
 ("T_NULLABLE",.int 8),
 ("T_NULLREF",.int 21),
 ("T_CAST",.int 23),
 ("TypeDef",.glob 297),
 ("Store",.glob 318),
 ("type_of",.glob 329),
 ("Diags",.glob 367),
 ("X_IS",.int 20),
 ("X_AS",.int 21),
 ("S_BLOCK",.int 3),
 ("Var",.glob 388),
 ("Unit",.glob 409),
 ("X_HELD",.int 90),
 ("MOST_NESTED",.int 870),
 ("SAY_NULL",.str "Object reference not set to an instance of an object."),
 ("Thrown",.glob 430),
 ("Unheld",.glob 450),
 ("Item",.glob 470),
 ("Special",.glob 498),
 ("Act",.glob 519),
 ("Guard",.glob 540),
 ("Splits",.glob 582),
 ("Begins",.glob 603),
 ("Calls",.glob 631),
 ("count_step",.glob 719),
 ("go_deeper",.glob 726),
 ("next_number",.glob 733),
 ("eval_expr",.glob 740),
 ("kind_in",.glob 747),
 ("layout_in",.glob 754),
 ("is_question",.glob 761),
 ("new_item",.glob 768),
 ("new_words",.glob 775),
 ("block_number",.glob 782),
 ("block_lids",.glob 789),
 ("begin_block",.glob 796),
 ("lay_cells",.glob 803),
 ("cell_of",.glob 810),
 ("throw_new",.glob 817),
 ("throw_nothing",.glob 824),
 ("throw_item",.glob 831),
 ("row_taking",.glob 838),
 ("when_says",.glob 845),
 ("push_guard",.glob 852),
 ("drop_guards",.glob 859),
 ("item_is",.glob 866),
 ("V_I4",.int 1),
 ("V_I8",.int 2),
 ("V_NINT",.int 3),
 ("V_REF",.int 4),
 ("V_TEXT",.int 8),
 ("NULLV",.tup [.int 4,.int 0]),
 ("plain_kind",.glob 874),
 ("plain_default",.glob 881),
 ("CF_MESSAGE",.int 1),
 ("Shape",.glob 898),
 ("Bed",.glob 975),
 ("kept_layout",.glob 984),
 ("is_struct",.glob 991),
 ("is_composed",.glob 998),
 ("default_of",.glob 1005),
 ("default_parts",.glob 1010),
 ("defaults_of",.glob 1017),
 ("new_instance",.glob 1024),
 ("error_item",.glob 1031),
 ("SAY_CAST",.str "Specified cast is not valid."),
 ("box_value",.glob 1038),
 ("unbox_value",.glob 1045),
 ("from_reference",.glob 1052),
 ("EvIs",.glob 1069),
 ("take_variable",.glob 1078),
 ("EvAs",.glob 1095),
 ("FIRST_ADDRESS",.int 16),
 ("HEAD_WORDS",.int 2),
 ("LEAST_SIZE",.int 3),
 ("words_for",.glob 1104),
 ("Thing",.glob 1121),
 ("Heap",.glob 1142),
 ("heap_alloc",.glob 1153),
 ("PlaceHost",.glob 1170),
 ("JP_FALL",.int (-1)),
 ("JP_STAY",.int (-2)),
 ("ST_RUN",.int 0),
 ("ST_WRONG",.int 3),
 ("LOST",.tup [.int 0,.int 0]),
 ("Frame",.glob 1192),
 ("Starter",.glob 1248),
 ("KindCloser",.glob 1276),
 ("FrameCloser",.glob 1304),
 ("Tray",.glob 1428),
 ("note_thrown",.glob 1439),
 ("told_row",.glob 1446),
 ("told_default",.glob 1453),
 ("targs_of",.glob 1460),
 ("closed_kind",.glob 1467),
 ("tell_wrong",.glob 1481),
 ("pop_value",.glob 1488),
 ("first_slots",.glob 1495),
 ("OP_CASTCLASS",.int 116),
 ("OP_ISINST",.int 117),
 ("TEXT_CAST",.str "Specified cast is not valid."),
 ("is_of",.glob 1502),
 ("cast_top",.glob 1509),
 ("OpCast",.glob 1526),
 ("OpIsInstance",.glob 1545),
 ("install_m_casts",.glob 1554),
 ("EvHeld",.glob 1571),
 ("_law_NAMES",.tup [.str "i4",.str "e",.str "u4",.str "f",.str "s",.str "g",.str "h",.str "?i4",.str "?e",.str "?s",.str "?u1",.str "?h",.str "o",.str "a",.str "b",.str "i",.str "v",.str "t",.str "a[]",.str "b[]",.str "o[]",.str "i4[]",.str "u4[]",.str "u1",.str "bool"]),
 ("_law_PAIRS",.tup [.tup [.str "b",.str "a",.int 1],.tup [.str "b",.str "i",.int 1],.tup [.str "a",.str "i",.int 0],.tup [.str "s",.str "i",.int 1],.tup [.str "s",.str "v",.int 1],.tup [.str "e",.str "v",.int 1],.tup [.str "i4",.str "v",.int 1],.tup [.str "i4[]",.str "u4[]",.int 1],.tup [.str "u4[]",.str "i4[]",.int 0],.tup [.str "b[]",.str "a[]",.int 1],.tup [.str "a[]",.str "o[]",.int 1],.tup [.str "b[]",.str "o[]",.int 0],.tup [.str "t",.str "i",.int 0],.tup [.str "h",.str "v",.int 0]]),
 ("_law_EDGES",.tup [.int 0,.int 1,.int (-1),.int 7,.int 127,.int 128,.int 255,.int 256,.int 32767,.int 65535,.int 2147483647,.int 2147483648,.int 4294967295,.int 300,.int (-300),.int (-2147483648)]),
 ("_law_FIRST",.tup [.int 0,.int 0,.int 2,.int 10,.int 1,.int 4,.int 10,.int 1,.int 5,.int 3,.int 2,.int 4,.int 7,.int 31]),
 ("_law_any",.glob 1598),
 ("_law_refers",.glob 1605),
 ("_law_plain",.glob 1612),
 ("_law_value",.glob 1619),
 ("_law_none",.glob 1626),
 ("_law_source",.glob 1633),
 ("_law_tagged",.glob 1640),
 ("_law_goes",.glob 1647),
 ("_law_from",.glob 1654),
 ("_law_boxed",.glob 1661),
 ("_law_written",.glob 1668),
 ("_law_asked",.glob 1675),
 ("_law_op",.glob 1682),
 ("_law_held",.glob 1689),
 ("_law_is",.glob 1696),
 ("_law_as",.glob 1703),
 ("_law_tried",.glob 1710),
 ("_law_cast",.glob 1717),
 ("_law_reference",.glob 1724),
 ("_law_aim",.glob 1731),
 ("_law_deed",.glob 1738),
 ("_law_kinds",.glob 1745),
 ("_law_types",.glob 1752),
 ("_law_kin",.glob 1759),
 ("_law_world",.glob 1766),
 ("_law_settled",.glob 1773),
 ("len",.bi "len"),
 ("range",.ty "range"),
 ("tuple",.ty "tuple")]
def Sa:List (String×V)->List (Nat×V)
 | []=>[]
 | p::r=>(cc p.1,p.2)::Sa r
noncomputable def zb:NT (List String):=(.node (.node (.node (.node (.node .nil 122 ["rows","index","depths","weights","opens"] .nil) 297 ["tid","name","sort","flags","base","ifaces","params","variances","bounds","fields","methods","asm","cctor","under","impls","props","events","finaliser","home"] (.node .nil 318 ["kt","types","fields_","methods","names","asms","entry"] .nil)) 367 ["rows"] (.node (.node .nil 388 ["lid","name","kind","flags","owner","arg","block"] .nil) 409 ["store","asm","fns","vars","of_mid","diags","inits","sinits","consts"] (.node .nil 470 ["number","kind","slots","text","rows","version","special"] .nil))) 498 ["kinds"] (.node (.node (.node .nil 519 ["number","fn","lids","this","targs","margs","caught","holes","held","entered"] .nil) 540 ["number","rows","act"] (.node .nil 582 [] .nil)) 603 [] (.node (.node .nil 631 ["rows"] .nil) 898 ["kinds","slots","statics","skinds","fids"] .nil))) 975 ["unit","store","kt","host","things","statics","inits","fails","out","steps","most","depth","nested","guards","serial","texts","typed","layouts","kin","queue","calls","exprs","places","targets","stmts","core","starts","cuts","cut_bodies","splits","begins","blocks","defaults","uses"] (.node (.node (.node (.node .nil 1069 [] .nil) 1095 [] (.node .nil 1121 ["addr","kind","slots","gen","size","serial"] .nil)) 1142 ["things","at","top","limit","cards","card_bits","fresh","young_limit","finals","ready","moved","made"] (.node (.node .nil 1170 ["heap","frames","statics"] .nil) 1192 ["number","mref","body","ip","args","locals_","stack","conts","caught","caughtv","keep","sort","home","extra","prefix"] .nil)) 1248 [] (.node (.node (.node .nil 1276 [] .nil) 1304 [] (.node .nil 1428 ["store","kt","heap","kin","rows","targets","defaults","unders","frames","by_number","statics","inits","ops","state","told","thrown","calls","held","places","starter","closer"] .nil)) 1526 [] (.node (.node .nil 1545 [] .nil) 1571 [] .nil))))
noncomputable def HN:NT (List (String×Addr)):=(.node (.node (.node (.node (.node .nil 122 [("put",119),("row",112)] .nil) 297 [] (.node .nil 318 [] .nil)) 367 [("put",350)] (.node (.node .nil 388 [] .nil) 409 [] (.node .nil 470 [] .nil))) 498 [] (.node (.node (.node .nil 519 [] .nil) 540 [] (.node .nil 582 [("ready",579)] .nil)) 603 [] (.node (.node .nil 631 [("goal",628)] .nil) 898 [] .nil))) 975 [("asked",944),("closed",923),("error",951),("first",937),("is_a",656),("layout",972)] (.node (.node (.node (.node .nil 1069 [("run",1066)] .nil) 1095 [("run",1092)] (.node .nil 1121 [] .nil)) 1142 [] (.node (.node .nil 1170 [] .nil) 1192 [] .nil)) 1248 [] (.node (.node (.node .nil 1276 [("kind",1266)] .nil) 1304 [("kind",1294)] (.node .nil 1428 [("alloc",1397),("closed",1383),("default",1369),("is_a",1327),("kinds_of",1341),("plain",1376),("pop",1411),("throw_new",1418),("wrong",1404)] .nil)) 1526 [("run",1523)] (.node (.node .nil 1545 [("run",1542)] .nil) 1571 [("run",1568)] .nil))))
noncomputable def D1:NT Addr:=(.node (.node (.node (.node (.node .nil 122 105 .nil) 297 294 .nil) 318 315 (.node .nil 367 343 .nil)) 388 385 (.node (.node (.node .nil 409 406 .nil) 470 467 .nil) 498 488 (.node .nil 519 516 .nil))) 540 537 (.node (.node (.node (.node .nil 631 621 .nil) 898 895 .nil) 975 916 (.node .nil 1121 1118 .nil)) 1142 1139 (.node (.node .nil 1170 1167 .nil) 1192 1189 (.node .nil 1428 1320 .nil))))
def Zm:List Nat:=[582,603,1069,1095,1248,1276,1304,1526,1545,1571]
def FI(C:Addr)(x:Nat):Bool:=ob (zb.get C) λl=>Df l x
def TN(x:Nat):List (String×Addr)->Option Addr
 | []=>none
 | (c,f)::r=>match Nat.beq (cc c) x with
  | true=>some f
  | false=>TN x r
def Q2(C:Addr)(x:Nat):Option Addr:=(HN.get C).bind λl=>TN x l
def VA(C:Addr):Option Addr:=Bool.rec .none (some 35) (Nat.beq C 87)
def Ug(C:Addr)(x:Nat):Bool:=bb (Nat.beq C 87) (Df ["code","at"] x)
def cfg(ft:FT):gx:=⟨Sa R9,FI,FI,Q2,D1.get,tX Zm,VA,Ug,ft,λ_ _=>false,λ_ _=>.none⟩
noncomputable def wo:List Nat:=[3,34,35,37,38,50,51,62,63,74,75,86,87,90,91,104,105,111,112,118,119,121,122,132,133,139,140,146,147,153,154,160,161,167,168,174,175,181,182,188,189,195,196,202,203,209,210,216,217,223,224,230,231,237,238,244,245,251,252,258,259,265,266,279,280,293,294,296,297,314,315,317,318,328,329,342,343,349,350,366,367,384,385,387,388,405,406,408,409,426,427,429,430,446,447,449,450,466,467,469,470,487,488,497,498,515,516,518,519,536,537,539,540,560,561,578,579,581,582,602,603,620,621,627,628,630,631,655,656,707,708,718,719,725,726,732,733,739,740,746,747,753,754,760,761,767,768,774,775,781,782,788,789,795,796,802,803,809,810,816,817,823,824,830,831,837,838,844,845,851,852,858,859,865,866,867,873,874,880,881,894,895,897,898,915,916,922,923,936,937,943,944,950,951,971,972,974,975,983,984,990,991,997,998,1004,1005,1009,1010,1016,1017,1023,1024,1030,1031,1037,1038,1044,1045,1051,1052,1065,1066,1068,1069,1077,1078,1091,1092,1094,1095,1103,1104,1117,1118,1120,1121,1138,1139,1141,1142,1152,1153,1166,1167,1169,1170,1175,1188,1189,1191,1192,1212,1213,1247,1248,1265,1266,1275,1276,1293,1294,1303,1304,1319,1320,1326,1327,1340,1341,1368,1369,1375,1376,1382,1383,1396,1397,1403,1404,1410,1411,1417,1418,1427,1428,1438,1439,1445,1446,1452,1453,1459,1460,1466,1467,1480,1481,1487,1488,1494,1495,1501,1502,1508,1509,1522,1523,1525,1526,1541,1542,1544,1545,1553,1554,1567,1568,1570,1571,1574,1575,1576,1577,1578,1579,1580,1581,1582,1583,1584,1585,1586,1587,1588,1589,1590,1591,1597,1598,1604,1605,1611,1612,1618,1619,1625,1626,1632,1633,1639,1640,1646,1647,1653,1654,1660,1661,1667,1668,1674,1675,1681,1682,1688,1689,1695,1696,1702,1703,1709,1710,1716,1717,1723,1724,1730,1731,1737,1738,1744,1745,1751,1752,1758,1759,1765,1766,1772,1773,1779,1780]
variable{c:Cx}{p q:Pt}
def Qo(t:BT)(l:List Nat):Frag:=List.rec [] (λa _ g=>Option.rec g (λo=>(a,o)::g) (t.get a)) l
def Kf(P:Params):Frag:=Qo (Hd.YP P) wo
def tD(t:BT)(l:List Nat):Bool:=List.rec true (λa _ g=>bb (Nat.blt a 1781) (bb (Option.rec true (λo=>o.isFreed.not) (t.get a)) g)) l
def kB{b:Bool}(h:b.not=true):b=false:=by
 rcases b with _|_
 ·rfl
 ·exact bT h
def L9{t:BT}{h:Heap}(hh:∀a o,a < 1781->t.get a=some o->o.isFreed=false->h.get? a=some o)(l:List Nat):tD t l=true->(Qo t l).In h:=by
 induction l with
 | nil=>exact λ_ a o e=>by exact oN e
 | cons b r ih=>
  intro e
  refine ag e λh1 e=>ag e λh2 e=>?_
  have hb:=fu h1
  intro a o' h'
  have h':List.lookup a (Option.rec (Qo t r) (λo=>(b,o)::Qo t r) (t.get b):Frag)=some o':=h'
  rcases ho:t.get b with _|o
  ·rw[ho] at h';exact ih e a o' h'
  ·rw[ho] at h' h2
   have h':List.lookup a ((b,o)::Qo t r)=some o':=h'
   have h2:o.isFreed.not=true:=h2
   rw[vy] at h'
   rcases q:a == b with _|_
   ·rw[q] at h';exact ih e a o' h'
   ·rw[q] at h';obtain rfl:=Eq.symm (oI h');rw[cS.mp q];exact hh b _ hb ho (kB h2)
def NT.map{α β:Type}(f:Nat->α->β)(t:NT α):NT β:=NT.rec .nil (λ_ k v _ gl gr=>.node gl k (f k v) gr) t
def NT.all{α:Type}(f:Nat->α->Bool)(t:NT α):Bool:=NT.rec true (λ_ k v _ gl gr=>bb gl (bb (f k v) gr)) t
def NT.get_node{α:Type}{l r:NT α}{k i:Nat}{x:α}:NT.get (.node l k x r) i=Bool.rec (Bool.rec (r.get i) (l.get i) (Nat.ble i k)) (some x) (Nat.beq i k):=by
 show(match Nat.beq i k with|true=>some x|false=>match Nat.ble i k with|true=>l.get i|false=>r.get i)=_
 rcases Nat.beq i k with _|_
 ·rcases Nat.ble i k with _|_
  ·rfl
  ·rfl
 ·rfl
def NT.YN{α:Type}{f:Nat->α->Bool}(t:NT α){i:Nat}{v:α}:t.all f=true->t.get i=some v->f i v=true:=by
 induction t with
 | nil=>exact λ_ h=>nomatch h
 | node l k x r ihl ihr=>
  intro e h
  refine ag e λe1 e=>ag e λe2 e3=>?_
  rw[NT.get_node] at h
  refine bp h (λq h=>?_) λ_ h=>bp h (λ_ h=>ihl e1 h) λ_ h=>ihr e3 h
  obtain rfl:=Eq.symm (oI h);rw[cf q];exact e2
def NT.get_map{α β:Type}{f g:Nat->α->β}(t:NT α){i:Nat}{v:α}:t.map f=t.map g->t.get i=some v->f i v=g i v:=by
 induction t with
 | nil=>exact λ_ h=>nomatch h
 | node l k x r ihl ihr=>
  intro e h
  have e:NT.node (l.map f) k (f k x) (r.map f)=NT.node (l.map g) k (g k x) (r.map g):=e
  injection e with e1 _ e2 e3
  rw[NT.get_node] at h
  refine bp h (λq h=>?_) λ_ h=>bp h (λ_ h=>ihl e1 h) λ_ h=>ihr e3 h
  obtain rfl:=Eq.symm (oI h);rw[cf q];exact e2
def JI(d:Data):Option FuncData:=match d with
 | .func f=>some f
 | _=>none
def JH{d f}(h:JI d=some f):d=.func f:=by
 induction d using Data.casesOn with
 | func=>rw[oI h]
 | _=>exact oN h
abbrev Pk:=Arguments×FuncBody×Scope×Addr×List (Str×Addr)×Value×Value×Addr
noncomputable def pick(o:Option Obj):Option Pk:=o.bind λo=>(JI o.data).map λfd=>(fd.params,fd.body,fd.scope,fd.globals,fd.closure,fd.defaults,fd.kwdefaults,fd.builtins)
def LO(s:Stmt):Option Pk:=some (Hd.C_ s,.stmts (Hd.bodyOf s),Hd.n_ s,mainGlobals,[],.none,.none,builtinsNs)
def wP(K:Frag)(f:Addr):Bool:=ob (K.lookup f) λo=>ob (JI o.data) λfd=>codeIn K fd.code fd.qualname
def zd(names:List (Str×NameKind))(l:List Arg):Bool:=l.all λa=>ob (kd (code a.arg) names) λk=>bi (jD k) true (uu k)
def wd(l:List Nat):Bool:=List.rec true (λa r g=>bb (tX r a).not g) l
def Np(s:Scope):Bool:=s.kind == .function
def lV(a:Arguments):Bool:=match a with
 | ⟨[],_,none,[],[],none,[]⟩=>true
 | _=>false
def B5(s:Stmt):Bool:=bb (lV (Hd.C_ s)) (bb (Hd.n_ s).isCoroutine.not (bb (Hd.n_ s).isGenerator.not (bb (Np (Hd.n_ s)) (bb (wd ((cellsFrom 0 (Hd.n_ s).names []).map λx=>code x.1))
 (bb (wd ((Hd.C_ s).args.map λx=>code x.arg)) (zd (Hd.n_ s).names (Hd.C_ s).args))))))
def HQ{x:Nat}(l:List Nat):tX l x=false->x∉l:=by
 induction l with
 | nil=>exact λ_ h=>nomatch h
 | cons a r ih=>
  intro h
  have h:(match Nat.beq a x with|true=>true|false=>tX r x)=false:=h
  rcases q:Nat.beq a x with _|_
  ·rw[q] at h
   intro hm
   exact(dL.mp hm).elim (λe=>by rw[e,mz] at q;exact bF q) (ih h)
  ·rw[q] at h;exact bF h
def qd(l:List Nat):wd l=true->l.Nodup:=by
 induction l with
 | nil=>exact λ_=>List.nodup_nil
 | cons a r ih=>exact λh=>ag h λh1 h=>fH.mpr ⟨HQ _ (kB h1),ih h⟩
def xc{names:List (Str×NameKind)}{l:List Arg}(h:zd names l=true):∀x∈l.map (·.arg),names.lookup x=some .local\/names.lookup x=some .cell:=λx hx=>by
 refine aH (fw.mp hx) λa ha e=>?_
 have:=jt.mp h a ha
 refine ay this λk hk h=>?_
 rw[mj] at hk
 rw[<-e,hk]
 exact bH h (λh _=>.inl (bl some (gf h))) λ_ h=>.inr (bl some (ut h))
def ot{α:Type}(f:α->Str)(l:List α):(l.map λx=>code (f x)).Nodup->(l.map f).Nodup:=by
 intro h
 have:l.map (λx=>code (f x))=(l.map f).map code:=by rw[List.map_map];rfl
 rw[this] at h
 exact(List.pairwise_map.mp h).imp λh e=>h (bl code e)
def sI{a:Arguments}(h:lV a=true):a=⟨[],a.args,none,[],[],none,[]⟩:=by
 obtain⟨po,ar,va,ko,kd,kw,df⟩:=a
 induction po using lC with
 | cons=>exact bT h
 | nil=>induction va using oC with
  | some=>exact bT h
  | none=>induction ko using lC with
   | cons=>exact bT h
   | nil=>induction kd using lC with
    | cons=>exact bT h
    | nil=>induction kw using oC with
     | some=>exact bT h
     | none=>exact lC (P:=λl=>lV ⟨[],ar,none,[],[],none,l⟩=true->(⟨[],ar,none,[],[],none,l⟩:Arguments)=⟨[],ar,none,[],[],none,[]⟩) df (λ_=>rfl) (λ_ _ h=>bT h) h
def IS{K:Frag}{f:Addr}{s:Stmt}(h1:pick (K.lookup f)=LO s)(h2:wP K f=true)(h3:B5 s=true):∃name qual,A5 K f name qual (Hd.C_ s).args (Hd.bodyOf s) (Hd.n_ s)/\keepIn K (.ref f)=true:=by
 refine ag h3 λa1 h3=>ag h3 λa2 h3=>ag h3 λa3 h3=>ag h3 λa4 h3=>ag h3 λa5 h3=>ag h3 λa6 a7=>ay h2 λo ho h2=>ay h2 λfd hd h2=>?_
 have h1:some (fd.params,fd.body,fd.scope,fd.globals,fd.closure,fd.defaults,fd.kwdefaults,fd.builtins)=some (Hd.C_ s,.stmts (Hd.bodyOf s),Hd.n_ s,mainGlobals,[],.none,.none,builtinsNs):=by
  rw[ho] at h1
  have h1:(JI o.data).map _=_:=h1
  rwa [hd] at h1
 obtain⟨oc,od,data,osl⟩:=o
 have hd:data=_:=JH hd
 obtain⟨fn,fq,ai5,ai3,ag8,ai1,ai2,ai6,fkw,ah0,fpm,fan,ae8,fct,fbi⟩:=fd
 obtain⟨e1,e⟩:=fI (oI h1)
 obtain⟨e2,e⟩:=fI e
 obtain⟨e3,e⟩:=fI e
 obtain⟨e4,e⟩:=fI e
 obtain⟨e5,e⟩:=fI e
 obtain⟨e6,e⟩:=fI e
 obtain⟨e7,e8⟩:=fI e
 refine⟨fn,fq,⟨⟨oc,od,osl,ah0,fpm,fan,ae8,fct,?_,h2⟩,kB a2,kB a3,?_,ot _ _ (qd _ a6),xc a7,ot _ _ (qd _ a5)⟩,?_⟩
 ·rw[ho,hd,<-sI a1]
  dsimp only at e1 e2 e3 e4 e5 e6 e7 e8
  rw[e1,e2,e3,e4,e5,e6,e7,e8]
 ·exact cS.mp a4
 ·unfold keepIn
  dsimp only
  rw[ho,hd]
def Eo{K:Frag}(h1:IR.map (λf _=>pick (K.lookup f))=IR.map (λ_ s=>LO s))(h2:IR.all (λf s=>bb (wP K f) (B5 s))=true):vq K src:=by
 intro f e he
 refine aH (fp he) λs hs e=>?_
 subst e
 have q1:=NT.get_map _ h1 hs
 have q2:=NT.YN _ h2 hs
 refine iR (IS q1 (al.mp q2).1 (al.mp q2).2) λname qual h3 h4=>?_
 exact⟨name,qual,_,h3,rfl,h4⟩
def ny(K:Frag)(C:Addr)(x:Str):Bool:=bb (plainGet K C x) (bb (hasDictIn K C) (bb (ob (findIn K (.ref C) x) (noGet K)) (bb (findIn K (.ref C) "__setattr__" == some (some (.builtin "object.__setattr__"))) (bb (plainOver K C) (takerIn K C x == some none)))))
def w8{K:Frag}{C:Addr}{x:Str}(h:ny K C x=true):xz K C x/\F7 K C x:=ag h λh1 h=>ag h λh2 h=>ag h λh3 h=>ag h λh4 h=>ag h λh5 h6=>ay h3 λat_ e h3=>⟨⟨h1,h2,at_,e,h3⟩,⟨cS.mp h4,h5,cS.mp h6,h2⟩⟩
def yr{x:Nat}(l:List String):Df l x=true->∃s∈l,cc s=x:=by
 induction l with
 | nil=>exact nofun
 | cons a r ih=>
  intro h
  have h:(match Nat.beq (cc a) x with|true=>true|false=>Df r x)=true:=h
  rcases q:Nat.beq (cc a) x with _|_
  ·rw[q] at h;refine aH (ih h) λs hs e=>?_;exact⟨s,.tail _ hs,e⟩
  ·exact⟨a,.head _,cf q⟩
def ve{K:Frag}(h:zb.all (λC l=>l.all λs=>ny K C (Str.ofString s))=true){C:Addr}{x:Str}(e:FI C (code x)=true):xz K C x/\F7 K C x:=by
 refine ay e λl hl e=>?_
 refine aH (yr _ e) λs hs hc=>?_
 have:=jt.mp (NT.YN _ h hl) s hs
 rw[gi.mp hc] at this
 exact w8 this
def rf(K:Frag)(C:Addr)(x:Str)(f:Addr):Bool:=bb (plainGet K C x) (bb (findIn K (.ref C) x == some (some (.ref f))) (isFn K (.ref f)))
def Ng{g:String×Addr->Bool}{x:Nat}{f:Addr}(l:List (String×Addr)):l.all g=true->TN x l=some f->∃s,cc s=x/\g (s,f)=true:=by
 induction l with
 | nil=>exact λ_ h=>nomatch h
 | cons z r ih=>
  intro e h
  obtain⟨s,a⟩:=z
  rw[List.all_cons,s5] at e
  have h:(match Nat.beq (cc s) x with|true=>some a|false=>TN x r)=some f:=h
  rcases q:Nat.beq (cc s) x with _|_
  ·rw[q] at h;exact ih e.2 h
  ·rw[q] at h;obtain rfl:=Eq.symm (oI h);exact⟨s,cf q,e.1⟩
def Db{K:Frag}(h:HN.all (λC l=>l.all λz=>rf K C (Str.ofString z.1) z.2)=true){C:Addr}{x:Str}{f:Addr}(e:Q2 C (code x)=some f):sN K C x f:=by
 refine aH (cU e) λl hl e=>?_
 refine aH (Ng _ (NT.YN _ h hl) e) λs hs hc=>?_
 rw[gi.mp hs] at hc
 exact ag hc λh1 h=>ag h λh2 h3=>⟨h1,cS.mp h2,h3⟩
def rj(K:Frag)(C f:Addr):Bool:=bb (makesIn K C) (bb (findIn K (.ref C) "__init__" == some (some (.ref f))) (bb (isFn K (.ref f)) (keepIn K (.ref C))))
def Di{K:Frag}(h:D1.all (λC f=>rj K C f)=true){C f:Addr}(e:D1.get C=some f):xr K C f:=ag (NT.YN _ h e) λh1 h=>ag h λh2 h=>ag h λh3 h4=>⟨h1,cS.mp h2,h3,h4⟩
def oA(K:Frag)(C:Addr):Bool:=bb (makesIn K C) (bb (findIn K (.ref C) "__init__" == some (some (.builtin "object.__init__"))) (keepIn K (.ref C)))
def MS{x:Nat}(l:List Nat):tX l x=true->x∈l:=by
 induction l with
 | nil=>exact nofun
 | cons a r ih=>
  intro h
  have h:(match Nat.beq a x with|true=>true|false=>tX r x)=true:=h
  rcases q:Nat.beq a x with _|_
  ·rw[q] at h;exact .tail _ (ih h)
  ·rw[cf q];exact .head _
def zU{K:Frag}(h:Zm.all (oA K)=true){C:Addr}(e:tX Zm C=true):sO K C:=ag (jt.mp h C (MS _ e)) λh1 h=>ag h λh2 h3=>⟨h1,cS.mp h2,h3⟩
def C2(l:List (Int×V)):Bool:=List.rec true (λa r g=>bb (r.all λx=>(pN x.1 a.1).not) g) l
def zS(l:List (Int×V)):C2 l=true->(l.map (·.1)).Nodup:=by
 induction l with
 | nil=>exact λ_=>List.nodup_nil
 | cons a r ih=>
  refine λh=>ag h λh1 h=>fH.mpr ⟨λhm=>?_,ih h⟩
  refine aH (fw.mp hm) λx hx e=>?_
  have:=kB (jt.mp h1 x hx)
  rw[cw.mpr e] at this;exact bF this
def wt(u:Value):Option Int:=match u with
 | .int j _=>some j
 | _=>none
def B3(u:Value):Option Str:=match u with
 | .str x _=>some x
 | _=>none
def qU(u:Value):Option Addr:=match u with
 | .ref b=>some b
 | _=>none
def uz{u i}(h:wt u=some i):∃t,u=.int i t:=by induction u using Value.casesOn with
 | int j t=>obtain rfl:=Eq.symm (oI h);exact⟨t,rfl⟩
 | _=>exact oN h
def nY{u i}(h:qU u=some i):u=.ref i:=by induction u using Value.casesOn with
 | ref j=>obtain rfl:=Eq.symm (oI h);rfl
 | _=>exact oN h
def Kg(K:Frag)(u:Value):Option (List Value):=(qU u).bind λb=>(K.lookup b).bind λo=>match o with
 | ⟨.type n,none,.seq its _,sl⟩=>ij (n == "tuple") (ij (Nat.beq sl.size 0) (some its.toList))
 | _=>none
def Ex(K:Frag)(u:Value):Option (List DictEntry):=(qU u).bind λb=>(K.lookup b).bind λo=>match o with
 | ⟨.type n,none,.dict es _,sl⟩=>ij (n == "dict") (ij (Nat.beq sl.size 0) (ij (b == sysModules).not (some es.toList)))
 | _=>none
def BW{K:Frag}{u:Value}{its:List Value}(h:Kg K u=some its):∃b n,u=.ref b/\K.lookup b=some (lu its n):=by
 refine aH (cU h) λb hb h=>?_
 refine aH (cU h) λo ho h=>?_
 obtain⟨oc,od,da,sl⟩:=o
 induction oc using Value.casesOn with
 | type n=>induction od using oC with
  | some=>exact oN h
  | none=>induction da using Data.casesOn with
   | seq ai4 k=>
    refine be h λh1 h=>be h λh2 h=>⟨b,k,nY hb,?_⟩
    rw[ho,<-oI h,cS.mp h1,Array.eq_empty_of_size_eq_zero (cf h2)]
   | _=>exact oN h
 | _=>exact oN h
def Ao{K:Frag}{u:Value}{es:List DictEntry}(h:Ex K u=some es):∃b n,u=.ref b/\(b == sysModules)=false/\K.lookup b=some (dictOf es n):=by
 refine aH (cU h) λb hb h=>?_
 refine aH (cU h) λo ho h=>?_
 obtain⟨oc,od,da,sl⟩:=o
 induction oc using Value.casesOn with
 | type n=>induction od using oC with
  | some=>exact oN h
  | none=>induction da using Data.casesOn with
   | dict Zk k=>
    refine be h λh1 h=>be h λh2 h=>be h λh3 h=>⟨b,k,nY hb,kB h3,?_⟩
    rw[ho,<-oI h,cS.mp h1,Array.eq_empty_of_size_eq_zero (cf h2)]
   | _=>exact oN h
 | _=>exact oN h
def zF{u i}(h:B3 u=some i):∃t,u=.str i t:=by induction u using Value.casesOn with
 | str j t=>obtain rfl:=Eq.symm (oI h);exact⟨t,rfl⟩
 | _=>exact oN h
abbrev Pg(v:V):={f:Frag->Value->Bool // ∀(c:Cx) (p:Pt) u,f c.K u=true->RV c p v u}
abbrev Wb(l:List (Int×V)):={f:Frag->List DictEntry->Bool // ∀(c:Cx) (p:Pt) u,f c.K u=true->vw c p l u}
abbrev V9(l:List V):={f:Frag->List Value->Bool // ∀(c:Cx) (p:Pt) u,f c.K u=true->bG c p l u}
abbrev Wa(z:Int×V):={f:Frag->DictEntry->Bool // ∀(c:Cx) (p:Pt) u l es,f c.K u=true->vw c p l es->vw c p (z::l) (u::es)}
def eP(v:V):Pg v:=⟨λ_ _=>false,λ_ _ _ h=>nomatch h⟩
def Qy(v:V):Pg v:=V.rec (motive_1:=Pg) (motive_2:=Wb) (motive_3:=V9) (motive_4:=λ_=>Unit) (motive_5:=Wa) (motive_6:=λ_=>Unit)
 (eP _) (λ_=>eP _) (λi=>⟨λ_ u=>ob (wt u) (pN i),λc p u h=>ay h λj e h=>by refine bV (uz e) λt e=>?_;rw[e,<-cw.mp h];exact .int i t⟩) (λ_=>eP _) (eP _) (λ_=>eP _) (λ_=>eP _)
 (λl f=>⟨λK u=>ob (Ex K u) λes=>bb (C2 l) (f.1 K es),λc p u h=>ay h λes e h=>ag h λh1 h=>by refine eC (Ao e) λb n e h3 h4=>?_;rw[e];exact .Y8 (.inr h4) h3 (f.2 c p es h) (zS _ h1)⟩)
 (λ_ _=>eP _) (λs=>⟨λ_ u=>ob (B3 u) (kX s),λc p u h=>ay h λj e h=>by refine bV (zF e) λt e=>?_;rw[e,<-dn.mp h];exact .str s t⟩)
 (λ_ f=>⟨λK u=>ob (Kg K u) (f.1 K),λc p u h=>ay h λes e h=>by refine iR (BW e) λb n e h3=>?_;rw[e];exact .tup (.inr h3) (f.2 c p es h)⟩) (λ_=>eP _)
 (λa=>⟨λK u=>ob (qU u) λb=>bb (Nat.beq a b) (K.lookup b).isSome,λc p u h=>ay h λb e h=>ag h λh1 h2=>by refine bV (Option.isSome_iff_exists.mp h2) λo ho=>?_;rw[nY e,cf h1];exact .glob ho⟩)
 (λ_=>eP _) (λ_=>eP _) (λ_ _=>eP _) (λ_ _ _=>eP _) (λ_=>eP _)
 ⟨λ_=>bf,λc p u h=>by rw[aG h];exact .nil⟩ (λ_ _ f g=>⟨λK l=>bR l λe r=>bb (f.1 K e) (g.1 K r),λc p u h=>aZ h λe r eq h=>ag h λh1 h2=>by rw[eq];exact f.2 c p e _ r h1 (g.2 c p r h2)⟩)
 ⟨λ_=>bf,λc p u h=>by rw[aG h];exact .nil⟩ (λ_ _ f g=>⟨λK l=>bR l λe r=>bb (f.1 K e) (g.1 K r),λc p u h=>aZ h λe r eq h=>ag h λh1 h2=>by rw[eq];exact .cons (f.2 c p e h1) (g.2 c p r h2)⟩)
 () (λ_ _ _ _=>()) (λi _ f=>⟨λK e=>ob (wt e.key) λj=>bb (pN i j) (bb (pN e.hash (hashInt i)) (f.1 K e.val)),λc p u l es h r=>ay h λj e h=>ag h λh1 h=>ag h λh2 h=>by
  obtain⟨uh,uk,uv⟩:=u
  refine bV (uz e) λt e=>?_
  have e:uk=.int j t:=e
  have h2:uh=hashInt i:=cw.mp h2
  rw[e,h2,<-cw.mp h1]
  exact .cons (f.2 c p uv h) r⟩) (λ_ _ _=>()) v
def sh(K:Frag)(z:String×V):Bool:=ob (nsIn K mainGlobals (Str.ofString z.1)) λr=>Option.rec (bb (Str.ofString z.1 != "__name__") (bi (Nat.beq z.2.tag 13) (bb (handedIn (.builtin z.2.xd)) (bootBuiltins (Str.ofString z.1) == some (.builtin z.2.xd))) (bb (Nat.beq z.2.tag 14) (bootBuiltins (Str.ofString z.1) == some (.type z.2.xd))))) (λu=>(Qy z.2).1 K u) r
def Nf{g:String×V->Bool}{x:Nat}{v:V}(l:List (String×V)):l.all g=true->lk x (Sa l)=some v->∃s,cc s=x/\g (s,v)=true:=by
 induction l with
 | nil=>exact λ_ h=>nomatch h
 | cons z r ih=>
  intro e h
  obtain⟨s,a⟩:=z
  rw[List.all_cons,s5] at e
  have h:(Bool.rec (lk x (Sa r)) (some a) (Nat.beq (cc s) x):Option V)=some v:=h
  exact bp h (λq h=>by obtain rfl:=Eq.symm (oI h);exact⟨s,cf q,e.1⟩) λ_ h=>ih e.2 h
def Eb{h:Heap}(X:c.K.In h)(G:h.Ns mainGlobals c.mg)(mb:∀x:Str,x≠"__name__"->c.mb x=bootBuiltins x)(e:R9.all (sh c.K)=true){x:Str}{v:V}(hx:lk (code x) (Sa R9)=some v):xu c x v:=by
 refine aH (Nf _ e hx) λs hs hc=>?_
 have hs:=gi.mp hs
 refine ay hc λr hr hc=>?_
 have hr:nsIn c.K mainGlobals (Str.ofString s)=some r:=hr
 rw[hs] at hr
 rcases r with _|u
 ·have hn:=mg_none_of X G hr
  refine ag hc λh1 hc=>?_
  have h1:(Str.ofString s != "__name__")=true:=h1
  rw[hs] at h1
  have mbx:=mb x (by simpa using h1)
  refine bH hc (λe h=>ag h λh2 h3=>?_) λ_ h=>ag h λe h3=>?_
  ·have h3:(bootBuiltins (Str.ofString s) == some (.builtin v.xd))=true:=h3
   rw[hs] at h3
   have e:Nat.beq v.tag 13=true:=e
   exact⟨_,.inr ⟨hn,mbx.trans (cS.mp h3)⟩,λp=>by rw[V.is e];exact .bi _ h2⟩
  ·have h3:(bootBuiltins (Str.ofString s) == some (.type v.xd))=true:=h3
   rw[hs] at h3
   have e:Nat.beq v.tag 14=true:=e
   exact⟨_,.inr ⟨hn,mbx.trans (cS.mp h3)⟩,λp=>by rw[V.is e];exact .ty _⟩
 ·exact⟨u,.inl (mg_of X G hr),λp=>(Qy v).2 c p u hc⟩
def VX(bm:List Value):Bool:=bb (bm.contains (.type "Exception")) (bb (bm.contains (.type "BaseException")) (bb (bm.contains (.type "AttributeError")).not (bm.contains (.type "NameError")).not))
def Tf(d:Data):Option ClassData:=match d with
 | .cls c=>some c
 | _=>none
def JJ{d c}(h:Tf d=some c):d=.cls c:=by
 induction d using Data.casesOn with
 | cls=>rw[oI h]
 | _=>exact oN h
def Iz{α:Type}{l:List α}{a:α}(h:l.head? =some a):l=a::l.tail:=by
 rcases l with _|⟨b,l⟩
 ·exact oN h
 ·rw[<-oI h];rfl
def Xy{α:Type}{l:List α}{x:α}(h:Nat.beq l.length 6=true)(h':(l.drop 4).head? =some x):∃a b c d f,l=[a,b,c,d,x,f]:=match l,h,h' with
 | [a,b,c,d,_,f],_,h'=>⟨a,b,c,d,f,by rw[oI h']⟩
def MM{o:Obj}{a d s}(h1:o.cls=a)(h2:o.data=d)(h3:o.slots.toList=s):o=⟨a,o.dict,d,⟨s⟩⟩:=by subst h1 h2 h3;rfl
def SN{c:ClassData}{m}(h1:c.mro=m)(h2:c.hasDel=false):c=⟨c.name,c.bases,m,c.ns,c.qualname,c.hasDict,c.slotNames,c.subclasses,c.abstract,c.collection,false⟩:=by rw[<-h2,<-h1]
def Et(C:Addr)(o:Obj):Bool:=ob (Tf o.data) λd=>bb (o.cls == .type "type") (bb (d.mro.head? == some (.ref C)) (bb d.hasDel.not (bb (Nat.beq o.slots.toList.length 6) (bb ((o.slots.toList.drop 4).head? == some (some (.builtin "Exception.__new__"))) (VX d.mro.tail)))))
def wI(K:Frag)(C f:Addr):Bool:=bb (ob (K.lookup C) (Et C)) (bb (findIn K (.ref C) "__init__" == some (some (.ref f))) (bb (isFn K (.ref f)) (bb (keepIn K (.ref C)) (bb (findIn K (.ref C) "__getattribute__" == some (some (.builtin "BaseException.__getattribute__"))) (bb (findIn K (.ref C) "__getattr__" == some none)
 (bb (mroIn K C (.type "BaseException") == some true) (bb (findIn K (.ref C) "__setattr__" == some (some (.builtin "object.__setattr__"))) (bb (kU K C) (hasDictIn K C)))))))))
def Am{K:Frag}{C f:Addr}(h:wI K C f=true):A6 K C f:=by
 refine ag h λh0 h=>ag h λh1 h=>ag h λh2 h=>ag h λh3 h=>ag h λh4 h=>ag h λh5 h=>ag h λh6 h=>ag h λh7 h=>ag h λh8 h9=>⟨?_,cS.mp h1,h2,h3,cS.mp h4,cS.mp h5,cS.mp h6,cS.mp h7,h8,h9⟩
 refine ay h0 λo ho h0=>ay h0 λd hd h0=>ag h0 λe1 h0=>ag h0 λe2 h0=>ag h0 λe3 h0=>ag h0 λe4 h0=>ag h0 λe5 h0=>ag h0 λb1 h0=>ag h0 λb2 h0=>ag h0 λb3 b4=>?_
 obtain⟨k0,k1,k2,k3,k5,e6⟩:=Xy e4 (cS.mp e5)
 refine⟨d.name,d.qualname,d.ns,d.bases,d.mro.tail,d.hasDict,d.slotNames,d.subclasses,d.abstract,d.collection,o.dict,k0,k1,k2,k3,k5,ho.trans (bl some ((MM (cS.mp e1) ((JJ hd).trans (bl Data.cls (SN (Iz (cS.mp e2)) (kB e3)))) e6).trans rfl)),⟨b1,b2,kB b3,kB b4⟩⟩
structure T7(K:Frag):Prop where
 fns:vq K src
 attr:zb.all (λC l=>l.all λs=>ny K C (Str.ofString s))=true
 mth:HN.all (λC l=>l.all λz=>rf K C (Str.ofString z.1) z.2)=true
 ini:D1.all (λC f=>rj K C f)=true
 Zm:Zm.all (oA K)=true
 gl:R9.all (sh K)=true
 exc:wI K 87 35=true
 xat:(["code","at"].all λs=>findIn K (.ref 87) (Str.ofString s) == some none)=true
def OJ{h:Heap}{ft:FT}(Q:T7 c.K)(X:c.K.In h)(G:h.Ns mainGlobals c.mg)(mb:∀x:Str,x≠"__name__"->c.mb x=bootBuiltins x)(F:aI c.σ ft):bY c (cfg ft) where
 glob x v e:=Eb X G mb Q.gl e
 attr C x e:=(ve Q.attr e).1
 sets C x e:=(ve Q.attr e).2
 mth C x f e:=Db Q.mth e
 mkI C f e:=Di Q.ini e
 mk0 C e:=zU Q.Zm e
 exc C f e:=bp (show(Bool.rec .none (some 35) (Nat.beq C 87):Option Addr)=some f from e) (λq e=>by obtain rfl:=oI e;rw[cf q];exact Am Q.exc) λ_ e=>nomatch e
 xat C x e:=ag e λq e=>by
  refine aH (yr _ e) λs hs hc=>?_
  have:=jt.mp Q.xat s hs
  rw[gi.mp hc] at this
  rw[cf q];exact cS.mp this
 ft:=F
variable{kx:Nat->Sy->Bool}{n:Nat}{σ:Sg}
structure bJ(c:Cx):Prop where
 cfg:∀{ft:FT},aI c.σ ft->bY c (cfg ft)
 src:vq c.K src
 z:∀g,c.σ.z g<=1000000
 big:∀g,(c.σ.γ g).length<=1000000
def aE:Addr->Option FS:=λ_=>.none
def tx(ft:FT)(ov:Addr->Option FS)(m:Nat)(f:Addr):FS:=Option.rec (λ_ _ _=>false) (λsp=>sp) (uK (cfg ft) src ov m f)
def dB(G:bJ c){ft:FT}(F:aI c.σ ft){ov:Addr->Option FS}(O:bD kx c n ov){m:Nat}{f:Addr}:ah kx c (n+2 * m) f (tx ft ov m f):=by
 unfold tx
 rcases e:uK (cfg ft) src ov m f with _|sp
 ·exact λa A p m Y s vs us k R _ _ h=>nomatch h
 ·exact(kR (G.cfg F) (λ_ _ h=>nomatch h) (λ_ _ _ h=>nomatch h) G.src O m f sp e).1
def qe:bD kx c 0 aE:=λf sp h=>nomatch h
def cy(G:bJ c){ft:FT}(F:aI c.σ ft){m:Nat}{f:Addr}:ah kx c (2 * m) f (tx ft aE m f):=by
 have:=dB (n:=0) G F qe (kx:=kx) (m:=m) (f:=f)
 rw[eM] at this;exact this
def eD(l:List (Addr×FS))(f:Addr):Option FS:=List.rec .none (λp _ g=>Bool.rec g (some p.2) (Nat.beq p.1 f)) l
def wu(f:Addr):Bool:=(IR.get f).isSome
def af{α:Type}{P:α->Prop}{a:α}(h:P a):∀p∈[a],P p:=λp hp=>by rw[List.mem_singleton.mp hp];exact h
def aa{α:Type}{P:α->Prop}{a:α}{l:List α}(h:P a)(h':∀p∈l,P p):∀p∈a::l,P p:=λp hp=>(dL.mp hp).elim (λe=>e▸h) (h' p)
def bw{α:Type}{P:α->Prop}{l l':List α}(h:∀p∈l,P p)(h':∀p∈l',P p):∀p∈l++l',P p:=λp hp=>(sY.mp hp).elim (h p) (h' p)
def bQ(G:bJ c)(l:List (Addr×FS)):(∀p∈l,ah kx c n p.1 p.2/\wu p.1=true)->bD kx c n (eD l):=by
 induction l with
 | nil=>exact λ_ f sp h=>nomatch h
 | cons p r ih=>
  intro hl f sp h
  refine bp (show(Bool.rec (eD r f) (some p.2) (Nat.beq p.1 f):Option FS)=some sp from h) (λe h=>?_) λ_ h=>ih (λp hp=>hl p (.tail _ hp)) f sp h
  obtain rfl:=oI h
  rw[<-cf e]
  refine bS (hl p (.head _)) λh1 h2=>?_
  refine⟨h1,?_⟩
  unfold wu at h2
  rcases e2:IR.get p.1 with _|s
  ·rw[e2] at h2;exact bT h2
  ·obtain⟨_,_,_,_,_,h3⟩:=G.src p.1 (Sq s) (by unfold src;rw[e2];rfl)
   exact h3
def qD(σ:Sg)(p:Nat×Option Int×Option Int):Prop:=(∀l,p.2.1=some l->l<=σ.ν p.1)/\(∀h,p.2.2=some h->σ.ν p.1<=h)
def fy{n:Nat}{i:Int}(h:i<=σ.ν n):qD σ (n,some i,.none):=⟨λl e=>by obtain rfl:=oI e;exact h,λl e=>nomatch e⟩
def bI{n:Nat}{i j:Int}(h:i<=σ.ν n)(h':σ.ν n<=j):qD σ (n,some i,some j):=⟨λl e=>by obtain rfl:=oI e;exact h,λl e=>by obtain rfl:=oI e;exact h'⟩
def jX(σ:Sg)(p:Nat×SE×V):Prop:=0<=p.2.1.ev σ.ν/\∃v,(σ.γ p.1)[(p.2.1.ev σ.ν).toNat]? =some v/\ak σ v p.2.2
def Po(σ:Sg)(p:Nat×SE×Option V):Prop:=(p.2.2=.none/\σ.δ p.1 (p.2.1.ev σ.ν)=.none)\/∃v v',p.2.2=some v'/\σ.δ p.1 (p.2.1.ev σ.ν)=some v/\ak σ v v'
def aI.four(G:bJ c){r l f d}(hr:∀p∈r,qD c.σ p)(hl:∀p∈l,((c.σ.γ p.1).length:Int)=p.2.ev c.σ.ν)(hf:∀p∈f,jX c.σ p)(hd:∀p∈d,Po c.σ p):aI c.σ {rng:=r,len:=l,lf:=f,df:=d} where
 rng:=hr
 len:=hl
 lf:=hf
 df:=hd
 pk:=ae
 pkz:=ae
 sf:=ae
 fm:=ae
 ef:=ae
 om:=ae
 ac C ns h:=nomatch h
 oe:=ae
 ca:=ae
 cb:=ae
 z:=G.z
 big:=G.big
def MB(x:Nat)(l:List Nat)(n:Nat):Nat:=List.rec (λn=>n) (λd _ g n=>Bool.rec (g (n+1)) n (Nat.beq d x)) l n
noncomputable def iN(n:Nat):V:=.int (.ofNat n)
def cE:List V:=[.tup [iN 1,iN 0],.tup [iN 1,iN 1],.tup [iN 1,iN 2],.tup [iN 1,iN 3],.tup [iN 1,iN 4],.tup [iN 1,iN 5],.tup [iN 1,iN 6],.tup [iN 1,iN 7],.tup [iN 1,iN 8],.tup [iN 1,iN 9],.tup [iN 1,iN 10],.tup [iN 1,iN 11],
 .tup [iN 1,iN 12],.tup [iN 1,iN 13],.tup [iN 1,iN 14],.tup [iN 1,iN 15],.tup [iN 2,iN 2,.tup []],.tup [iN 2,iN 64,.tup []],.tup [iN 2,iN 65,.tup []],.tup [iN 2,iN 66,.tup []],.tup [iN 3,iN 67,.tup []],.tup [iN 3,iN 68,.tup []],
 .tup [iN 3,iN 69,.tup []],.tup [iN 3,iN 70,.tup [iN 7]],.tup [iN 3,iN 70,.tup [iN 8]],.tup [iN 3,iN 8,.tup [iN 7]],.tup [iN 3,iN 8,.tup [iN 4]],.tup [iN 3,iN 8,.tup [iN 20]],.tup [iN 3,iN 8,.tup [iN 22]],.tup [iN 3,iN 8,.tup [iN 24]],
 .tup [iN 4,iN 17],.tup [iN 4,iN 18],.tup [iN 4,iN 12],.tup [iN 4,iN 7],.tup [iN 4,iN 8],.tup [iN 2,iN 21,.tup []],.tup [iN 2,iN 23,.tup []],.tup [iN 2,iN 71,.tup [.sym (.at 5)]]]
def fg{α:Type}(l:List α)(n:Nat)(d:α):α:=Option.rec d (λa=>a) (bh l n)
def dZ(es:List Nat)(x:Nat):V:=fg [.tup [iN 6,iN 0],.tup [iN 7,iN 0],.tup [iN 3,iN 8,.tup [iN (MB 1 es 38)]]] x (.tup [iN 4,iN (MB 0 es 38)])
def kT(x:Nat):V:=Bool.rec (iN 2) (iN 1) (Nat.blt x 2)
def ii(n:Nat)(v:V):List V:=Nat.rec [] (λ_ g=>v::g) n
def np:List V:=ii 23 (iN 1)++ii 6 (iN 2)++[iN 3]++ii 5 (iN 2)++ii 2 (iN 1)++[.any]
def vX(es:List Nat):List V:=cE++es.map (dZ es)
def Rv(v:V):KD:=Option.rec (.tup []) (λk=>k) (lJ v)
def KK(l:List V):Nat->List (KD×Option Nat×V)->List (KD×Option Nat×V):=List.rec (λ_ acc=>acc) (λr _ g n acc=>g (n+1) ((Rv r,.none,iN n)::acc)) l
def TO:AO:=.inst 122 [(cc "rows",.ref 1),(cc "index",.ref 2),(cc "depths",.ref 3),(cc "weights",.ref 4),(cc "opens",.ref 5)]
def gp(es:List Nat):Hp:=[TO,.lst (vX es),.dt 2 (KK (vX es) 0 []),.lst (np++es.map kT),.lst (np++es.map kT),.lst (ii 38 (iN 0)++es.map λ_=>iN 1)]
def CX(n l:Nat):List V:=Nat.rec (λ_=>[]) (λ_ g n=>.b_ n::g (n+1)) l n
def Gn(es:List Nat):Hp:=[TO,.v_ 40 (CX 70 es.length),.dt 2 (KK (vX es) 0 []),.lst (np++es.map kT),.lst (np++es.map kT),.v_ 41 (es.map λ_=>iN 1)]
def aB{α:Type}(f:α->Bool)(l:List α):Bool:=List.rec true (λa _ g=>bb (f a) g) l
def ai{α:Type}{f:α->Bool}{l:List α}(h:aB f l=true):∀a∈l,f a=true:=by
 induction l with
 | nil=>exact ae
 | cons b r ih=>exact aa (al.mp h).1 (ih (al.mp h).2)
def lc{α:Type}{f:α->Bool}(l r:List α)(h:aB f l=true)(h':aB f r=true):aB f (l++r)=true:=by
 induction l with
 | nil=>exact h'
 | cons b l ih=>exact al.mpr ⟨(al.mp h).1,ih (al.mp h).2⟩
noncomputable def cj:List (List Nat):=[[],[0],[1],[0,1],[1,0],[0,3],[1,2],[0,1,2],[0,1,3],[0,3,1],[1,0,2],[1,0,3],[1,2,0],[0,1,2,3],[0,1,3,2],[0,3,1,2],[1,0,2,3],[1,0,3,2],[1,2,0,3]]
def cz(n:Nat):Nat->List Nat:=Nat.rec (λ_=>[]) (λ_ g k=>k::g (k+1)) n
def cM(n:Nat):∀{k m:Nat},m∈cz n k↔k<=m/\m < k+n:=by
 induction n with
 | zero=>intro k m;exact⟨nofun,λh=>absurd h.2 (Nat.not_lt.mpr h.1)⟩
 | succ n ih=>
  intro k m
  show m∈k::cz n (k+1)↔_
  rw[dL,ih,show k+1+n=k+(n+1) from Nat.succ_add_eq_add_succ k n]
  exact⟨λh=>h.elim (λe=>e▸⟨fG _,Nat.lt_add_of_pos_right (qG n)⟩) λh=>⟨Nat.le_of_succ_le h.1,h.2⟩,λh=>(Nat.eq_or_lt_of_le h.1).imp Eq.symm λh'=>⟨h',h.2⟩⟩
def dy(l:List V)(n:Nat):V:=fg l n .none
def cP(l:List Nat)(n:Nat):Nat:=fg l n 0
def G7(k:Nat):List V:=(dy cE k).xl
def Vf(v:V)(i:Nat):Bool:=V.beq v (iN i)
def uj(k:Nat):V:=dy (G7 k) 0
def Rz(k:Nat):V:=Bool.rec (Bool.rec (dy (G7 k) 1) (iN 5) (Vf (uj k) 4)) (iN (cP [20,9,10,11,12,13,14,15,16,17,18,19,1,4,0,0] k)) (Vf (uj k) 1)
def KC(k:Nat):V:=Bool.rec (fg (G7 k) 2 (.tup [])) (.tup []) (Nat.ble (G7 k).length 2)
def Ie(k:Nat):V:=.bool (Bool.rec (Bool.rec false (Nat.ble k 11) (Nat.ble 1 k)) true (Vf (uj k) 3))
def UV(res:Nat->V)(k:Nat):mc:=⟨[iN k],res k,.none⟩
def ud(res:Nat->V):List mc:=(cz 38 0).map (UV res)
def T9(l:Nat):Hp:=[TO,.v_ 40 (CX 70 l),.gone,.gone,.gone,.gone]
def Vr(k:Nat):FT:={rng:=[],len:=[(40,.lit 38)],lf:=[(40,.lit (.ofNat k),dy cE k)],df:=[]}
def Co(code:FS)(vs:List V)(r:V)(Hs:Hp):Bool:=bb (zQ 0 vs) (bb (cV (Tm 0) r r) (bb (jF (.ref 0::vs) (.ref 0::vs)) (tF code [] (.ref 0::vs) Hs [] [] i8 r)))
def wn(f:Addr)(res:Nat->V):Bool:=aB (λl=>aB (λk=>Co (tx (Vr k) aE 3 f) [iN k] (res k) (T9 l)) (cz 38 0)) [0,1,2,3,4]
def Qn(es:List Nat):Bool:=bb (jB (gp es)) (bb (Gp (Tm 6) i8 (Gn es) (Gn es)) (bb (mH 6 (T9 es.length) 0 (Gn es)) (Nat.ble es.length 4)))
def ins(x:Nat)(es:List Nat):List Nat:=Bool.rec (es++[x]) es (bt x es)
def nZ(x:Nat)(r:V):V:=fg [.tup [iN 6,iN 0],.tup [iN 7,iN 0],.tup [iN 3,iN 8,.tup [r]]] x (.tup [iN 4,r])
def sz(x:Nat)(es:List Nat):Bool:=fg [true,true,bt 1 es] x (bt 0 es)
def dm(x:Nat)(es:List Nat):Nat:=MB x es 38
def Hq(x:Nat)(es:List Nat):Nat:=Bool.rec (dm 0 es) (dm 1 es) (Nat.beq x 2)
def Ch(a:List Nat):List Nat->Bool:=bc Nat.beq a
def lb{α:Type}(f:α->Bool)(l:List α):Bool:=List.rec false (λa _ g=>Bool.rec g true (f a)) l
def jo:FT:={rng:=[],len:=[],lf:=[],df:=[]}
def Mz(es:List Nat)(x:Nat):Bool:=bi (sz x es).not true (bb (lb (Ch (ins x es)) cj) (ke (tx jo aE 8 119) [nZ x (iN (Hq x es))] (iN (dm x (ins x es))) (gp es) (gp (ins x es))))
def uX(es:List Nat):Bool:=bb (bi (bt 0 es).not true (ke (tx jo aE 8 238) [iN (dm 0 es),.tup [.sym (.at 5)],.tup [.sym (.at 6)]] (.sym (.at 5)) (gp es) (gp es)))
 (bb (bi (bt 1 es).not true (ke (tx jo aE 8 238) [iN (dm 1 es),.tup [.sym (.at 5)],.tup [.sym (.at 6)]] (.sym (.at 6)) (gp es) (gp es)))
 (bb (bi (bt 2 es).not true (aB (λp:Nat×Nat=>ke (tx jo aE 10 238) [iN (dm 2 es),.tup [.sym (.at 5)],.tup [iN p.1]] (iN p.2) (gp es) (gp es)) [(20,27),(22,28),(7,25)]))
 (bi (bt 3 es).not true (aB (λp:Nat×Nat=>ke (tx jo aE 10 238) [iN (dm 3 es),.tup [iN p.1],.tup [.sym (.at 6)]] (iN p.2) (gp es) (gp es)) [(17,30),(7,33),(12,32)]))))
def Ua(l:Nat):Hp:=[TO,.v_ 40 (CX 70 l),.gone,.gone,.gone,.v_ 41 (ii l (iN 1))]
def Vt(k:Nat):FT:={rng:=[],len:=[(40,.lit 38),(41,.lit 38)],lf:=[(40,.lit (.ofNat k),dy cE k),(41,.lit (.ofNat k),iN 0)],df:=[]}
def OH:Bool:=aB (λl=>aB (λk=>Co (tx (Vt k) aE 3 238) [iN k,.tup [.sym (.at 5)],.tup [.sym (.at 6)]] (iN k) (Ua l)) (cz 37 0)) [0,1,2,3,4]
def L8(es:List Nat):Bool:=mH 6 (Ua es.length) 0 (Gn es)
def uY(es:List Nat):Bool:=bb (ke (tx jo aE 8 182) [iN 21,.tup []] (iN 35) (gp es) (gp es)) (ke (tx jo aE 8 182) [iN 23,.tup []] (iN 36) (gp es) (gp es))
def RB:aB Qn cj=true:=by kernel_rfl
def z5:wn 196 uj=true:=by kernel_rfl
def DM:wn 210 Rz=true:=by kernel_rfl
def z6:wn 217 KC=true:=by kernel_rfl
def oE:wn 224 Ie=true:=by kernel_rfl
def Ho:aB (λes=>aB (Mz es) [0,1,2,3]) cj=true:=by kernel_rfl
def As:aB uX cj=true:=by kernel_rfl
def wR:OH=true:=by kernel_rfl
def ND:aB L8 cj=true:=by kernel_rfl
def Av:aB uY cj=true:=by kernel_rfl
variable{bj:Cx}{H H' Hs Hx:Hp}
def l7.refl(H:Hp):l7 c H H:=⟨rfl,λ_ _ _ h=>h⟩
def l7.cons{o o':AO}(h:∀p k x,RO c p k x o->RO c p k x o')(t:l7 c H H'):l7 c (o::H) (o'::H'):=⟨bl (· +1) t.1,λp k x r=>r.elim λa r=>r.elim λb r=>⟨a,b,r.1,h p k a r.2.1,t.2 p _ b r.2.2⟩⟩
def kH{l l':List V}{k x}(h:∀us,bG c p l us->bG c p l' us)(r:eF p k λa _=>LX c p l x a):eF p k λa _=>LX c p l' x a:=r.elim λa r=>r.elim λd r=>⟨a,d,r.1,r.2.elim λvs r=>r.elim λn r=>⟨vs,n,h vs r.1,r.2⟩⟩
structure iP(c bj:Cx)(es:Nat->List Nat):Prop where
 O:Lz c bj λi=>gp (es i)
 ok:∀i,es i∈cj
 g40:c.σ.γ 40=cE
 g41:c.σ.γ 41=ii 38 (iN 0)
 om:∀i j x,(es i)[j]? =some x->c.σ.ω (70+j)=dZ (es i) x
def yf{f:Nat->V}(l:List Nat):∀{n us},(∀j x,l[j]? =some x->c.σ.ω (n+j)=f x)->(bG c p (l.map f) us↔bG c p (CX n l.length) us):=by
 induction l with
 | nil=>exact λ_=>Iff.rfl
 | cons x l ih=>
  intro n us h
  have h0:c.σ.ω n=f x:=h 0 x rfl
  have ih':=λ{us}=>ih (n:=n+1) (us:=us) λj y e=>by have:=h (j+1) y e;rwa [show n+(j+1)=n+1+j by lia] at this
  show bG c p (f x::l.map f) us↔bG c p (.b_ n::CX (n+1) l.length) us
  constructor
  ·intro r
   refine eC r.inv λu Za e r1 r2=>?_
   rw[e]
   exact .cons (.b_ (h0▸r1)) (ih'.mp r2)
  ·intro r
   refine eC r.inv λu Za e r1 r2=>?_
   rw[e]
   have r1:RV c p (c.σ.ω n) u:=r1.inv
   exact .cons (h0▸r1) (ih'.mpr r2)
def mW{a b a' b':List V}{us}(h1:∀us,bG c p a us->bG c p a' us)(h2:∀us,bG c p b us->bG c p b' us)(r:bG c p (a++b) us):bG c p (a'++b') us:=by
 refine eC (jg _ r) λx y e r1 r2=>?_
 rw[e]
 exact eO (h2 y r2) _ (h1 x r1)
def iP.toG{es}(T:iP c bj es)(i:Nat):l7 c (gp (es i)) (Gn (es i)):=
 .cons (λ_ _ _ h=>h) (.cons (λp k x h=>kH (λus r=>mW (λus r=>by rw[T.g40];exact r) (λus r=>(yf _ (T.om i)).mp r) r) h) (.cons (λ_ _ _ h=>h) (.cons (λ_ _ _ h=>h) (.cons (λ_ _ _ h=>h) (.cons (λp k x h=>kH (λus r=>mW (λus r=>by rw[T.g41];exact r) (λus r=>r) r) h) (.refl _))))))
def iP.ofG{es}(T:iP c bj es)(i:Nat):l7 c (Gn (es i)) (gp (es i)):=
 .cons (λ_ _ _ h=>h) (.cons (λp k x h=>kH (λus r=>mW (λus r=>by rw[T.g40] at r;exact r) (λus r=>(yf _ (T.om i)).mpr r) r) h) (.cons (λ_ _ _ h=>h) (.cons (λ_ _ _ h=>h) (.cons (λ_ _ _ h=>h) (.cons (λp k x h=>kH (λus r=>mW (λus r=>by rw[T.g41] at r;exact r) (λus r=>r) r) h) (.refl _))))))
def ig{es:List Nat}(h:es∈cj):jB (gp es)=true/\Gp (Tm 6) i8 (Gn es) (Gn es)=true/\mH 6 (T9 es.length) 0 (Gn es)=true/\es.length<=4:=ag (ai RB es h) λh1 h=>ag h λh2 h=>ag h λh3 h=>⟨h1,h2,h3,fu h⟩
def fc(l:List V)(k:Nat)(h:k < l.length):l[k]? =some (dy l k):=by
 unfold dy fg
 rw[bK,vr h]
def Cv(v:V)(n:Nat):∀k,k < n->(ii n v)[k]? =some v:=by
 induction n with
 | zero=>exact λk h=>absurd h (Nat.not_lt_zero k)
 | succ n ih=>exact λk h=>match k with
  | 0=>rfl
  | k+1=>ih k (Nat.lt_of_succ_lt_succ h)
def rt{es:List Nat}(h:es∈cj):es.length∈[0,1,2,3,4]:=by
 have hl:=(ig h).2.2.2
 generalize es.length=l at hl
 match l,hl with
 | 0,_|1,_|2,_|3,_|4,_=>simp
 | n+5,h=>lia
def za{es}(T:iP c bj es){k:Nat}(hk:k < 38):jX c.σ (40,.lit (.ofNat k),dy cE k):=⟨nI k,dy cE k,by rw[T.g40];exact fc cE k hk,ak.refl _⟩
def vd{es}(T:iP c bj es):((c.σ.γ 40).length:Int)=(SE.lit 38).ev c.σ.ν:=by rw[T.g40];rfl
def Ek(G:bJ c){es}(T:iP c bj es){k:Nat}(hk:k < 38):aI c.σ (Vr k):=aI.four G ae (af (vd T)) (af (za T hk)) ae
def zJ{vs:List V}{r:V}(h1:zQ 0 vs=true)(h2:cV (Tm 0) r r=true)(h3:jF (.ref 0::vs) (.ref 0::vs)=true)(h4:mH Hs.length Hs 0 Hx=true)(h5:Gp (Tm Hx.length) i8 Hx Hx=true):ke (bg Hs [⟨.ref 0::vs,r,[]⟩]) vs r Hx Hx=true:=by
 refine aP h1 (aP (mz _) ?_)
 show ob (Bool.rec .none (some (⟨.ref 0::vs,r,[]⟩:sT)) (jF (.ref 0::vs) (.ref 0::vs))) _=true
 rw[h3]
 exact aP h4 (aP h5 h2)
def nS(G:bJ c){f:Addr}{code:FS}{vs r}(hc:ah aq c n f code)(run:Co code vs r Hs=true)(hm:mH Hs.length Hs 0 Hx=true)(hx:Gp (Tm Hx.length) i8 Hx Hx=true):∃ab5,ah aq c n f ab5/\ke ab5 vs r Hx Hx=true:=
 ag run λh1 h=>ag h λh2 h=>ag h λh3 run=>⟨bg Hs [⟨.ref 0::vs,r,[]⟩],a8 (af ⟨code,[],.ref 0::vs,r,[],i8,hc,ax.refl _,ak.refl _,ae,aV,run⟩),zJ h1 h2 h3 hm hx⟩
def fB:Nat->Bool:=λ_=>true
def rB(G:bJ c){es}(T:iP c bj es){f:Addr}{res:Nat->V}(run:wn f res=true):ah kx c 6 f (mI fB (ud res)):=
 on T.O (λi=>(ig (T.ok i)).1) λp hp i _ _=>by
  refine aH (fw.mp hp) λk hk e=>?_
  rw[<-e]
  have Zn:=((cM 38).mp hk).2
  refine Gk (ig (T.ok i)) λs1 s2 s3 s4=>?_
  refine aH (nS G (cy (m:=3) G (Ek G T (by omega))) (ai (ai run _ (rt (T.ok i))) k hk) s3 s2) λcode hc h=>?_
  exact⟨code,[iN k],res k,_,_,hc,ax.refl _,ak.refl _,T.toG i,T.ofG i,h⟩
def cq(G:bJ c):aI c.σ jo:=aI.four G ae ae ae ae
def QI(v x:Nat):mc:=⟨[nZ x (.sym (.at (59+v)))],.sym (.at (60+v)),some (v,v+1)⟩
def aW{n:Nat}{i:Int}(h:σ.ν n=i):ak σ (.sym (.at n)) (.int i):=λc p u hc r=>by
 refine bV r.inv λt e=>?_
 rw[e,hc,show(SE.at n).ev σ.ν=i from h];exact .int i t
def dX{n:Nat}{i:Int}(h:σ.ν n=i):ak σ (.int i) (.sym (.at n)):=λc p u hc r=>by
 refine bV r.inv λt e=>?_
 have:=RV.sym (c:=c) (p:=p) (.at n) t
 rw[hc,show(SE.at n).ev σ.ν=i from h] at this
 rw[e];exact this
def v5{x:Nat}{r r':V}(h:2<=x->ak σ r r'):ax σ [nZ x r] [nZ x r']:=.one (match x,h with
 | 0,_=>ak.refl _
 | 1,_=>ak.refl _
 | 2,h=>ax.tup (.cons (ak.refl _) (.cons (ak.refl _) (.one (ax.tup (.one (h (by decide)))))))
 | n+3,h=>ax.tup (.cons (ak.refl _) (.one (h (by lia)))))
def o7{b x:Bool}(h:bi b.not true x=true)(hb:b=true):x=true:=by rw[hb] at h;exact h
def My(G:bJ c){es}(T:iP c bj es){ad5:List (Nat×Nat)}
  (hp:∀p∈ad5,p.2∈[0,1,2,3]/\es (p.1+1)=ins p.2 (es p.1)/\sz p.2 (es p.1)=true/\c.σ.ν (60+p.1)=.ofNat (dm p.2 (es (p.1+1)))/\(2<=p.2->c.σ.ν (59+p.1)=.ofNat (Hq p.2 (es p.1)))):ah kx c 16 119 (mI fB (ad5.map λp=>QI p.1 p.2)):=
 on T.O (λi=>(ig (T.ok i)).1) λp h i _ hi=>by
  refine aH (fw.mp h) λJ_ hm e=>?_;obtain⟨v,x⟩:=J_
  refine Xg (hp _ hm) λh1 h2 h3 h4 h5=>?_
  have h1:x∈[0,1,2,3]:=h1
  have h2:es (v+1)=ins x (es v):=h2
  have h3:sz x (es v)=true:=h3
  rw[<-e] at hi ⊢
  have hi:v=i:=cf hi
  subst hi
  have run:=o7 (ai (ai Ho _ (T.ok v)) x h1) h3
  refine⟨_,[nZ x (iN (Hq x (es v)))],iN (dm x (ins x (es v))),_,_,cy (m:=8) G (cq G),v5 λhc=>aW (h5 hc),dX (by rw[h4,h2]),.refl _,.refl _,?_⟩
  show ke _ _ _ (gp (es v)) (gp (es (v+1)))=true
  rw[h2];exact(al.mp run).2
def K1(v n:Nat)(r:V):mc:=⟨[.sym (.at n),.tup [.sym (.at 5)],.tup [.sym (.at 6)]],r,some (v,v)⟩
def A8(es:List Nat)(x:Int)(tk mk:Int)(k:Nat):Prop:=
 (k < 37/\x=.ofNat k)\/(bt 0 es=true/\x=.ofNat (dm 0 es)/\tk=.ofNat k)\/(bt 1 es=true/\x=.ofNat (dm 1 es)/\mk=.ofNat k)\/
 (bt 2 es=true/\x=.ofNat (dm 2 es)/\∃m:Nat,mk=.ofNat m/\(m,k)∈[(20,27),(22,28),(7,25)])\/(bt 3 es=true/\x=.ofNat (dm 3 es)/\∃m:Nat,tk=.ofNat m/\(m,k)∈[(17,30),(7,33),(12,32)])
def Og(G:bJ c){es}(T:iP c bj es){k:Nat}(hk:k < 38):aI c.σ (Vt k):=aI.four G ae (aa (vd T) (af (by rw[T.g41];rfl))) (aa (za T hk) (af ⟨nI k,iN 0,by rw[T.g41];exact Cv (iN 0) 38 k hk,ak.refl _⟩)) ae
def SJ{es:List Nat}(h:es∈cj):uX es=true:=ai As _ h
def EG{es:List Nat}(h:es∈cj):uY es=true:=ai Av _ h
def Yq{l k:Nat}(hl:l∈[0,1,2,3,4])(hk:k∈cz 37 0):Co (tx (Vt k) aE 3 238) [iN k,.tup [.sym (.at 5)],.tup [.sym (.at 6)]] (iN k) (Ua l)=true:=ai (ai wR _ hl) k hk
def Uw{es:List Nat}(h:es∈cj):mH 6 (Ua es.length) 0 (Gn es)=true:=ai ND _ h
def hZ(G:bJ c){es:Nat->List Nat}(i j:Nat){ft f m r Zp args res to}(F:aI c.σ ft)(hm:2 * m<=n)(h1:ax c.σ args Zp)(h2:ak c.σ r res)(hd:T0 ⟨args,res,to⟩ i=j)(run:ke (tx ft aE m f) Zp r (gp (es i)) (gp (es j))=true):∃code vs r Hx Hy,ah aq c n f code/\ax c.σ args vs/\ak c.σ r res/\l7 c (gp (es i)) Hx/\l7 c Hy (gp (es (T0 ⟨args,res,to⟩ i)))/\ke code vs r Hx Hy=true:=
 ⟨tx ft aE m f,Zp,r,gp (es i),gp (es j),(cy G F).le hm,h1,h2,.refl _,by rw[hd];exact .refl _,run⟩
def EE(G:bJ c){es}(T:iP c bj es){v n k:Nat}{res:V}(hk:A8 (es v) (c.σ.ν n) (c.σ.ν 5) (c.σ.ν 6) k)(Y7:ak c.σ (iN k) res):Gh c 20 238 fB (λi=>gp (es i)) (K1 v n res):=λi _ hi=>by
 have hi:v=i:=cf hi
 subst hi
 refine ag (SJ (T.ok v)) λr0 run=>ag run λr1 run=>ag run λr2 r3=>?_
 have tk {x:Nat} (e:c.σ.ν 5=.ofNat x):ak c.σ (.tup [.sym (.at 5)]) (.tup [iN x]):=ax.tup (.one (aW e))
 have mk {x:Nat} (e:c.σ.ν 6=.ofNat x):ak c.σ (.tup [.sym (.at 6)]) (.tup [iN x]):=ax.tup (.one (aW e))
 refine hk.elim (λh=>?_) λhk=>hk.elim (λh=>?_) λhk=>hk.elim (λh=>?_) λhk=>hk.elim (λh=>?_) λh=>?_
 ·refine Gk (ig (T.ok v)) λs1 s2 s3 s4=>?_
  obtain⟨code,hc,h'⟩:=nS G ((cy (m:=3) G (Og G T (k:=k) (by lia))).le (by decide:2 * 3<=20)) (Yq (rt (T.ok v)) ((cM 37).mpr ⟨by lia,by lia⟩)) (Uw (T.ok v)) s2
  exact⟨code,_,_,_,_,hc,.cons (aW h.2) (.refl _),Y7,T.toG v,T.ofG v,h'⟩
 ·exact hZ G v v (cq G) (by decide) (.cons (aW h.2.1) (.refl _)) ((aW h.2.2).trans Y7) rfl (o7 r0 h.1)
 ·exact hZ G v v (cq G) (by decide) (.cons (aW h.2.1) (.refl _)) ((aW h.2.2).trans Y7) rfl (o7 r1 h.1)
 ·obtain⟨h1,h2,m,h3,h4⟩:=h
  exact hZ G v v (cq G) (by decide) (.cons (aW h2) (.cons (ak.refl _) (.one (mk h3)))) Y7 rfl (ai (o7 r2 h1) _ h4)
 ·obtain⟨h1,h2,m,h3,h4⟩:=h
  exact hZ G v v (cq G) (by decide) (.cons (aW h2) (.cons (tk h3) (.refl _))) Y7 rfl (ai (o7 r3 h1) _ h4)
def uW(G:bJ c){es}(T:iP c bj es){cl:List (Nat×Nat×Nat×V)}
  (hc:∀p∈cl,A8 (es p.1) (c.σ.ν p.2.1) (c.σ.ν 5) (c.σ.ν 6) p.2.2.1/\ak c.σ (iN p.2.2.1) p.2.2.2):ah kx c 20 238 (mI fB (cl.map λp=>K1 p.1 p.2.1 p.2.2.2)):=
 on T.O (λi=>(ig (T.ok i)).1) λp h=>by
  refine aH (fw.mp h) λz hm e=>?_
  rw[<-e]
  exact EE G T (hc z hm).1 (hc z hm).2
def I9(t k:Nat):mc:=⟨[iN t,.tup []],iN k,.none⟩
def EF(G:bJ c){es}(T:iP c bj es):ah kx c 16 182 (mI fB [I9 21 35,I9 23 36]):=
 on T.O (λi=>(ig (T.ok i)).1) (aa (λi _ _=>ag (EG (T.ok i)) λh1 h2=>hZ G i i (cq G) (by decide) (.refl _) (ak.refl _) rfl h1) (af λi _ _=>ag (EG (T.ok i)) λh1 h2=>hZ G i i (cq G) (by decide) (.refl _) (ak.refl _) rfl h2))
end
section
variable{c:Cx}{p q:Pt}{kx:Nat->Sy->Bool}{n:Nat}{σ σ':Sg}
noncomputable def Cx.sg(c:Cx)(σ:Sg):Cx:={c with σ:=σ}
def V.fr(v:V):Bool:=V.rec (motive_1:=λ_=>Bool) (motive_2:=λ_=>Bool) (motive_3:=λ_=>Bool) (motive_4:=λ_=>Bool) (motive_5:=λ_=>Bool) (motive_6:=λ_=>Bool)
 true (λ_=>true) (λ_=>true) (λ_=>false) true (λ_=>false) (λ_=>false) (λ_ _=>false) (λ_ _=>false) (λ_=>true) (λ_ f=>f) (λ_=>true) (λ_=>true) (λ_=>true) (λ_=>true) (λ_ f=>f) (λ_ _ f=>f) (λ_=>true)
 true (λ_ _ f g=>bb f g) true (λ_ _ f g=>bb f g) true (λ_ _ f g=>bb f g) (λ_ _ f=>f) (λ_ _ f=>f) v
def Oi(l:List V):Bool:=List.rec true (λx _ g=>bb x.fr g) l
def WV(l:List (Nat×V)):Bool:=List.rec true (λx _ g=>bb x.2.fr g) l
def wB(l:List V):(V.tup l).fr=Oi l:=by
 induction l with
 | nil=>exact rfl
 | cons v l ih=>exact bl (bb v.fr) ih
def wC(l:List V):(V.fls l).fr=Oi l:=by
 induction l with
 | nil=>exact rfl
 | cons v l ih=>exact bl (bb v.fr) ih
def wD(C)(l:List (Nat×V)):(V.fin C l).fr=WV l:=by
 induction l with
 | nil=>exact rfl
 | cons v l ih=>exact bl (bb v.2.fr) ih
def oR{v u}(r:RV c p v u):v.fr=true->RV (c.sg σ') p v u:=
 RV.rec (c:=c) (p:=p) (motive_1:=λv u _=>v.fr=true->RV (c.sg σ') p v u) (motive_2:=λl us _=>Oi l=true->bG (c.sg σ') p l us) (motive_3:=λ_ _ _=>True) (motive_4:=λl es _=>WV l=true->RA (c.sg σ') p l es)
  (λ_=>.none) (λb _=>.bool b) (λi t _=>.int i t) (λ_ _ h=>nomatch h) (λh _=>.any h) (λ_ _ h=>nomatch h) (λ_ _ h=>nomatch h) (λ_ h=>nomatch h) (λ_ _ _ _ _ h=>nomatch h) (λs t _=>.str s t)
  (λh _ ih e=>.tup h (ih ((wB _).symm.trans e))) (λh _=>.ref h) (λh _=>.glob (c:=c.sg σ') h) (λs h _=>.bi s h) (λs _=>.ty s) (λh _ ih e=>.fls h (ih ((wC _).symm.trans e))) (λh h2 _ ih e=>.fin h h2 (ih ((wD _ _).symm.trans e))) (λh h2 _=>.pat h h2)
  (λ_=>.nil) (λ_ _ i1 i2 e=>.cons (i1 (al.mp e).1) (i2 (al.mp e).2)) trivial (λ_ _ _ _=>trivial) (λ_=>.nil) (λ_ _ i1 i2 e=>.cons (c:=c.sg σ') (i1 (al.mp e).1) (i2 (al.mp e).2)) r
def V.E_(σ:Sg)(v:V):V:=V.rec (motive_1:=λ_=>V) (motive_2:=λ_=>Unit) (motive_3:=λ_=>List V) (motive_4:=λ_=>List (Nat×V)) (motive_5:=λ_=>Unit) (motive_6:=λ_=>Nat×V)
 .none .bool .int (λe=>.int (e.ev σ.ν)) .any .clo σ.ω (λl _=>.Y8 l) .rng .str (λ_ f=>.tup f) .ref .glob .bi .ty (λ_ f=>.fls f) (λC _ f=>.fin C f) .pat
 () (λ_ _ _ _=>()) [] (λ_ _ f g=>f::g) [] (λ_ _ f g=>f::g) (λ_ _ _=>()) (λk _ f=>(k,f)) v
def V.gk(v:V):Bool:=V.rec (motive_1:=λ_=>Bool) (motive_2:=λ_=>Bool) (motive_3:=λ_=>Bool) (motive_4:=λ_=>Bool) (motive_5:=λ_=>Bool) (motive_6:=λ_=>Bool)
 true (λ_=>true) (λ_=>true) (λ_=>true) true (λ_=>false) (λ_=>true) (λ_ _=>false) (λ_ _=>false) (λ_=>true) (λ_ f=>f) (λ_=>true) (λ_=>true) (λ_=>true) (λ_=>true) (λ_ f=>f) (λ_ _ f=>f) (λ_=>true)
 true (λ_ _ f g=>bb f g) true (λ_ _ f g=>bb f g) true (λ_ _ f g=>bb f g) (λ_ _ f=>f) (λ_ _ f=>f) v
def Vl(l:List V):Bool:=List.rec true (λx _ g=>bb x.gk g) l
def WQ(l:List (Nat×V)):Bool:=List.rec true (λx _ g=>bb x.2.gk g) l
def N9(l:List V):(V.tup l).gk=Vl l:=by
 induction l with
 | nil=>exact rfl
 | cons v l ih=>exact bl (bb v.gk) ih
def ww(l:List V):(V.fls l).gk=Vl l:=by
 induction l with
 | nil=>exact rfl
 | cons v l ih=>exact bl (bb v.gk) ih
def wx(C)(l:List (Nat×V)):(V.fin C l).gk=WQ l:=by
 induction l with
 | nil=>exact rfl
 | cons v l ih=>exact bl (bb v.2.gk) ih
def IF(l:List V):(V.tup l).E_ σ=.tup (l.map (V.E_ σ)):=by
 induction l with
 | nil=>exact rfl
 | cons v l ih=>exact bl (λx:V=>V.tup (v.E_ σ::x.xl)) ih
def sd(l:List V):(V.fls l).E_ σ=.fls (l.map (V.E_ σ)):=by
 induction l with
 | nil=>exact rfl
 | cons v l ih=>exact bl (λx:V=>V.fls (v.E_ σ::x.xl)) ih
def se(C)(l:List (Nat×V)):(V.fin C l).E_ σ=.fin C (l.map λz=>(z.1,z.2.E_ σ)):=by
 induction l with
 | nil=>exact rfl
 | cons v l ih=>exact bl (λx:V=>V.fin C ((v.1,v.2.E_ σ)::x.xa)) ih
def D8(hω:∀n,(c.σ.ω n).fr=true){v u}(r:RV c p v u):v.gk=true->RV (c.sg σ') p (v.E_ c.σ) u:=
 RV.rec (c:=c) (p:=p) (motive_1:=λv u _=>v.gk=true->RV (c.sg σ') p (v.E_ c.σ) u) (motive_2:=λl us _=>Vl l=true->bG (c.sg σ') p (l.map (V.E_ c.σ)) us) (motive_3:=λ_ _ _=>True) (motive_4:=λl es _=>WQ l=true->RA (c.sg σ') p (l.map λz=>(z.1,z.2.E_ c.σ)) es)
  (λ_=>.none) (λb _=>.bool b) (λi t _=>.int i t) (λe t _=>.int _ t) (λh _=>.any h) (λ_ _ h=>nomatch h) (λ{n u} h _ _=>oR h (hω n)) (λ_ h=>nomatch h) (λ_ _ _ _ _ h=>nomatch h) (λs t _=>.str s t)
  (λh _ ih e=>(IF _)▸.tup h (ih ((N9 _).symm.trans e))) (λh _=>.ref h) (λh _=>.glob (c:=c.sg σ') h) (λs h _=>.bi s h) (λs _=>.ty s) (λh _ ih e=>(sd _)▸.fls h (ih ((ww _).symm.trans e))) (λh h2 _ ih e=>(se _ _)▸.fin h h2 (ih ((wx _ _).symm.trans e))) (λh h2 _=>.pat h h2)
  (λ_=>.nil) (λ_ _ i1 i2 e=>.cons (i1 (al.mp e).1) (i2 (al.mp e).2)) trivial (λ_ _ _ _=>trivial) (λ_=>.nil) (λ_ _ i1 i2 e=>.cons (c:=c.sg σ') (i1 (al.mp e).1) (i2 (al.mp e).2)) r
structure l6 where
 n:List (SE×SE)
 o:List (Nat×Nat)
 a:List (Nat×Nat)
 g:List (Nat×Nat)
 d:List (Nat×Nat)
structure cH(c:Cx)(σ':Sg)(r:l6):Prop where
 n:∀z∈r.n,z.1.ev c.σ.ν=z.2.ev σ'.ν
 o:∀z∈r.o,σ'.ω z.2=c.σ.ω z.1/\(c.σ.ω z.1).fr=true
 a:∀z∈r.a,∀ρ I k x,c.σ.π z.1 ρ I k x->σ'.π z.2 ρ I k x
 g:∀z∈r.g,∀p us,bG c p (c.σ.γ z.1) us->bG (c.sg σ') p (σ'.γ z.2) us
 d:∀z∈r.d,(∀p x y,au c p (c.σ.δ z.1 x) y->au (c.sg σ') p (σ'.δ z.2 x) y)/\c.σ.z z.1<=σ'.z z.2
 b:σ'.β=c.σ.β
variable{r:l6}
def la{α:Type}{f:α->Bool}{C:Prop}{l:List α}(h:lb f l=true)(k:∀a∈l,f a=true->C):C:=by
 induction l with
 | nil=>exact bT h
 | cons a l ih=>
  have h:(Bool.rec (lb f l) true (f a):Bool)=true:=h
  rcases e:f a with _|_
  ·rw[e] at h;exact ih h λb hb=>k b (.tail _ hb)
  ·exact k a (.head _) e
def QJ(a b:Nat)(l:List (Nat×Nat)):Bool:=lb (λz=>bb (Nat.beq a z.1) (Nat.beq b z.2)) l
def oh{a b:Nat}{l:List (Nat×Nat)}(h:QJ a b l=true):(a,b)∈l:=la h λz m e=>ag e λe1 e2=>by rw[cf e1,cf e2];exact m
def UD(a b:SE)(l:List (SE×SE)):Bool:=lb (λz=>bb (SE.beq a z.1) (SE.beq b z.2)) l
def CJ{a b:SE}{l:List (SE×SE)}(h:UD a b l=true):(a,b)∈l:=la h λz m e=>ag e λe1 e2=>by rw[SE.eq_of_beq _ e1,SE.eq_of_beq _ e2];exact m
def QA(r:l6)(v v':V):Bool:=bi (bb v.fr (V.beq v v')) true (bi (bb (Nat.beq v.tag 3) (Nat.beq v'.tag 3)) (UD v.xe v'.xe r.n) (bb (bb (Nat.beq v.tag 6) (Nat.beq v'.tag 6)) (QJ v.xn v'.xn r.o)))
def TG(r:l6)(v v':V):Bool:=bi (QA r v v') true (bb (bb (Nat.beq v.tag 10) (Nat.beq v'.tag 10)) (bc (QA r) v.xl v'.xl))
def rV(r:l6)(v v':V):Bool:=bi (TG r v v') true (bb (bb (Nat.beq v.tag 10) (Nat.beq v'.tag 10)) (bc (TG r) v.xl v'.xl))
def CD(R:cH c σ' r){v v' u}(h:QA r v v'=true)(x:RV c p v u):RV (c.sg σ') p v' u:=by
 refine bH h (λh _=>ag h λh1 h2=>?_) λ_ h=>bH h (λh' h=>ag h' λh1 h2=>?_) λ_ h=>ag h λh' h=>ag h' λh1 h2=>?_
 ·rw[<-V.eq_of_beq _ h2];exact oR x h1
 ·have hm:=R.n _ (CJ h)
  refine bV (x.at h1) λt e=>?_
  rw[V.is h2,e]
  rw[show v.xe.ev c.σ.ν=v'.xe.ev σ'.ν from hm]
  exact RV.sym (c:=c.sg σ') _ t
 ·refine bS (R.o _ (oh h)) λe1 e2=>?_
  have x':RV c p (c.σ.ω v.xn) u:=x.at h1
  rw[V.is h2]
  refine RV.b_ (c:=c.sg σ') (n:=v'.xn) ?_
  rw[show(c.sg σ').σ.ω v'.xn=c.σ.ω v.xn from e1]
  exact oR x' e2
def FR{f:V->V->Bool}(hf:∀v v' u,f v v'=true->RV c p v u->RV (c.sg σ') p v' u)(l:List V):∀{l' us},bc f l l'=true->bG c p l us->bG (c.sg σ') p l' us:=by
 induction l with
 | nil=>intro l' us h x;rw[ba h,show us=[] from x.inv];exact .nil
 | cons v l ih=>intro l' us h x;refine eC x.inv λu Za e x1 x2=>?_;exact aT h λb t e' h1 h=>by rw[e,e'];exact .cons (hf _ _ _ h1 x1) (ih h x2)
def BV{f:V->V->Bool}(hf:∀v v' u,f v v'=true->RV c p v u->RV (c.sg σ') p v' u){v v' u}(h1:Nat.beq v.tag 10=true)(h2:Nat.beq v'.tag 10=true)(h:bc f v.xl v'.xl=true)(x:RV c p v u):RV (c.sg σ') p v' u:=by
 refine mE (x.at h1) λa items n e i1 i2=>?_
 rw[V.is h2,e]
 exact .tup i1 (FR hf _ h i2)
def CC(R:cH c σ' r){v v' u}(h:TG r v v'=true)(x:RV c p v u):RV (c.sg σ') p v' u:=
 bH h (λh _=>CD R h x) λ_ h=>ag h λh' h=>ag h' λh1 h2=>BV (λ_ _ _ h x=>CD R h x) h1 h2 h x
def mh(R:cH c σ' r){v v' u}(h:rV r v v'=true)(x:RV c p v u):RV (c.sg σ') p v' u:=
 bH h (λh _=>CC R h x) λ_ h=>ag h λh' h=>ag h' λh1 h2=>BV (λ_ _ _ h x=>CC R h x) h1 h2 h x
def rA(r:l6)(x y:Nat×V):Bool:=bb (Nat.beq x.1 y.1) (rV r x.2 y.2)
def Mv(R:cH c σ' r)(l:List (Nat×V)):∀{l' es},bc (rA r) l l'=true->RA c p l es->RA (c.sg σ') p l' es:=by
 induction l with
 | nil=>intro l' es h x;rw[ba h,show es=[] from x.inv];exact .nil
 | cons v l ih=>
  intro l' es h x
  refine li x.inv λy t u Zk e1 e2 x1 x2=>?_
  refine aT h λb t' e' h1 h=>ag h1 λh1 h2=>?_
  obtain⟨b1,b2⟩:=b
  have eb:v.1=b1:=cf h1
  rw[e2,e',<-eb,e1]
  exact RA.cons (c:=c.sg σ') (mh R h2 x1) (ih h x2)
def fQ{d:Cx}{x x':Option V}{y:Option Value}(h:au c p x y)(f:∀v u,x=some v->RV c p v u->∃v',x'=some v'/\RV d p v' u)(g:x=.none->x'=.none):au d p x' y:=by
 induction x using oC with
 | none=>rw[g rfl];induction y using oC with
  | none=>trivial
  | some u=>exact h.elim
 | some v=>
  rcases y with _|u
  ·exact h.elim
  ·refine aH (f v u rfl h) λv' e r=>?_;rw[e];exact r
def Hl(R:cH c σ' r){k:Nat}{y:Option Value}(l:List (Nat×V)):∀{l'},bc (rA r) l l'=true->au c p (look k l) y->au (c.sg σ') p (look k l') y:=by
 induction l with
 | nil=>intro l' h x;rw[ba h];exact fQ x (λ_ _ e=>nomatch e) λ_=>rfl
 | cons v l ih=>
  intro l' h x
  obtain⟨v1,v2⟩:=v
  refine aT h λb t e' h1 h=>ag h1 λh1 h2=>?_
  obtain⟨b1,b2⟩:=b
  have eb:v1=b1:=cf h1
  rw[e',<-eb,aX]
  rw[aX] at x
  by_cases e:v1=k
  ·rw[if_pos e] at x ⊢
   exact fQ x (λv u e r=>⟨b2,rfl,by obtain rfl:=oI e;exact mh R h2 r⟩) nofun
  ·rw[if_neg e] at x ⊢;exact ih h x
def Rc(e:SE):Bool:=match e with
 | .lit _=>true
 | _=>false
def HW{e:SE}(h:Rc e=true)(ν ν':Nat->Int):e.ev ν=e.ev ν':=by induction e using SE.casesOn with
 | lit=>rfl
 | _=>exact bT h
def UW(r:l6)(e:SE):Bool:=bi (Rc e) true (UD e e r.n)
def DH(R:cH c σ' r){e:SE}(h:UW r e=true):e.ev σ'.ν=e.ev c.σ.ν:=bH h (λh _=>HW h ..) λ_ h=>(R.n _ (CJ h)).symm
def rI(r:l6)(x y:SE×V):Bool:=bb (UW r x.1) (bb (SE.beq x.1 y.1) (rV r x.2 y.2))
def rG(r:l6)(g g':Option Nat):Bool:=oi g (λn=>ob g' λm=>QJ n m r.d) (Option.rec true (λ_=>false) g')
def Hi(R:cH c σ' r){g g':Option Nat}(hg:rG r g g'=true){k:Int}{y:Option Value}(l:List (SE×V)):∀{l'},bc (rI r) l l'=true->au c p (cB c.σ l g k) y->au (c.sg σ') p (cB σ' l' g' k) y:=by
 induction l with
 | nil=>
  intro l' h x
  rw[ba h]
  refine bq hg (λn en hg=>ay hg λm em hg=>?_) λen hg=>?_
  ·rw[en] at x;rw[em]
   exact(R.d _ (oh hg)).1 p k y x
  ·rcases g' with _|_
   ·rw[en] at x;exact fQ x (λ_ _ e=>nomatch e) λ_=>rfl
   ·exact bT hg
 | cons v l ih=>
  intro l' h x
  obtain⟨v1,v2⟩:=v
  refine aT h λb t e' h1 h=>ag h1 λh0 h1=>ag h1 λh1 h2=>?_
  obtain⟨b1,b2⟩:=b
  have eb:v1=b1:=SE.eq_of_beq _ h1
  rw[e',<-eb]
  show au (c.sg σ') p (if v1.ev σ'.ν=k then some b2 else cB σ' t g' k) y
  have x:au c p (if v1.ev c.σ.ν=k then some v2 else cB c.σ l g k) y:=x
  rw[DH R h0]
  by_cases e:v1.ev c.σ.ν=k
  ·rw[if_pos e] at x ⊢
   exact fQ x (λv u e r=>⟨b2,rfl,by obtain rfl:=oI e;exact mh R h2 r⟩) nofun
  ·rw[if_neg e] at x ⊢;exact ih h x
def rC(r:l6)(x y:Int×V×Option Bool):Bool:=bb (pN x.1 y.1) (bb (FH x.2.2 y.2.2) (rV r x.2.1 y.2.1))
def Hj(R:cH c σ' r){k:Int}{y:Option Value}(l:List (Int×V×Option Bool)):∀{l'},bc (rC r) l l'=true->bE c p (cZ l k) y->bE (c.sg σ') p (cZ l' k) y:=by
 induction l with
 | nil=>intro l' h x;rw[ba h];exact x
 | cons v l ih=>
  intro l' h x
  obtain⟨v1,v2,v3⟩:=v
  refine aT h λb t e' h1 h=>ag h1 λh1 h2=>ag h2 λh2 h3=>?_
  obtain⟨b1,b2,b3⟩:=b
  have eb:v1=b1:=cw.mp h1
  have eo:v3=b3:=pd h2
  rw[e',<-eb,<-eo]
  show bE (c.sg σ') p (if v1=k then some (b2,v3) else cZ t k) y
  have x:bE c p (if v1=k then some (v2,v3) else cZ l k) y:=x
  have mv:∀{y},au c p (some v2) y->au (c.sg σ') p (some b2) y:=λx=>fQ x (λv u e r=>⟨b2,rfl,by obtain rfl:=oI e;exact mh R h3 r⟩) nofun
  by_cases e:v1=k
  ·rw[if_pos e] at x ⊢
   rcases v3 with _|v
   ·exact x.imp id mv
   ·rcases v with _|_
    ·exact x
    ·exact mv x
  ·rw[if_neg e] at x ⊢;exact ih h x
def KD.fx(r:l6)(k:KD):Bool:=KD.rec (motive_1:=λ_=>Bool) (motive_2:=λ_=>Bool) (UW r) (λ_=>true) (λ_ f=>f) true (λ_ _ f g=>bb f g) k
def Ru(r:l6)(l:List KD):Bool:=List.rec true (λx _ g=>bb (x.fx r) g) l
def H7(l:List KD):(KD.tup l).fx r=Ru r l:=by
 induction l with
 | nil=>exact rfl
 | cons v l ih=>exact bl (bb (v.fx r)) ih
def Nw(R:cH c σ' r)(k:KD):k.fx r=true->k.ev σ'.ν=k.ev c.σ.ν:=
 KD.rec (motive_1:=λk=>k.fx r=true->k.ev σ'.ν=k.ev c.σ.ν) (motive_2:=λl=>Ru r l=true->KD.Z7 σ'.ν l=KD.Z7 c.σ.ν l)
  (λe h=>bl aA.int (DH R h)) (λ_ _=>rfl) (λl ih h=>bl aA.tup (ih ((H7 l).symm.trans h))) (λ_=>rfl) (λa l i1 i2 h=>by show KD.ev σ'.ν a::KD.Z7 σ'.ν l=KD.ev c.σ.ν a::KD.Z7 c.σ.ν l;rw[i1 (al.mp h).1,i2 (al.mp h).2]) k
def rT(r:l6)(x y:KD×Option Nat×V):Bool:=bb (x.1.fx r) (bb (x.1.YX.1 y.1) (bb (PF x.2.1 y.2.1) (rV r x.2.2 y.2.2)))
def Hh(R:cH c σ' r){k:aA}{y:Option Value}(l:List (KD×Option Nat×V)):∀{l'},bc (rT r) l l'=true->au c p (dD c.σ l k) y->au (c.sg σ') p (dD σ' l' k) y:=by
 induction l with
 | nil=>intro l' h x;rw[ba h];exact fQ x (λ_ _ e=>nomatch e) λ_=>rfl
 | cons v l ih=>
  intro l' h x
  obtain⟨v1,v2,v3⟩:=v
  refine aT h λb t e' h1 h=>ag h1 λh0 h1=>ag h1 λh1 h2=>ag h2 λh2 h3=>?_
  obtain⟨b1,b2,b3⟩:=b
  have e1:v1=b1:=v1.YX.2 _ h1
  have e2:v2=b2:=o8 h2
  rw[e',<-e1,<-e2]
  have ec:eL σ' v2=eL c.σ v2:=by
   rcases v2 with _|j
   ·rfl
   ·exact congrFun R.b j
  show au (c.sg σ') p (if v1.ev σ'.ν=k/\eL σ' v2=true then some b3 else dD σ' t k) y
  have x:au c p (if v1.ev c.σ.ν=k/\eL c.σ v2=true then some v3 else dD c.σ l k) y:=x
  rw[ec,Nw R v1 h0]
  by_cases e:v1.ev c.σ.ν=k/\eL c.σ v2=true
  ·rw[if_pos e] at x ⊢
   exact fQ x (λv u e r=>⟨b3,rfl,by obtain rfl:=oI e;exact mh R h3 r⟩) nofun
  ·rw[if_neg e] at x ⊢;exact ih h x
def Nx(k:aA):k.toV.fr=true:=by
 refine aA.rec (motive_1:=λk=>k.toV.fr=true) (motive_2:=λl=>Oi (aA.Zy l)=true) (λ_=>rfl) (λ_=>rfl) (λl ih=>(wB _).trans ih) rfl (λa l h1 h2=>aP h1 h2) k
def rO(r:l6)(o o':AO):Bool:=bi (bb (dQ o) (dQ o')) true
 (oi (dw o) (λl=>ob (dw o') λl'=>bc (rV r) l l')
 (oi (jG o) (λg=>ob (jG o') λg'=>bb (bb (bf g.2) (bf g'.2)) (QJ g.1 g'.1 r.g))
 (oi (eU o) (λi=>ob (eU o') λi'=>bb (Nat.beq i.1 i'.1) (bc (rA r) i.2 i'.2))
 (oi (lU o) (λl=>ob (lU o') λl'=>bc (rA r) l l')
 (oi (pS o) (λd=>ob (pS o') λd'=>bb (rG r d.2 d'.2) (bc (rI r) d.1 d'.1))
 (oi (vh o) (λl=>ob (vh o') λl'=>bc (rC r) l l')
 (oi (pR o) (λt=>ob (pR o') λt'=>bb (Nat.beq t.1 t'.1) (bc (rT r) t.2 t'.2))
 (ob (eK o) λn=>ob (eK o') λm=>QJ n m r.a))))))))
def QD(R:cH c σ' r){k o o' x}(h:rO r o o'=true)(y:RO c p k x o):RO (c.sg σ') p k x o':=by
 refine bH h (λh _=>ag h λh1 h2=>?_) λ_ h=>bq h (λl e h=>ay h λl' e' h=>?_) λ_ h=>bq h (λg e h=>ay h λg' e' h=>ag h λh0 h=>?_) λ_ h=>bq h (λi e h=>ay h λi' e' h=>ag h λh1 h=>?_) λ_ h=>bq h (λl e h=>ay h λl' e' h=>?_) λ_ h=>bq h (λd e h=>ay h λd' e' h=>ag h λh0 h=>?_) λ_ h=>bq h (λl e h=>ay h λl' e' h=>?_) λ_ h=>bq h (λt e h=>ay h λt' e' h=>ag h λh0 h=>?_) λ_ h=>ay h λn e h=>ay h λm e' h=>?_
 ·rw[fT h1] at y;rw[fT h2];exact y
 ·rw[bU e] at y;rw[bU e']
  exact y.elim λa y=>y.elim λd y=>⟨a,d,y.1,y.2.elim λvs y=>y.elim λn y=>⟨vs,n,FR (λ_ _ _ h x=>mh R h x) _ h y.1,y.2⟩⟩
 ·rw[eA e] at y;rw[eA e']
  refine ag h0 λh1 h2=>?_
  rw[aG h1] at y
  rw[aG h2]
  refine y.elim λa y=>y.elim λd y=>⟨a,d,y.1,y.2.elim λvs y=>y.elim λn y=>⟨vs,n,?_,y.2⟩⟩
  have y1:=y.1
  rw[gN] at y1 ⊢
  exact R.g _ (oh h) p vs y1
 ·rw[bZ e] at y;rw[bZ e',<-cf h1]
  exact y.elim λa y=>y.elim λd y=>⟨a,d,y.1,y.2.elim λvs y=>y.elim λn y=>⟨vs,n,Mv R _ h y.1,y.2⟩⟩
 ·rw[dp e] at y;rw[dp e']
  exact y.elim λa y=>y.elim λd y=>⟨a,d,y.1,DX.le y.2 (jL (aQ _ h)) λxs y x=>Hl R _ h (y x)⟩
 ·rw[eZ e] at y;rw[eZ e']
  refine y.elim λa y=>y.elim λdd y=>⟨a,dd,y.1,DX.le y.2 ?_ λxs y x=>Hi R h0 _ h (y x)⟩
  have e1:=aQ _ h
  refine bq h0 (λn en hg=>ay hg λm em hg=>?_) λen hg=>?_
  ·rw[en,em]
   have:=(R.d _ (oh hg)).2
   show d.1.length+c.σ.z n<=d'.1.length+σ'.z m
   dsimp only at this
   lia
  ·rcases e2:d'.2 with _|_
   ·rw[en,e1];exact fG _
   ·rw[e2] at hg;exact bT hg
 ·rw[iB e] at y;rw[iB e']
  exact y.elim λa y=>y.elim λd y=>⟨a,d,y.1,DX.le y.2 (jL (aQ _ h)) λxs y x=>Hj R _ h (y x)⟩
 ·rw[fS e] at y;rw[fS e',<-cf h0]
  exact y.elim λa y=>y.elim λd y=>⟨a,d,y.1,DX.le y.2 (jL (aQ _ h)) λxs y=>⟨λx hx=>⟨oR (y.1 x hx).1 (Nx x.1),(y.1 x hx).2⟩,λx=>Hh R _ h (y.2 x)⟩⟩
 ·rw[gY e] at y;rw[gY e']
  exact R.a _ (oh h) _ _ _ _ y
def rH(r:l6)(H H':Hp):Bool:=bc (rO r) H H'
def Kn(R:cH c σ' r)(H:Hp):∀{H' k x},rH r H H'=true->RH c p k H x->RH (c.sg σ') p k H' x:=by
 induction H with
 | nil=>intro H' k x h y;rw[ba h];exact y
 | cons o H ih=>
  intro H' k x h y
  refine aT h λo' dg e h1 h=>?_
  refine eC y λa b e1 y1 y2=>?_
  rw[e]
  exact⟨a,b,e1,QD R h1 y1,ih h y2⟩
def Act.sg(a:Act c)(σ:Sg)(cv:List (Nat×V)):Act (c.sg σ):={base:=a.base,h₀:=a.h₀,outer:=a.outer,env:=a.env,fl:=a.fl,X:=a.X,cv:=cv,p₀:=a.p₀,gens:=a.gens,os:=a.os,KX:=a.KX,G:=a.G,Bn:=a.Bn,NL:=a.NL,st:=a.st,ff:=a.ff,hk:=a.hk,hg:=a.hg,hb:=a.hb,hfl:=a.hfl}
theorem aK.sg{a:Act c}{m Y s H' pc'}(S:aK a p m Y s)(hH:∀x,RH c p 0 Y.H x->RH (c.sg σ') p 0 H' x)(len:H'.length=Y.H.length)(ZE:∀x∈pc',σ'.β x.1=x.2):aK (a.sg σ' []) p m ⟨pc',H'⟩ s:=
 ⟨let⟨g,own,tn,F,N,nd,rh,l⟩:=S.st;⟨g,own,tn,F,N,nd,hH own rh,l.trans len.symm⟩,S.le,(λx v h=>nomatch h),ZE,S.ge,S.os⟩
def aK.gs{a:Act c}{m Y s H' pc'}(S:aK (a.sg σ' []) p m Y s)(ZX:a.cv=[])(hH:∀x,RH (c.sg σ') p 0 Y.H x->RH c p 0 H' x)(len:H'.length=Y.H.length)(ZE:∀x∈pc',c.σ.β x.1=x.2):aK a p m ⟨pc',H'⟩ s:=
 ⟨let⟨g,own,tn,F,N,nd,rh,l⟩:=S.st;⟨g,own,tn,F,N,nd,hH own rh,l.trans len.symm⟩,S.le,(λx v h=>by rw[ZX] at h;exact nomatch h),ZE,S.ge,S.os⟩
end
section
def dk(code:FS)(pc:PC)(js:List Nat)(cg:xw)(Hs:Hp)(ch:List (Nat×AO))(vs:List V)(r:V):Bool:=tF code pc vs Hs js ch cg r
def Hc:Hp:=[
.ds [(cc "script",.ref 42),(cc "at",.sym (.at 38)),(cc "m",.ref 9),(cc "ev",.ref 8),(cc "kinds",.ref 6),(cc "exact",.ref 1),(cc "held",.ref 2),(cc "bare",.ref 41),(cc "items",.ref 3),(cc "addrs",.ref 4),(cc "pairs",.ref 5),(cc "unders",.ref 7),(cc "T",.b_ 11),(cc "M",.b_ 12),(cc "errors",.ref 40),(cc "act",.ref 11),(cc "f",.ref 13)],
 .v_ 1 [],
 .v_ 2 [],
 .v_ 4 [],
 .v_ 5 [],
 .dt 1 [(.tup [.str (Str.ofString "h"),.str (Str.ofString "v")],some 13,.int 1),(.tup [.str (Str.ofString "t"),.str (Str.ofString "i")],some 12,.int 1),(.tup [.str (Str.ofString "b[]"),.str (Str.ofString "o[]")],some 11,.int 1),(.tup [.str (Str.ofString "a[]"),.str (Str.ofString "o[]")],some 10,.int 1),(.tup [.str (Str.ofString "b[]"),.str (Str.ofString "a[]")],some 9,.int 1),(.tup [.str (Str.ofString "u4[]"),.str (Str.ofString "i4[]")],some 8,.int 1),(.tup [.str (Str.ofString "i4[]"),.str (Str.ofString "u4[]")],some 7,.int 1),(.tup [.str (Str.ofString "i4"),.str (Str.ofString "v")],some 6,.int 1),(.tup [.str (Str.ofString "e"),.str (Str.ofString "v")],some 5,.int 1),(.tup [.str (Str.ofString "s"),.str (Str.ofString "v")],some 4,.int 1),(.tup [.str (Str.ofString "s"),.str (Str.ofString "i")],some 3,.int 1),(.tup [.str (Str.ofString "a"),.str (Str.ofString "i")],some 2,.int 1),(.tup [.str (Str.ofString "b"),.str (Str.ofString "i")],some 1,.int 1),(.tup [.str (Str.ofString "b"),.str (Str.ofString "a")],some 0,.int 1)],
 .ds [(cc "bool",.int 1),(cc "u1",.int 4),(cc "i4",.int 7),(cc "u4",.int 8),(cc "o",.int 12),(cc "t",.int 13),(cc "v",.int 16),(cc "a",.int 17),(cc "b",.int 18),(cc "i",.int 19),(cc "e",.int 20),(cc "f",.int 21),(cc "s",.int 22),(cc "g",.int 23),(cc "h",.int 24),(cc "?i4",.int 25),(cc "?u1",.int 26),(cc "?e",.int 27),(cc "?s",.int 28),(cc "?h",.int 29),(cc "a[]",.int 30),(cc "b[]",.int 31),(cc "o[]",.int 32),(cc "i4[]",.int 33),(cc "u4[]",.int 34)],
 .ds [(cc "e",.b_ 13),(cc "f",.b_ 14)],
 .inst 975 [(cc "unit",.ref 20),(cc "store",.ref 14),(cc "kt",.ref 10),(cc "host",.any),(cc "things",.ref 22),(cc "statics",.any),(cc "inits",.any),(cc "fails",.any),(cc "out",.any),(cc "steps",.sym (.at 10)),(cc "most",.int 4000),(cc "depth",.any),(cc "nested",.any),(cc "guards",.any),(cc "serial",.any),(cc "texts",.any),(cc "typed",.any),(cc "layouts",.ref 23),(cc "kin",.ref 24),(cc "queue",.any),(cc "calls",.any),(cc "exprs",.ref 25),(cc "places",.any),(cc "targets",.any),(cc "stmts",.any),(cc "core",.any),(cc "starts",.any),(cc "cuts",.any),(cc "cut_bodies",.any),(cc "splits",.any),(cc "begins",.any),(cc "blocks",.any),(cc "defaults",.ref 27),(cc "uses",.any)],
 .inst 1428 [(cc "store",.ref 14),(cc "kt",.ref 10),(cc "heap",.ref 28),(cc "kin",.ref 31),(cc "rows",.ref 36),(cc "targets",.any),(cc "defaults",.ref 37),(cc "unders",.ref 32),(cc "frames",.any),(cc "by_number",.any),(cc "statics",.any),(cc "inits",.any),(cc "ops",.ref 33),(cc "state",.int 0),(cc "told",.ref 38),(cc "thrown",.any),(cc "calls",.any),(cc "held",.any),(cc "places",.any),(cc "starter",.any),(cc "closer",.ref 39)],
 .t_ 0,
 .inst 519 [(cc "number",.any),(cc "fn",.any),(cc "lids",.ref 12),(cc "this",.any),(cc "targs",.tup [.sym (.at 5)]),(cc "margs",.tup [.sym (.at 6)]),(cc "caught",.any),(cc "holes",.any),(cc "held",.any),(cc "entered",.any)],
 .di [] (some 1),
 .inst 1192 [(cc "number",.any),(cc "mref",.tup [.int 37,.int 1,.tup [.sym (.at 6)]]),(cc "body",.any),(cc "ip",.any),(cc "args",.any),(cc "locals_",.any),(cc "stack",.any),(cc "conts",.any),(cc "caught",.any),(cc "caughtv",.any),(cc "keep",.any),(cc "sort",.any),(cc "home",.any),(cc "extra",.any),(cc "prefix",.any)],
 .inst 318 [(cc "kt",.ref 10),(cc "types",.ref 15),(cc "fields_",.any),(cc "methods",.any),(cc "names",.any),(cc "asms",.any),(cc "entry",.any)],
 .lst [.none,.none,.none,.none,.none,.none,.none,.none,.none,.none,.none,.none,.none,.none,.none,.none,.none,.none,.none,.none,.none,.none,.none,.none,.none,.none,.none,.none,.none,.none,.none,.none,.none,.none,.none,.none,.none,.none,.none,.none,.none,.none,.none,.none,.none,.none,.none,.none,.none,.none,.none,.none,.none,.none,.none,.none,.none,.none,.none,.none,.none,.none,.none,.none,.none,.none,.none,.ref 16,.ref 17,.ref 18,.ref 19],
 .inst 297 [(cc "tid",.any),(cc "name",.any),(cc "sort",.int 5),(cc "flags",.any),(cc "base",.any),(cc "ifaces",.any),(cc "params",.any),(cc "variances",.any),(cc "bounds",.any),(cc "fields",.any),(cc "methods",.any),(cc "asm",.any),(cc "cctor",.any),(cc "under",.sym (.at 7)),(cc "impls",.any),(cc "props",.any),(cc "events",.any),(cc "finaliser",.any),(cc "home",.any)],
 .inst 297 [(cc "tid",.any),(cc "name",.any),(cc "sort",.int 5),(cc "flags",.any),(cc "base",.any),(cc "ifaces",.any),(cc "params",.any),(cc "variances",.any),(cc "bounds",.any),(cc "fields",.any),(cc "methods",.any),(cc "asm",.any),(cc "cctor",.any),(cc "under",.sym (.at 8)),(cc "impls",.any),(cc "props",.any),(cc "events",.any),(cc "finaliser",.any),(cc "home",.any)],
 .inst 297 [(cc "tid",.any),(cc "name",.any),(cc "sort",.int 2),(cc "flags",.any),(cc "base",.any),(cc "ifaces",.any),(cc "params",.any),(cc "variances",.any),(cc "bounds",.any),(cc "fields",.any),(cc "methods",.any),(cc "asm",.any),(cc "cctor",.any),(cc "under",.int (-1)),(cc "impls",.any),(cc "props",.any),(cc "events",.any),(cc "finaliser",.any),(cc "home",.any)],
 .inst 297 [(cc "tid",.any),(cc "name",.any),(cc "sort",.int 2),(cc "flags",.any),(cc "base",.any),(cc "ifaces",.any),(cc "params",.any),(cc "variances",.any),(cc "bounds",.any),(cc "fields",.any),(cc "methods",.any),(cc "asm",.any),(cc "cctor",.any),(cc "under",.int (-1)),(cc "impls",.any),(cc "props",.any),(cc "events",.any),(cc "finaliser",.any),(cc "home",.any)],
 .inst 409 [(cc "store",.any),(cc "asm",.any),(cc "fns",.any),(cc "vars",.ref 21),(cc "of_mid",.any),(cc "diags",.any),(cc "inits",.any),(cc "sinits",.any),(cc "consts",.any)],
 .v_ 7 [],
 .v_ 0 [],
 .di [(.lit 29,.fin 898 [(cc "kinds",.tup [.int 1,.int 24]),(cc "slots",.any),(cc "statics",.any),(cc "skinds",.any),(cc "fids",.any)]),(.lit 28,.fin 898 [(cc "kinds",.tup [.int 1,.int 22]),(cc "slots",.any),(cc "statics",.any),(cc "skinds",.any),(cc "fids",.any)]),(.lit 27,.fin 898 [(cc "kinds",.tup [.int 1,.int 20]),(cc "slots",.any),(cc "statics",.any),(cc "skinds",.any),(cc "fids",.any)]),(.lit 26,.fin 898 [(cc "kinds",.tup [.int 1,.int 4]),(cc "slots",.any),(cc "statics",.any),(cc "skinds",.any),(cc "fids",.any)]),(.lit 25,.fin 898 [(cc "kinds",.tup [.int 1,.int 7]),(cc "slots",.any),(cc "statics",.any),(cc "skinds",.any),(cc "fids",.any)]),(.lit 24,.fin 898 [(cc "kinds",.tup [.int 8]),(cc "slots",.any),(cc "statics",.any),(cc "skinds",.any),(cc "fids",.any)]),(.lit 22,.fin 898 [(cc "kinds",.tup [.int 7,.int 12,.int 26]),(cc "slots",.any),(cc "statics",.any),(cc "skinds",.any),(cc "fids",.any)])] .none,
 .dt 2 [(.tup [.int (.lit 24),.int (.lit 16)],some 13,.int 1),(.tup [.int (.lit 13),.int (.lit 19)],some 12,.int 1),(.tup [.int (.lit 31),.int (.lit 32)],some 11,.int 1),(.tup [.int (.lit 30),.int (.lit 32)],some 10,.int 1),(.tup [.int (.lit 31),.int (.lit 30)],some 9,.int 1),(.tup [.int (.lit 34),.int (.lit 33)],some 8,.int 1),(.tup [.int (.lit 33),.int (.lit 34)],some 7,.int 1),(.tup [.int (.lit 7),.int (.lit 16)],some 6,.int 1),(.tup [.int (.lit 20),.int (.lit 16)],some 5,.int 1),(.tup [.int (.lit 22),.int (.lit 16)],some 4,.int 1),(.tup [.int (.lit 22),.int (.lit 19)],some 3,.int 1),(.tup [.int (.lit 17),.int (.lit 19)],some 2,.int 1),(.tup [.int (.lit 18),.int (.lit 19)],some 1,.int 1),(.tup [.int (.lit 18),.int (.lit 17)],some 0,.int 1)],
 .di [(.lit 90,.ref 26)] .none,
 .inst 1571 [],
 .dc [(22,.tup [.int 0,.int 0,.tup [.int 0,.int 0]],.none),(24,.tup [.int 0],.none),(25,.tup [.int 0,.int 0],.none),(26,.tup [.int 0,.int 0],.none),(27,.tup [.int 0,.int 0],.none),(28,.tup [.int 0,.tup [.int 0,.int 0,.tup [.int 0,.int 0]]],.none),(29,.tup [.int 0,.tup [.int 0]],.none)],
 .inst 1142 [(cc "things",.ref 29),(cc "at",.ref 30),(cc "top",.sym (.at 15)),(cc "limit",.any),(cc "cards",.any),(cc "card_bits",.any),(cc "fresh",.sym (.at 17)),(cc "young_limit",.any),(cc "finals",.any),(cc "ready",.any),(cc "moved",.any),(cc "made",.sym (.at 16))],
 .v_ 6 [],
 .di [] (some 0),
 .dt 2 [(.tup [.int (.lit 24),.int (.lit 29)],.none,.int 1),(.tup [.int (.lit 22),.int (.lit 28)],.none,.int 1),(.tup [.int (.lit 20),.int (.lit 27)],.none,.int 1),(.tup [.int (.lit 4),.int (.lit 26)],.none,.int 1),(.tup [.int (.lit 7),.int (.lit 25)],.none,.int 1),(.tup [.int (.lit 24),.int (.lit 16)],some 13,.int 1),(.tup [.int (.lit 13),.int (.lit 19)],some 12,.int 1),(.tup [.int (.lit 31),.int (.lit 32)],some 11,.int 1),(.tup [.int (.lit 30),.int (.lit 32)],some 10,.int 1),(.tup [.int (.lit 31),.int (.lit 30)],some 9,.int 1),(.tup [.int (.lit 34),.int (.lit 33)],some 8,.int 1),(.tup [.int (.lit 33),.int (.lit 34)],some 7,.int 1),(.tup [.int (.lit 7),.int (.lit 16)],some 6,.int 1),(.tup [.int (.lit 20),.int (.lit 16)],some 5,.int 1),(.tup [.int (.lit 22),.int (.lit 16)],some 4,.int 1),(.tup [.int (.lit 22),.int (.lit 19)],some 3,.int 1),(.tup [.int (.lit 17),.int (.lit 19)],some 2,.int 1),(.tup [.int (.lit 18),.int (.lit 19)],some 1,.int 1),(.tup [.int (.lit 18),.int (.lit 17)],some 0,.int 1)],
 .di [(.lit 21,.sym (.at 8)),(.lit 20,.sym (.at 7))] .none,
 .di [(.lit 117,.ref 35),(.lit 116,.ref 34)] .none,
 .inst 1526 [],
 .inst 1545 [],
 .di [] .none,
 .di [] .none,
 .lst [],
 .inst 1304 [],
 .di [(.lit 36,.int 23),(.lit 35,.int 21)] .none,
 .v_ 3 [],
 .v_ 9 []]
namespace P
abbrev w_:Nat:=0
abbrev z_:Nat:=1
abbrev Zg:Nat:=2
abbrev P_:Nat:=3
abbrev YV:Nat:=4
abbrev O_:Nat:=5
abbrev K_:Nat:=6
abbrev R_:Nat:=7
abbrev I_:Nat:=8
abbrev m_:Nat:=9
abbrev y_:Nat:=10
abbrev af1:Nat:=11
abbrev ZQ:Nat:=12
abbrev f_:Nat:=13
abbrev Y3:Nat:=14
abbrev Y2:Nat:=15
abbrev aa2:Nat:=16
abbrev aa1:Nat:=17
abbrev Z_:Nat:=18
abbrev aa0:Nat:=19
abbrev ac8:Nat:=20
abbrev ZK:Nat:=21
abbrev l_:Nat:=22
abbrev V_:Nat:=23
abbrev YI:Nat:=24
abbrev ac5:Nat:=25
abbrev ab0:Nat:=26
abbrev M_:Nat:=27
abbrev YU:Nat:=28
abbrev YS:Nat:=29
abbrev at_:Nat:=30
abbrev YR:Nat:=31
abbrev ZN:Nat:=32
abbrev ad6:Nat:=33
abbrev Zq:Nat:=34
abbrev ab3:Nat:=35
abbrev ab8:Nat:=36
abbrev ab9:Nat:=37
abbrev ab2:Nat:=38
abbrev Zv:Nat:=39
abbrev Zu:Nat:=40
abbrev Z0:Nat:=41
abbrev aa3:Nat:=42
end P
noncomputable def Wy:List (Nat×String):=[(1,"bool"),(4,"u1"),(7,"i4"),(8,"u4"),(12,"o"),(13,"t"),(16,"v"),(17,"a"),(18,"b"),(19,"i"),(20,"e"),(21,"f"),(22,"s"),(23,"g"),(24,"h"),(25,"?i4"),(26,"?u1"),(27,"?e"),(28,"?s"),(29,"?h"),(30,"a[]"),(31,"b[]"),(32,"o[]"),(33,"i4[]"),(34,"u4[]")]
def UP:Nat->List (Nat×String)->String
 | _,[]=>""
 | k,p::r=>match Nat.beq p.1 k with
  | true=>p.2
  | false=>UP k r
def aM(k:Nat):V:=.str (Str.ofString (UP k Wy))
def KN:List Nat:=[1,4,7,8,12,13,16,17,18,19,20,21,22,23,24,25,26,27,28,29,30,31,32,33,34]
noncomputable def ma:List Nat:=[17,18,13,30,31,33,34,32,7,20,21,22,24,8,4,1]
def az(k:Nat):Nat:=match Nat.ble 25 k with
 | true=>match Nat.ble k 29 with
  | true=>cP [7,4,20,22,24] (k - 25)
  | false=>k
 | false=>k
noncomputable def PK:List (Nat×Nat):=[(18,17),(18,19),(17,19),(22,19),(22,16),(20,16),(7,16),(33,34),(34,33),(31,30),(30,32),(31,32),(13,19),(24,16)]
def lA(a b:Nat):List (Nat×Nat)->Nat->Option Nat
 | [],_=>.none
 | p::r,j=>match bb (Nat.beq p.1 a) (Nat.beq p.2 b) with
  | true=>some j
  | false=>lA a b r (j+1)
def jT(ex k:Nat):Bool:=match Nat.beq ex (az k) with
 | true=>true
 | false=>Nat.beq (az k) 12
def cr(β:Nat->Bool)(ex k:Nat):Bool:=match lA ex (az k) PK 0 with
 | some j=>β j
 | .none=>jT ex k
def pa(ex k:Nat)(run:PC->Bool->Bool):Bool:=match lA ex (az k) PK 0 with
 | some j=>bb (run [(j,true)] true) (run [(j,false)] false)
 | .none=>run [] (jT ex k)
def lT{σ:Sg}{ex k:Nat}{run:PC->Bool->Bool}(h:pa ex k run=true):∃pc,vl σ pc/\run pc (cr σ.β ex k)=true:=by
 unfold pa at h
 unfold cr
 split at h
 ·rename_i j e
  rw[al] at h
  try dsimp only
  rcases hb:σ.β j with _|_
  ·exact⟨_,vl.cons (pc:=[]) (λp hp=>by cases hp) hb,h.2⟩
  ·exact⟨_,vl.cons (pc:=[]) (λp hp=>by cases hp) hb,h.1⟩
 ·exact⟨[],λp hp=>by(cases hp),h⟩
def jv(keep:List Nat):Nat->Hp->Hp
 | _,[]=>[]
 | j,o::r=>(match bt j keep with|true=>o|false=>.gone)::jv keep (j+1) r
def oO:Nat->Nat->Hp
 | 0,_=>[]
 | n+1,j=>.gone::oO n (j+1)
def Rh(ns:List Nat):Nat->List (Nat×V)->List (Nat×V)
 | _,[]=>[]
 | n,p::r=>(match bt p.1 ns with|true=>(p.1,.pat n)|false=>p)::Rh ns (n+1) r
def UT(j:Nat)(ns:List Nat)(o:AO):AO:=match o with
 | .inst C l=>.inst C (Rh ns (64 * j) l)
 | o=>o
def Rg(j:Nat)(ns:List Nat)(H:Hp):Hp:=match bh H j with
 | some o=>bW j (UT j ns o) H
 | .none=>H
noncomputable def dM:V:=.sym (.at 20)
def vE:V:=.sym (.at 24)
def KQ:AO:=match bh Hc P.YU with
 | some (.inst C l)=>.inst C (put (cc "fresh") (.sym (.at 37)) (put (cc "made") (.sym (.at 36)) (put (cc "top") (.sym (.at 35)) l)))
 | _=>.gone
def Vx:List (Nat×AO):=[(P.z_,.v_ 11 []),(P.Zg,.v_ 12 []),(P.Z0,.v_ 13 []),(P.P_,.v_ 14 []),(P.YV,.v_ 15 []),(P.YS,.v_ 16 []),(P.at_,.di [] (some 10)),(P.YU,KQ)]
def Hd(v:Nat)(th:Nat):Hp:=iU ((P.y_,.t_ v)::(P.l_,.v_ th [])::Vx) Hc
def Yo:List Nat:=[cc "steps",cc "nested"]
def VC(H:Hp):Hp:=Rg P.I_ Yo H
def LC:Hp:=jv [P.w_,P.z_,P.O_] 0 (Hd 4 10)
def Ym(ex:Nat):FT:={rng:=[(20,some 1,.none)],len:=[],lf:=[(11,.at 20,aM ex)],df:=[]}
def IG(ex k:Nat):Bool:=pa ex k λpc y=>dk (tx (Ym ex) aE 2 1647) pc [] ⟨[],[],[],[]⟩ LC [] [.ref 0,dM,aM k] (.bool y)
def qk(num kind:V)(slots:List V)(sp:V):V:=.fin 470 [(cc "number",num),(cc "kind",kind),(cc "slots",.fls slots),(cc "text",.none),(cc "rows",.fls []),(cc "version",.int 0),(cc "special",sp)]
def vT:V:=.fin 498 [(cc "kinds",.tup [iN 17])]
def vP(kind:V)(slots:V):V:=.fin 1121 [(cc "addr",vE),(cc "kind",kind),(cc "slots",slots),(cc "gen",.any),(cc "size",.any),(cc "serial",.any)]
def Pj:Hp:=VC (jv [P.I_,P.y_,P.l_,P.YI] 0 (Hd 4 10))
def yy(sp:Bool)(ex:Nat):V:=match sp with
 | true=>.fin 470 [(cc "number",dM),(cc "kind",.int (-1)),(cc "slots",.any),(cc "text",.any),(cc "rows",.any),(cc "version",.any),(cc "special",vT)]
 | false=>.fin 470 [(cc "number",dM),(cc "kind",iN ex),(cc "slots",.any),(cc "text",.any),(cc "rows",.any),(cc "version",.any),(cc "special",.none)]
def Yl(sp:Bool)(ex:Nat):FT:={rng:=[(20,some 1,.none)],len:=[],lf:=[(10,.at 20,yy sp ex)],df:=[]}
def mZ:List (Addr×FS):=[(196,mI fB (ud uj)),(210,mI fB (ud Rz)),(217,mI fB (ud KC)),(224,mI fB (ud Ie))]
def rS(sp:Bool)(ex k:Nat):Bool:=pa ex k λpc y=>dk (tx (Yl sp ex) (eD mZ) 5 866) pc [] ⟨[],[],[],[]⟩ Pj [] [.ref P.I_,dM,iN k] (.bool y)
def LB:Hp:=Rg P.m_ [cc "thrown"] (jv [P.m_,P.YU,P.at_,P.YR] 0 (Hd 6 10))++oO 5 43
def Yk(ex:Nat):FT:={rng:=[(20,some 1,.none),(24,some 16,.none)],len:=[],lf:=[],df:=[(10,.at 24,some (vP (iN ex) .any))]}
def QV(ex k:Nat):Bool:=pa ex k λpc y=>dk (tx (Yk ex) aE 3 1502) pc [] ⟨[],[],[],[]⟩ LB [] [.ref P.m_,.tup [iN 4,vE],iN k] (.bool y)
def sK(f:Nat->Nat->Bool):Bool:=aB (λex=>aB (f ex) KN) ma
noncomputable def s_(n:Nat):V:=.sym (.at n)
def eW(k:Nat):V:=match k with
 | 22=>.tup [s_ 26,s_ 27,.tup [s_ 28,s_ 29]]
 | 24=>.tup [s_ 26]
 | _=>s_ 26
def am(k:Nat):Bool:=bt k [12,13,16,17,18,19,30,31,32,33,34]
def bM(k:Nat):Bool:=match Nat.ble 25 k with
 | true=>Nat.ble k 29
 | false=>false
noncomputable def mM(k:Nat):V:=match k with
 | 22=>.tup [.int 0,.int 0,.tup [.int 0,.int 0]]
 | 24=>.tup [.int 0]
 | 25=>.tup [.int 0,.int 0]
 | 26=>.tup [.int 0,.int 0]
 | 27=>.tup [.int 0,.int 0]
 | 28=>.tup [.int 0,.tup [.int 0,.int 0,.tup [.int 0,.int 0]]]
 | 29=>.tup [.int 0,.tup [.int 0]]
 | _=>.int 0
inductive Kd where
 | nul
 | no
 | yes
def Kd.b:Kd->Bool
 | .yes=>true
 | _=>false
def cp:Kd->V
 | .nul=>.int 0
 | _=>dM
def QP(z:Kd)(k:Nat):Bool:=match z with
 | .yes=>(am k).not
 | _=>false
noncomputable def pK:List (Nat×Option Int×Option Int):=[(7,some 4,some 8),(8,some 4,some 8),(20,some 1,.none),(24,some 16,.none),(10,some 0,some 3000),(14,some 1,.none)]
def Dz:List (Nat×SE×V):=[(14,.at 20,dM),(15,.at 20,vE),(15,.lit 0,.int 0),(14,.lit 0,.int 0),(14,.at 27,s_ 27)]
def WE(k:Nat):List (Nat×SE×V):=[(11,.at 20,aM (az k)),(12,.at 20,eW (az k)),(10,.at 20,.fin 470 [(cc "number",dM),(cc "kind",iN (az k)),(cc "slots",.fls [eW (az k)]),(cc "text",.any),(cc "rows",.any),(cc "version",.any),(cc "special",.none)])]
def UR(z:Kd)(k:Nat):List (Nat×SE×V):=match QP z k with
 | true=>Dz++WE k
 | false=>Dz
def Sk(z:Kd)(k:Nat)(om:List (Nat×V)):FT:={rng:=pK,len:=[(7,.at 14)],lf:=UR z k,df:=[(1,.lit 0,.none)],om:=om}
def eV:V:=.tup [iN 90,s_ 30,.b_ 21]
def eY:V:=.b_ 22
def kL:V:=s_ 40
def PA:V:=s_ 44
def pD:V:=.b_ 40
def vo(v:Nat):Hp:=jv [P.w_,P.m_,P.K_,P.y_] 0 (bW P.y_ (.t_ v) (Hd 4 0))
def Ub:Hp:=VC (jv [P.I_,P.y_,P.l_] 0 (Hd 4 0))
def pU:Hp:=VC (jv [P.I_,P.y_,P.M_,P.V_,P.Y3,P.Y2,P.aa2,P.aa1,P.Z_,P.aa0] 0 (Hd 4 10))
def Bh(v:Nat)(n:V)(r:V):mc:=⟨[n,.tup [s_ 5],.tup [s_ 6]],r,some (v,v)⟩
def Gm(z:Kd)(nm k ka:V)(df:Option V)(by_:V)(ref:Bool):List (Addr×FS):=[
 (238,mI fB [Bh 4 (s_ 30) (s_ 21),Bh 4 (s_ 32) k,Bh 6 (s_ 34) ka]),
 (1668,bg (vo 2) [⟨[.ref 0,nm,by_],s_ 32,[(P.y_,.t_ 4)]⟩]),
 (1675,bg (vo 4) [⟨[.ref 0,nm,by_],s_ 34,[(P.y_,.t_ 6)]⟩]),
 (1038,bg Ub [⟨[.ref P.I_,s_ 21,.b_ 21],cp z,[(P.l_,.v_ 10 [])]⟩])]++(match z with
 | .nul=>[]
 | z=>[(1647,bg LC [⟨[.ref 0,dM,nm],.bool z.b,[]⟩]),
  (866,bg Pj [⟨[.ref P.I_,dM,k],.bool z.b,[]⟩]),
  (1502,bg LB [⟨[.ref P.m_,.tup [iN 4,vE],ka],.bool z.b,[]⟩])])++(match df with
 | some d=>[(1005,bg pU [⟨[.ref P.I_,k],d,[]⟩])]
 | .none=>[])++(match ref with
 | true=>[(1605,bg [] [⟨[nm],.bool true,[]⟩]),(224,mI fB [⟨[k],.bool false,.none⟩])]
 | false=>[])++mZ
def GL:List (SE×SE):=[(.add (.at 10) (.lit 1),.at 39)]
def WY(H:Hp):AO:=match bh H P.I_ with
 | some (.inst C l)=>.inst C (put (cc "steps") (s_ 39) l)
 | _=>.gone
def nL(k:V):V:=.fin 388 [(cc "lid",s_ 14),(cc "name",.str (Str.ofString "v")),(cc "kind",k),(cc "flags",.int 0),(cc "owner",.int 1),(cc "arg",.int (-1)),(cc "block",.int 0)]
def VL:List (Nat×AO):=[(P.I_,WY Hc),(P.y_,.t_ 6),(P.l_,.v_ 10 [])]
def PG:Hp:=jv [P.w_,P.z_,P.Zg,P.P_,P.YV,P.K_,P.R_,P.I_,P.m_,P.y_,P.af1,P.ZQ,P.f_,P.Y3,P.Y2,P.aa2,P.aa1,P.Z_,P.aa0,P.ac8,P.ZK,P.l_,P.ac5,P.ab0,P.ad6,P.Zq,P.ab3,P.ab2,P.Zv,
 P.O_,P.YI,P.M_,P.V_,P.YU,P.at_,P.YR] 0 (Hd 2 0)
def Vg(ft:FT)(ov:List (Addr×FS))(z:Kd)(nm k by_:V)(named:Bool):Bool:=match named with
 | true=>dk (tx ft (eD ov) 12 1696) [] [43] ⟨[(7,17,[nL k])],[(1,11,[(.at 14,.any)])],[],GL⟩ PG ((P.ZQ,.di [] (some 11))::(P.ZK,.v_ 17 [])::VL) [.ref 0,eV,cp z,nm,by_,.bool true] (.bool true)
 | false=>dk (tx ft (eD ov) 12 1696) [] [] ⟨[],[],[],GL⟩ (PG++oO 2 43) VL [.ref 0,eV,cp z,nm,by_,.bool false] (.bool true)
def V4(ft:FT)(ov:List (Addr×FS))(z:Kd)(nm by_:V):Bool:=dk (tx ft (eD ov) 12 1703) [] [] ⟨[],[],[],GL⟩ (PG++oO 2 43) VL [.ref 0,eV,cp z,nm,by_] (.bool true)
def fA:List (Nat×V):=match bh Hc P.K_ with
 | some (.ds l)=>l
 | _=>[]
def PD:FT:={rng:=pK,len:=[(7,.at 14)],lf:=Dz,df:=[(1,.lit 0,.none)],sf:=[(40,fA,kL)]}
def WK(z:Kd)(named:Bool):Bool:=Vg PD (Gm z pD kL PA .none eY z.b) z pD kL eY named
def Yx(z:Kd):Bool:=V4 PD (Gm z pD kL PA (some (.int 0)) eY true) z pD eY
def WL(k ka:Nat)(om:List (Nat×V))(named:Bool):Bool:=Vg (Sk .yes k om) (Gm .yes (aM k) (iN k) (iN ka) .none eY false) .yes (aM k) (iN k) eY named
def Yy(z:Kd)(k ka:Nat):Bool:=V4 (Sk z k []) (Gm z (aM k) (iN k) (iN ka) (some (mM k)) eY false) z (aM k) eY
def UH:Nat->List (List (Nat×V))
 | 20=>[[(13,aM 7)],[(13,aM 4)],[(13,aM 8)]]
 | 21=>[[(14,aM 7)],[(14,aM 8)],[(14,aM 4)]]
 | _=>[[]]
def zu:List Kd:=[.nul,.no,.yes]
def ZJ(k:Nat):List Nat:=match bM k with
 | true=>match Nat.beq k 25 with
  | true=>[az k,k]
  | false=>match Nat.beq k 27 with
   | true=>[az k,k]
   | false=>[az k]
 | false=>[k]
def zx:List Nat:=[1,4,7,8,20,21,22,24,25,26,27,28,29]
def Ve(k:Nat):Bool:=aB (λka=>aB (λom=>bb (WL k ka om true) (WL k ka om false)) (UH k)) (ZJ k)
def V3(k:Nat):Bool:=aB (λz=>aB (λka=>Yy z k ka) (ZJ k)) zu
def Se:FT:={rng:=[(20,some 1,.none),(7,some 4,some 8),(8,some 4,some 8)],len:=[(0,.at 20)],lf:=[],df:=[]}
def Be(k:Nat):V:=qk dM (iN k) [eW k] .none
def Ei:FT:={rng:=[(20,some 1,.none),(7,some 4,some 8),(8,some 4,some 8)],len:=[],lf:=[],df:=[]}
def Jy(ft:FT)(ov:List (Addr×FS))(js:List Nat)(q:List V)(kh src r:V):Bool:=dk (tx ft (eD ov) 6 1038) [] js ⟨[(0,10,q)],[],[],[]⟩ Ub [(P.l_,.v_ 10 [])] [.ref P.I_,kh,src] r
def VU:Bool:=Jy Ei ((224,mI fB [⟨[s_ 21],.bool false,.none⟩])::mZ) [] [] (s_ 21) (.b_ 21) (.b_ 21)
def VT(k:Nat):Bool:=Jy Se mZ [43,45,44] [Be k] (iN k) (eW k) dM
def VV(k:Nat):Bool:=Jy Se mZ [43,45,44] [Be (az k)] (iN k) (.tup [.int 1,eW (az k)]) dM
def VW(k:Nat):Bool:=Jy Ei mZ [] [] (iN k) (.tup [.int 0,.any]) (.int 0)
def TH:List Nat:=[1,4,7,8,20,21,22,24]
def x8:List Nat:=[25,26,27,28,29]
def dI(k:Nat):Str:=Str.ofString (UP k Wy)
def Z5(k oc:Nat):List (Nat×Str×Bool):=match oc with
 | 0=>[(11,dI k,true)]
 | 1=>[(11,dI k,false),(12,dI k,true)]
 | 2=>[(11,dI k,false),(12,dI k,false),(15,dI k,true)]
 | 3=>[(11,dI k,false),(12,dI k,false),(15,dI k,false),(16,dI k,true)]
 | _=>[(11,dI k,false),(12,dI k,false),(15,dI k,false),(16,dI k,false)]
def WS(oe:List (Nat×Str×Bool)):FT:={rng:=[],len:=[],lf:=[],df:=[],ac:=some (122,[cc "put"]),oe:=oe,ca:=[(true,Str.ofString "?",12,15),(false,Str.ofString "[]",11,16)]}
noncomputable def Ko(v oc:Nat):List (Nat×Nat):=match oc with
 | 0=>[(v,0)]
 | 1=>[(v,1)]
 | 2=>[(v,1),(v+1,2)]
 | 3=>[(v,0),(v+1,3)]
 | _=>[]
def tI(v k oc:Nat):V:=match oc with
 | 0=>s_ (60+v)
 | 1=>s_ (60+v)
 | 2=>s_ (61+v)
 | 3=>s_ (61+v)
 | _=>iN k
noncomputable def Su(v oc:Nat):xw:=match oc with
 | 0=>⟨[],[],[(v+1,v+2)],[]⟩
 | 1=>⟨[],[],[(v+1,v+2)],[]⟩
 | 2=>⟨[],[],[],[]⟩
 | 3=>⟨[],[],[],[]⟩
 | _=>⟨[],[],[(v,v+2)],[]⟩
def X1(v oc:Nat):List (Addr×FS):=[(119,mI fB ((Ko v oc).map λp=>QI p.1 p.2))]
def j6(f v k:Nat)(oe:List (Nat×Str×Bool))(ka oc:Nat)(b:Bool):Bool:=
 dk (tx (WS oe) (eD (X1 v oc)) 4 f) [] [] (Su v oc) (vo v) [(P.y_,.t_ (v+2))] [.ref 0,aM k,.bool b] (tI v ka oc)
def MK(k:Nat):List Nat:=4::((match bt k [17,7,22,12,34,19,27] with|true=>[0]|false=>[])++(match bt k [20,25,18,22,7,31,21] with|true=>[1]|false=>[]) ++
 (match bt k [25,27,28] with|true=>[2]|false=>[])++(match bt k [30,32,33] with|true=>[3]|false=>[]))
def nK(v k:Nat):Bool:=bb (j6 1668 v k [] k 4 false) (aB (λoc=>j6 1668 v k (Z5 k oc) k oc true) (MK k))
def zc(v k:Nat):Bool:=match bM k with
 | false=>bb (j6 1675 v k [] k 4 false) (aB (λoc=>j6 1675 v k (Z5 k oc) k oc true) (MK k))
 | true=>bb (j6 1675 v k [] (az k) 4 false) (bb (aB (λoc=>j6 1675 v k ((11,dI k,false)::(12,dI k,false)::Z5 (az k) oc) (az k) oc true) (MK (az k)))
  (match Nat.beq k 25 with
   | true=>j6 1675 v k (Z5 k 1) k 1 true
   | false=>match Nat.beq k 27 with
    | true=>j6 1675 v k (Z5 k 0) k 0 true
    | false=>true))
def D3(k:Nat):V:=match bM k with
 | true=>.tup [s_ 51,eW (az k)]
 | false=>eW k
def TQ(k:Nat):V:=match bM k with
 | true=>.tup [.int 1,eW (az k)]
 | false=>eW k
def AL:V:=.b_ 25
def WU:FT:={rng:=[(20,some 1,.none)],len:=[],lf:=[(4,.at 20,dM),(4,.lit 0,.int 0)],df:=[]}
def Sl:FT:={rng:=[],len:=[],lf:=[(4,.at 27,s_ 27)],df:=[]}
def J1:Hp:=jv [P.w_,P.P_,P.m_,P.K_,P.y_] 0 Hc
def HD(nm:V)(ref:Bool):List (Addr×FS):=(1668,bg (vo 0) [⟨[.ref 0,nm,AL],s_ 30,[(P.y_,.t_ 2)]⟩])::(match ref with
 | true=>[(1605,bg [] [⟨[nm],.bool true,[]⟩])]
 | false=>[])
def Iy(k:Nat):Bool:=dk (tx Sl (eD (HD (aM k) false)) 6 1689) [] [] ⟨[],[],[],[]⟩ J1 [(P.y_,.t_ 2)] [.ref 0,aM k,D3 k,AL] (.tup [iN 90,s_ 30,D3 k])
def rZ(iv:V):Bool:=dk (tx WU (eD (HD (.b_ 23) true)) 6 1689) [] [] ⟨[],[],[],[]⟩ J1 [(P.y_,.t_ 2)] [.ref 0,.b_ 23,iv,AL] (.tup [iN 90,s_ 30,iv])
def Bj:Hp:=jv [P.w_,P.z_,P.Zg,P.Z0,P.P_,P.YV,P.K_,P.R_,P.I_,P.m_,P.y_,P.l_,P.YU,P.YS,P.at_,P.ZN,P.ab8,P.ab9] 0 (bW P.y_ (.t_ 2) Hc)
def WR(hi:Bool):FT:={rng:=[(20,some 10,some 900),(26,(match hi with|true=>some 2147483648|false=>some (-2147483648)),(match hi with|true=>some 4294967295|false=>some 2147483647)),(7,some 4,some 8),(8,some 4,some 8)],len:=[(1,.at 20),(0,.at 20)],lf:=[(5,.at 27,s_ 58)],df:=[]}
def tY(hi:Bool):V:=match hi with
 | true=>.sym (.add (.at 26) (.lit (-4294967296)))
 | false=>s_ 26
def iK(hi:Bool)(k:Nat):V:=match k with
 | 22=>.tup [iN 5,iN 22,.tup [.tup [iN 1,s_ 26],.tup [iN 4,s_ 58],.tup [iN 5,iN 26,.tup [.tup [iN 1,s_ 28],.tup [iN 1,s_ 29]]]]]
 | 24=>.tup [iN 5,iN 24,.tup [.tup [iN 1,tY hi]]]
 | _=>.tup [iN 1,tY hi]
def lx(hi:Bool)(k:Nat):V:=.fin 1121 [(cc "addr",s_ 15),(cc "kind",iN k),(cc "slots",.fls [iK hi k]),(cc "gen",.int 0),(cc "size",.int 3),(cc "serial",.sym (.add (.at 16) (.lit 1)))]
def hV:List (Nat×AO):=[(P.z_,.v_ 11 []),(P.Zg,.v_ 12 []),(P.Z0,.v_ 13 []),(P.P_,.v_ 14 []),(P.YV,.v_ 15 []),(P.YS,.v_ 16 []),(P.at_,.di [] (some 10)),(P.YU,KQ)]
def VM(hi:Bool)(k:Nat):xw:=⟨[(1,11,[aM k]),(2,12,[eW k]),(3,13,[.none]),(4,14,[dM]),(5,15,[s_ 15]),(6,16,[lx hi k])],[(0,10,[(.at 15,lx hi k)])],[],[(.add (.at 15) (.lit 3),.at 35),(.add (.at 16) (.lit 1),.at 36),(.add (.at 17) (.lit 3),.at 37)]⟩
noncomputable def SL:xw:=⟨[(1,11,[]),(2,12,[]),(3,13,[]),(4,14,[]),(5,15,[]),(6,16,[])],[(0,10,[])],[],[(.at 15,.at 35),(.at 16,.at 36),(.at 17,.at 37)]⟩
def OX(js:List Nat)(hi:Bool)(k:Nat):Bool:=dk (tx (WR hi) (eD mZ) 8 1661) [] js (VM hi (az k)) Bj hV [.ref 0,aM k,TQ k] (.sym (.add (.at 20) (.lit 0)))
def Zo(k:Nat):Bool:=dk (tx jo aE 8 1661) [] [] SL Bj hV [.ref 0,aM k,.tup [.int 0,.any]] (.int 0)
def w5(iv:V):Bool:=dk (tx jo (eD [(1605,bg [] [⟨[.b_ 23],.bool true,[]⟩])]) 8 1661) [] [] SL Bj hV [.ref 0,.b_ 23,iv] iv
def lP(k:Nat):List Bool:=match bt (az k) [8,20,21,24] with
 | true=>[false,true]
 | false=>[false]
noncomputable def lQ:List V:=[.int 0,.int 1,.int (-1),.int 7,.int 127,.int 128,.int 255,.int 256,.int 32767,.int 65535,.int 2147483647,.int 2147483648,.int 4294967295,.int 300,.int (-300),.int (-2147483648)]
def TY(z:SE):SE:=.mod z (.lit 16)
def zL:SE:=.at 52
noncomputable def jN:Nat->Int×Int
 | 1=>(0,2)
 | 4=>(0,256)
 | 7=>(-2147483648,4294967296)
 | _=>(0,4294967296)
def oZ(k:Nat)(e:SE):SE:=lY (.lit (jN k).1) (.mod (lY e (.lit (-(jN k).1))) (.lit (jN k).2))
def Tv:Hp:=jv [P.w_,P.z_,P.R_] 0 Hc
def Gi(k:Nat):SE:=match bM k with
 | true=>.fdiv zL (.lit 2)
 | false=>zL
def Vq(k:Nat)(om:List (Nat×V)):FT:={rng:=[],len:=[(1,.at 19)],lf:=[],df:=[],om:=om,pk:=[(TY (Gi k),lQ,s_ 50),(TY (.fdiv (.fdiv (Gi k) (.lit 5)) (.lit 2)),lQ,s_ 53)],fm:=[(0,.fdiv (Gi k) (.lit 3),.at 19,.at 27)]}
def HA(om:Nat)(k:Nat):Nat:=match k with
 | 20=>om
 | 21=>om
 | k=>k
def BM(om:Nat)(k:Nat)(z:SE):V:=match k with
 | 22=>.tup [.sym (oZ 7 (.at 50)),s_ 27,.tup [.sym (.mod (.fdiv z (.lit 5)) (.lit 2)),.sym (oZ 4 (.at 53))]]
 | 24=>.tup [.sym (oZ 8 (.at 50))]
 | k=>.sym (oZ (HA om k) (.at 50))
def BN(om:Nat)(k:Nat):V:=match bM k with
 | true=>.tup [.sym (.mod zL (.lit 2)),BM om (az k) (.fdiv zL (.lit 2))]
 | false=>BM om k zL
def QT(om k:Nat):List (Nat×V):=match az k with
 | 20=>[(13,aM om)]
 | 21=>[(14,aM om)]
 | _=>[]
def MH(k:Nat):List Nat:=match az k with
 | 20=>[7,4,8]
 | 21=>[7,4,8]
 | _=>[7]
def LP(k om:Nat):Bool:=dk (tx (Vq k (QT om k)) aE 8 1619) [] [] ⟨[],[],[],[]⟩ Tv [] [.ref 0,aM k,.sym zL] (BN om k)
def JZ(fam:Nat):Hp:=jv [P.w_,P.z_] 0 (bW P.z_ (.v_ fam []) Hc)
noncomputable def TT(fam:Nat)(old:Bool):FT:={rng:=[(55,some 0,some 2),(19,some 11,some 900)],len:=[(fam,.at 19)],lf:=[],df:=[],ef:=[(.mod (.at 42) (.lit 4),(match old with|true=>.lit 3|false=>.at 55))],fm:=[(0,.fdiv (.at 42) (.lit 4),.add (.at 19) (.lit (-10)),.at 54)]}
def vZ(old:Bool):V:=match old with
 | true=>.sym (.mod (.fdiv (.at 42) (.lit 4)) (.lit 10))
 | false=>.sym (.add (.lit 10) (.at 54))
def Cy(fam:Nat)(old:Bool):Bool:=dk (tx (TT fam old) aE 3 1724) [] [] ⟨[],[],[],[]⟩ (JZ fam) [] [.ref 0,s_ 42] (vZ old)
noncomputable def yL:SE:=.at 43
def zA:SE:=.fdiv yL (.lit 4)
def kD:List V:=[7,20,8,21,22,23,24,25,27,28,26,29,12,17,18,19,16,13,30,31,32,33,34,4,1].map aM
def mw(fam:Nat):Hp:=jv [P.w_,P.z_,P.R_,P.K_] 0 (bW P.z_ (.v_ fam []) Hc)
def yT(c c3:Nat):List (SE×SE):=match c with
 | 4=>[]
 | 2=>[(.mod yL (.lit 4),.lit 2),(.mod zA (.lit 3),.lit (.ofNat c3))]
 | c=>[(.mod yL (.lit 4),.lit (.ofNat c))]
def ya(c:Nat):List (SE×List V×V):=match c with
 | 4=>[(.mod zA (.lit 25),kD,.b_ 45)]
 | 3=>[(.mod zA (.lit 25),kD,.b_ 45)]
 | _=>[]
def yw(fam c:Nat)(ex:V):List (Nat×SE×V):=match c with
 | 4=>[(fam,.lit 0,ex)]
 | _=>[(fam,.at 20,ex)]
def yK(fam:Nat)(ex:V)(c c3:Nat):FT:={rng:=[(20,some 1,.none)],len:=[],lf:=yw fam c ex,df:=[],ef:=yT c c3,pk:=ya c}
def FY(fam:Nat)(iv ex:V)(c c3:Nat)(r:V):Bool:=dk (tx (yK fam ex c c3) aE 4 1731) [] [] ⟨[],[],[],[]⟩ (mw fam) [] [.ref 0,iv,.sym yL] r
noncomputable def w7(k:Nat):Nat:=match k with
 | 7=>20|20=>21|21=>20|8=>7|4=>1|1=>4|22=>19|23=>24|24=>23|17=>18|18=>17|13=>19|30=>32|31=>30|32=>30|33=>34|34=>33
 | _=>0
noncomputable def QH(k:Nat):Option Nat:=match k with
 | 7=>some 25|4=>some 26|20=>some 27|22=>some 28|24=>some 29
 | _=>.none
def AY(ex:Nat)(c c3:Nat):V:=match c with
 | 3=>.b_ 45
 | 1=>match QH ex with
  | some q=>aM q
  | .none=>aM ex
 | 2=>match c3 with
  | 1=>match ex with
   | 20=>.b_ 13
   | 21=>.b_ 14
   | ex=>aM (w7 ex)
  | 2=>aM 16
  | _=>aM (w7 ex)
 | _=>aM ex
def FZ(fam:Nat):Bool:=bb (FY fam (.int 0) (.str (Str.ofString "")) 4 0 (.b_ 45)) (aB (λex=>aB (λc=>aB (λc3=>FY fam dM (aM ex) c c3 (AY ex c c3)) [0,1,2]) [0,1,2,3]) ma)
def HC(a b:FS):FS:=λvs Y k=>Bool.rec (b vs Y k) true (a vs Y k)
def kz{c:Cx}{kx:Nat->Sy->Bool}{n:Nat}{f:Addr}{a b:FS}(ha:ah kx c n f a)(hb:ah kx c n f b):ah kx c n f (HC a b):=λx A p m Y s vs us k R hr hA h S hv hR hE=>by
 have h:Bool.rec (b vs Y k) true (a vs Y k)=true:=h
 rcases e:a vs Y k with _|_
 ·rw[e] at h;exact hb x A p m Y s vs us k R hr hA h S hv hR hE
 ·exact ha x A p m Y s vs us k R hr hA e S hv hR hE
noncomputable def w9:Nat->SE
 | 0=>.at 9
 | 1=>.add (.at 9) (.lit 1)
 | 2=>.add (.at 9) (.lit 2)
 | _=>.at 38
def A9(e:SE):AO:=match bh Hc P.w_ with
 | some (.ds l)=>.ds (put (cc "at") (.sym e) l)
 | _=>.gone
def T8(j:Nat):Hp:=jv [P.w_,P.aa3] 0 (bW P.w_ (A9 (w9 j)) Hc)
def vj(j:Nat):FS:=bg (T8 j) [⟨[.ref 0],s_ (41+j),[(P.w_,A9 (w9 (j+1)))]⟩]
def JQ:FS:=HC (vj 0) (HC (vj 1) (vj 2))
inductive Nv where
 | r1
 | r2
 | v1
 | v2
 | v3
def kC:Nv->V
 | .r1=>.b_ 48
 | .r2=>.str (Str.ofString "o")
 | .v1=>.b_ 49
 | .v2=>.b_ 49
 | .v3=>.b_ 12
def Nv.Y5:Nv->Bool
 | .r1=>true
 | .r2=>true
 | _=>false
def iL:V:=s_ 59
def dU(n:Nv):V:=match n.Y5 with
 | true=>iL
 | false=>.b_ 24
noncomputable def oL:SE:=.at 41
def xL:SE:=.at 42
def uL:SE:=.fdiv oL (.lit 6)
def tK:List V:=[aM 12,aM 17,aM 19,aM 16,.b_ 11,.b_ 12]
def tf:List V:=[7,20,22,8,21,25,27,28,24,26,1,29].map aM
def Wp:SE:=.mod (.fdiv uL (.lit 4)) (.lit 4)
def Ul:SE:=.mod (.fdiv xL (.lit 12)) (.lit 3)
def Xf:SE:=.add (.fdiv xL (.lit 36)) (.fdiv yL (.lit 4))
def W0:Nv->List (SE×SE)
 | .v1=>[(Ul,.at 56)]
 | .v2=>[(Ul,.lit 2)]
 | .v3=>[(Ul,.lit 2)]
 | _=>[]
def Wo:Bool->SE
 | true=>.lit 3
 | false=>.at 57
def Wt:List (SE×List V×V):=[(.mod (.fdiv xL (.lit 2)) (.lit 6),tK,.b_ 48),(.mod xL (.lit 12),tf,.b_ 49),(.mod yL (.lit 2),[.b_ 11,.b_ 12],.b_ 47)]
def W1:List (SE×SE×Nat):=[(.mod uL (.lit 2),.lit 1,22),(.mod (.fdiv uL (.lit 2)) (.lit 2),.lit 1,25),(.mod (.fdiv uL (.lit 16)) (.lit 2),.lit 0,46)]
def Of(c:Int)(a_:Bool)(n:Nv)(om:List (Nat×V)):FT:={rng:=[(56,some 0,some 1),(57,some 0,some 2)],len:=[],lf:=[],df:=[],om:=om,ef:=(.mod oL (.lit 6),.lit c)::(Wp,Wo a_)::(Xf,.at 52)::W0 n,cb:=W1,pk:=Wt}
def jH(a_:Bool):V:=match a_ with
 | true=>.b_ 47
 | false=>.b_ 45
noncomputable def Hf:Nv->List sT
 | .r1=>[⟨[.b_ 48],.bool true,[]⟩]
 | .r2=>[⟨[.b_ 48],.bool false,[]⟩]
 | .v2=>[⟨[.b_ 12],.bool true,[]⟩]
 | .v3=>[⟨[.b_ 12],.bool false,[]⟩]
 | .v1=>[]
def CV(a b:FS):FS:=λvs Y k=>bb (a vs Y k) (b vs Y k)
def CU{c:Cx}{kx:Nat->Sy->Bool}{n:Nat}{f:Addr}{a b:FS}(h:ah kx c n f a\/ah kx c n f b):ah kx c n f (CV a b):=λx A p m Y s vs us k R hr hA h' S hv hR hE=>ag h' λe e'=>h.elim (λh=>h x A p m Y s vs us k R hr hA e S hv hR hE) λh=>h x A p m Y s vs us k R hr hA e' S hv hR hE
def N_(n:Nv)(more:List sT):FS:=match n.Y5 with
 | true=>bg [] (more++Hf n)
 | false=>HC (bg [] (more++Hf n)) (CV (bg [] [⟨[.b_ 48],.bool true,[]⟩]) (bg [] [⟨[.b_ 48],.bool false,[]⟩]))
def VK(named:Bool):List (Nat×AO):=(match named with
 | true=>[(P.ZQ,.di [] (some 11)),(P.ZK,.v_ 17 [])]
 | false=>[])++[(P.I_,WY Hc),(P.y_,.t_ 6),(P.l_,.v_ 10 [])]
def v8:Bool->Hp
 | true=>[]
 | false=>oO 2 43
def L5(n:Nv):List (Addr×FS):=[
 (1598,JQ),
 (1689,bg J1 [⟨[.ref 0,kC n,dU n,AL],eV,[(P.y_,.t_ 2)]⟩]),
 (1661,bg Bj [⟨[.ref 0,kC n,dU n],iL,hV⟩]),
 (1731,bg (mw 11) [⟨[.ref 0,iL,.sym yL],.b_ 45,[]⟩])]++(match n.Y5 with
 | true=>[(1724,bg (JZ 1) [⟨[.ref 0,.sym xL],iL,[]⟩])]
 | false=>[(1619,bg Tv [⟨[.ref 0,kC n,s_ 52],.b_ 24,[]⟩])])
def jC(named:Bool)(iv aim by_ Z6:V):FS:=bg (PG++v8 named) [⟨[.ref 0,eV,iv,aim,by_,Z6],.bool true,VK named⟩]
def ja(iv aim by_:V):FS:=bg (PG++v8 false) [⟨[.ref 0,eV,iv,aim,by_],.bool true,VK false⟩]
def Ax(named:Bool):List (Nat×AO):=(P.w_,A9 (.at 38))::(VK named++hV)
def K4:xw:=⟨[],[],[],[]⟩
def H9(H:Hp):Hp:=bW P.w_ (A9 (.at 9)) H
def OA(c:Int)(a_:Bool)(n:Nv)(named:Bool):Bool:=
 dk (tx (Of c a_ n []) (eD ((1696,jC named iL (jH a_) eY (.b_ 46))::(1605,N_ n [])::L5 n)) 4 1738) [] [] K4 (H9 Hc++v8 named) (Ax named) [.ref 0] (.bool true)
def I6(c:Int)(a_:Bool)(n:Nv):Bool:=
 dk (tx (Of c a_ n []) (eD ((1703,ja iL (jH a_) eY)::(1605,N_ n [⟨[jH a_],.bool true,[]⟩])::L5 n)) 4 1738) [] [] K4 (H9 Hc++v8 false) (Ax false) [.ref 0] (.bool true)
def gA(k:Nat):Nat:=match bM k with
 | true=>k
 | false=>match QH k with
  | some q=>q
  | .none=>12
def JU:Bool->Nat
 | true=>47
 | false=>45
def I7(c:Int)(a_:Bool)(n:Nv)(k:Nat):Bool:=
 dk (tx (Of c a_ n [(JU a_,aM k)]) (eD ((1703,ja iL (aM (gA k)) eY)::(1605,N_ n [⟨[aM k],.bool false,[]⟩])::L5 n)) 4 1738) [] [] K4 (H9 Hc++v8 false) (Ax false) [.ref 0] (.bool true)
def eG:List Nat:=[1,4,7,8,20,21,22,23,24,25,26,27,28,29]
def Ga:Hp:=jv [P.w_,P.z_,P.Zg,P.P_,P.YV,P.K_,P.R_,P.I_,P.m_,P.y_,P.af1,P.f_,P.Y3,P.Y2,P.aa2,P.aa1,P.Z_,P.aa0,P.l_,P.ad6,P.Zq,P.ab3,P.ab2,P.Zv,P.O_,P.YI,P.YU,P.at_,P.YR,P.Zu,P.V_,P.M_] 0 (Hd 4 10)++oO 3 43
def Oe:FT:={rng:=[],len:=[],lf:=[],df:=[],ef:=[(.mod oL (.lit 6),.lit 5)],cb:=W1}
def iA(iv aim by_:V):FS:=bg Ga [⟨[.ref 0,iv,aim,by_],.bool true,[(P.y_,.t_ 6)]⟩]
def Ey:Bool:=
 dk (tx Oe (eD [(1598,JQ),(1724,bg (JZ 11) [⟨[.ref 0,.sym xL],iL,[]⟩]),(1731,bg (mw 11) [⟨[.ref 0,iL,.sym yL],.b_ 45,[]⟩]),(1717,iA iL (.b_ 45) eY)]) 4 1738) [] [] K4 (H9 (Hd 4 10)++oO 3 43) [(P.w_,A9 (.at 38)),(P.y_,.t_ 6)] [.ref 0] (.bool true)
def i7:List V:=[0,0,2,10,1,4,10,1,5,3,2,4,7,31].map λk=>iN k
def US(j:Nat):Nat->List (Nat×SE×V)
 | 0=>[(9,w9 j,s_ (41+j))]
 | _=>[]
def UE(j:Nat):Nat->List (SE×List V×V)
 | 1=>[(w9 j,i7,s_ (41+j))]
 | _=>[]
def Vv(j:Nat):Nat->List (Nat×SE×SE×SE)
 | 2=>[(1,.lit 5,w9 j,.at (71+j))]
 | _=>[]
def Sj(j cs:Nat)(lo hi l h:Int):FT:={rng:=[(9,some lo,some hi),(18,some l,some h)],len:=[(9,.at 18)],lf:=US j cs,df:=[],pk:=UE j cs,fm:=Vv j cs}
def T4(j:Nat):xw:=⟨[],[],[],match j with|2=>[(.add (.at 9) (.lit 3),.at 38)]|_=>[]⟩
def r5(j:Nat):V:=.sym (.add (.at (71+j)) (.lit 3))
def G9(j:Nat):Nat->V
 | 2=>r5 j
 | _=>s_ (41+j)
def sJ(j cs:Nat)(lo hi l h:Int):Bool:=dk (tx (Sj j cs lo hi l h) aE 3 1598) [] [] (T4 j) (T8 j) [(P.w_,A9 (w9 (j+1)))] [.ref 0] (G9 j cs)
def Lx(j c:Nat):Bool:=bb (match Nat.ble (c+j+1) 40 with
 | true=>sJ j 0 (.ofNat c) (.ofNat c) (.ofNat (c+j+1)) 40
 | false=>true) (match Nat.ble (c+j+1) 14 with
 | true=>sJ j 1 (.ofNat c) (.ofNat c) 0 (.ofNat (c+j))
 | false=>sJ j 2 (.ofNat c) (.ofNat c) 0 (.ofNat (c+j)))
def FP(j:Nat):Bool:=bb (aB (Lx j) (cz 40 0)) (sJ j 2 40 1000 0 40)
def vp:Hp:=jv [P.w_,P.P_,P.K_,P.I_,P.y_,P.l_,P.Y3,P.Y2,P.aa2,P.aa1,P.Z_,P.aa0,P.V_,P.M_,P.YI,P.Zu] 0 (Hd 4 10)
def CT(z:Kd)(nm k:V)(d:Int)(got:V)(ref:Bool):List (Addr×FS):=[
 (1710,bg vp [⟨[.ref 0,nm,cp z],.tup [.int d,got],[]⟩])]++(match ref with
 | true=>[(1668,bg (vo 4) [⟨[.ref 0,nm,eY],s_ 34,[(P.y_,.t_ 6)]⟩]),
  (238,mI fB [Bh 6 (s_ 34) k])]++(match z with
  | .nul=>[]
  | z=>[(1647,bg LC [⟨[.ref 0,dM,nm],.bool z.b,[]⟩]),(1502,bg LB [⟨[.ref P.m_,.tup [iN 4,vE],k],.bool z.b,[]⟩])])++[(1605,bg [] [⟨[nm],.bool true,[]⟩])]
 | false=>[])++mZ
def SP(z:Kd):Bool:=dk (tx {rng:=pK,len:=[],lf:=Dz,df:=[]} (eD (CT z pD kL (match z with| .no=>23|_=>0) (match z with| .nul=>.int 0| .yes=>dM| .no=>.none) true)) 12 1717) [] [] ⟨[],[],[],[]⟩ Ga [(P.y_,.t_ 6)] [.ref 0,cp z,pD,eY] (.bool true)
def QM(uE uF k:Nat):Nat:=match k with
 | 20=>uE
 | 21=>uF
 | k=>k
def lR(uE uF ex k:Nat):Option V:=match bM k with
 | true=>match Nat.beq ex (az k) with
  | true=>some (.tup [.int 1,eW ex])
  | false=>.none
 | false=>match am ex with
  | true=>.none
  | false=>match Nat.beq (QM uE uF ex) (QM uE uF k) with
   | true=>some (eW ex)
   | false=>.none
def Rf(ex:Nat):List (Nat×SE×V):=(11,.at 20,aM ex)::(match am ex with
 | true=>[]
 | false=>[(12,.at 20,eW ex)])
def Pw(uE uF ex k:Nat):List (Nat×V):=(match bt 20 [ex,k] with
 | true=>[(13,aM uE)]
 | false=>[])++(match bt 21 [ex,k] with
 | true=>[(14,aM uF)]
 | false=>[])
def K5(uE uF ex k:Nat):Bool:=dk (tx {rng:=pK,len:=[],lf:=Dz++Rf ex,df:=[],om:=Pw uE uF ex k} (eD (CT .no (aM k) (iN k) (match lR uE uF ex k with|some _=>0| .none=>23) (match lR uE uF ex k with|some v=>v| .none=>.none) false)) 12 1717) [] [] ⟨[],[],[(4,6)],[]⟩ Ga [(P.y_,.t_ 6)] [.ref 0,dM,aM k,eY] (.bool true)
def SO(k:Nat):Bool:=dk (tx {rng:=pK,len:=[],lf:=Dz,df:=[]} (eD (CT .nul (aM k) (iN k) (match bM k with|true=>0|false=>21) (match bM k with|true=>mM k|false=>.none) false)) 12 1717) [] [] ⟨[],[],[(4,6)],[]⟩ Ga [(P.y_,.t_ 6)] [.ref 0,.int 0,aM k,eY] (.bool true)
def eJ(uE uF ex k:Nat):Nat×Nat:=((match bt 20 [ex,k] with|true=>uE|false=>7),(match bt 21 [ex,k] with|true=>uF|false=>7))
def qK(ex k:Nat):List (Nat×Nat):=match bt 20 [ex,k] with
 | true=>match bt 21 [ex,k] with
  | true=>[(7,7),(7,4),(7,8),(4,7),(4,4),(4,8),(8,7),(8,4),(8,8)]
  | false=>[(7,7),(4,7),(8,7)]
 | false=>match bt 21 [ex,k] with
  | true=>[(7,7),(7,4),(7,8)]
  | false=>[(7,7)]
def OL(ex k:Nat):Bool:=aB (λp:Nat×Nat=>K5 p.1 p.2 ex k) (qK ex k)
def SM(ft:FT)(rx:Nat->Sy->Bool):gx:={cfg ft with rx:=rx}
def Jc(ft:FT)(ov:Addr->Option FS)(m:Nat):gx:={cfg ft with tr:=λrx=>uK (SM ft rx) src ov m}
def P9(ft:FT)(ov:Addr->Option FS)(m:Nat)(f:Addr):FS:=Option.rec (λ_ _ _=>false) (λsp=>sp) (uK (Jc ft ov m) src ov 2 f)
def Od:FT:={rng:=pK,len:=[],lf:=[],df:=[]}
def SG(k:Nat):Bool:=dk (tx Od (eD mZ) 12 1005) [] [] i8 pU [] [.ref P.I_,iN k] (mM k)
def ED:Addr×FS:=(182,mI fB [I9 21 35,I9 23 36])
def Kr(z:Kd):List (Addr×FS):=[(224,mI fB [⟨[kL],.bool false,.none⟩])]++(match z with
 | .nul=>[]
 | z=>[(866,bg Pj [⟨[.ref P.I_,dM,kL],.bool z.b,[]⟩])])++(ED::mZ)
def LU(z:Kd):Bool:=dk (P9 PD (eD (Kr z)) 12 1710) [] [] i8 vp [] [.ref 0,pD,cp z] (.tup [.int (match z with| .no=>23|_=>0),match z with| .nul=>.int 0| .yes=>dM| .no=>.none])
def Kq(k:Nat):List (Addr×FS):=(match bM k with
 | true=>[(1005,bg pU [⟨[.ref P.I_,iN k],mM k,[]⟩])]
 | false=>[])++(ED::mZ)
def Sf(lf:List (Nat×SE×V))(ef:List (SE×SE)):FT:={rng:=pK,len:=[],lf:=Dz++lf,df:=[],ef:=ef}
def LT(k:Nat):Bool:=dk (P9 (Sf [] []) (eD (Kq k)) 12 1710) [] [] i8 vp [] [.ref 0,aM k,.int 0] (.tup [.int (match bM k with|true=>0|false=>21),match bM k with|true=>mM k|false=>.none])
def um(sp:Bool)(ex:Nat):V:=match sp with
 | true=>.fin 470 [(cc "number",dM),(cc "kind",.int (-1)),(cc "slots",.any),(cc "text",.any),(cc "rows",.any),(cc "version",.any),(cc "special",vT)]
 | false=>.fin 470 [(cc "number",dM),(cc "kind",iN ex),(cc "slots",match am ex with|true=>.any|false=>.fls [eW ex]),(cc "text",.any),(cc "rows",.any),(cc "version",.any),(cc "special",.none)]
def PE(uE uF ex k:Nat):List (SE×SE):=(match bt 20 [ex,k] with
 | true=>[(.at 7,.lit (.ofNat uE))]
 | false=>[])++(match bt 21 [ex,k] with
 | true=>[(.at 8,.lit (.ofNat uF))]
 | false=>[])
def gF(sp:Bool)(uE uF ex k:Nat):Bool:=dk (P9 (Sf [(10,.at 20,um sp ex)] (PE uE uF ex (az k))) (eD (ED::mZ)) 12 1710) [] [] i8 vp [] [.ref 0,aM k,dM] (.tup [.int (match lR uE uF ex k with|some _=>0| .none=>23),match lR uE uF ex k with|some v=>v| .none=>.none])
def Oy:aB SG x8=true:=by kernel_rfl
def vM:aB LU [.nul,.no,.yes]=true:=by kernel_rfl
def vL:aB LT eG=true:=by kernel_rfl
noncomputable def nN(ex:Nat):Bool:=aB (λk=>aB (λp:Nat×Nat=>gF false p.1 p.2 ex k) (qK ex (az k))) eG
def Xv:aB nN [17,18,13,30]=true:=by kernel_rfl
def Xu:aB nN [31,33,34,32]=true:=by kernel_rfl
def Xs:aB nN [7,20,21,22]=true:=by kernel_rfl
def Xr:aB nN [24,8,4,1]=true:=by kernel_rfl
def vO:aB nN ma=true:=by
 have h:=lc _ _ (lc _ _ Xv Xu) (lc _ _ Xs Xr)
 exact h
def zC:aB (λk=>aB (λp:Nat×Nat=>gF true p.1 p.2 17 k) (qK 17 (az k))) eG=true:=by kernel_rfl
def D9:sK IG=true:=by kernel_rfl
def DQ:sK (rS false)=true:=by kernel_rfl
def Ik:aB (rS true 17) KN=true:=by kernel_rfl
def MJ:sK QV=true:=by kernel_rfl
variable{c bj:Cx}{p q:Pt}{kx:Nat->Sy->Bool}{n:Nat}
structure At(σ:Sg)(g:Nat)(i:Int)(v:V):Prop where
 lo:0<=i
 at_:∃u,(σ.γ g)[i.toNat]? =some u/\ak σ u v
def At.lf{σ:Sg}{g n:Nat}{v:V}(h:At σ g (σ.ν n) v):jX σ (g,.at n,v):=⟨h.lo,h.at_⟩
def At.lfl{σ:Sg}{g:Nat}{i:Int}{v:V}(h:At σ g i v):jX σ (g,.lit i,v):=⟨h.lo,h.at_⟩
def yI(G:bJ c){ex k:Nat}(hex:ex∈ma)(hk:k∈KN)(h20:1<=c.σ.ν 20)(hx:At c.σ 11 (c.σ.ν 20) (aM ex)){nm:V}(k_:ak c.σ nm (aM k)):
  ah kx c 4 1647 (bg LC [⟨[.ref 0,dM,nm],.bool (cr c.σ.β ex k),[]⟩]):=by
 refine a8 (af ?_)
 have run:=ai (ai D9 ex hex) k hk
 refine aH (lT (σ:=c.σ) run) λpc ZE run=>?_
 exact⟨_,pc,_,_,_,_,cy (m:=2) G (aI.four G (af (fy h20)) ae (af hx.lf) ae),
  ax.cons (ak.refl _) (ax.cons (ak.refl _) (ax.one k_)),ak.refl _,ZE,aV,run⟩
def dW(G:bJ c){es}(T:iP c bj es):∀p∈mZ,ah kx c 6 p.1 p.2/\wu p.1=true:=
 aa ⟨rB G T z5,rfl⟩ (aa ⟨rB G T DM,rfl⟩ (aa ⟨rB G T z6,rfl⟩ (af ⟨rB G T oE,rfl⟩)))
def yD(G:bJ c){es}(T:iP c bj es){ex k:Nat}{sp:Bool}(hex:ex∈ma)(hsp:sp=true->ex=17)(hk:k∈KN)(h20:1<=c.σ.ν 20)(hx:At c.σ 10 (c.σ.ν 20) (yy sp ex)){kv:V}(H_:ak c.σ kv (iN k)):
  ah kx c 16 866 (bg Pj [⟨[.ref P.I_,dM,kv],.bool (cr c.σ.β ex k),[]⟩]):=by
 refine a8 (af ?_)
 have run:rS sp ex k=true:=by
  rcases sp with _|_
  ·exact ai (ai DQ ex hex) k hk
  ·rw[hsp rfl];exact ai Ik k hk
 refine aH (lT (σ:=c.σ) run) λpc ZE run=>?_
 exact⟨_,pc,_,_,_,_,dB (n:=6) (m:=5) G (aI.four G (af (fy h20)) ae (af hx.lf) ae) (bQ G _ (dW G T)),
  ax.cons (ak.refl _) (ax.cons (ak.refl _) (ax.one H_)),ak.refl _,ZE,aV,run⟩
def Tz(σ:Sg)(g:Nat)(i:Int)(v:V):Prop:=∃u,σ.δ g i=some u/\ak σ u v
def Tz.df{σ:Sg}{g n:Nat}{v:V}(h:Tz σ g (σ.ν n) v):Po σ (g,.at n,some v):=h.elim λu h=>.inr ⟨u,v,rfl,h.1,h.2⟩
def Ks(G:bJ c){ex k:Nat}(hex:ex∈ma)(hk:k∈KN)(h20:1<=c.σ.ν 20)(h24:16<=c.σ.ν 24)(hx:Tz c.σ 10 (c.σ.ν 24) (vP (iN ex) .any)){kv:V}(H_:ak c.σ kv (iN k)):
  ah kx c 6 1502 (bg LB [⟨[.ref P.m_,.tup [iN 4,vE],kv],.bool (cr c.σ.β ex k),[]⟩]):=by
 refine a8 (af ?_)
 have run:=ai (ai MJ ex hex) k hk
 refine aH (lT (σ:=c.σ) run) λpc ZE run=>?_
 exact⟨_,pc,_,_,_,_,cy (m:=3) G (aI.four G (aa (fy h20) (af (fy h24))) ae ae (af hx.df)),
  ax.cons (ak.refl _) (ax.cons (ak.refl _) (ax.one H_)),ak.refl _,ZE,aV,run⟩
def Gv:aB (nK 2) KN=true:=by kernel_rfl
def JC:aB (zc 4) KN=true:=by kernel_rfl
def Gw:aB (nK 0) KN=true:=by kernel_rfl
def Gu:aB (nK 4) KN=true:=by kernel_rfl
def TL:List Nat:=[17,7,22,12,34,19,27]
def ML:List Nat:=[20,25,18,22,7,31,21]
structure Wd(σ:Sg)(T M uE uF:Nat):Prop where
 hT:T∈TL
 hM:M∈ML
 hE:uE∈[7,4,8]
 hF:uF∈[7,4,8]
 w11:σ.ω 11=aM T
 w12:σ.ω 12=aM M
 w13:σ.ω 13=aM uE
 w14:σ.ω 14=aM uF
 w15:σ.ω 15=.str (Str.ofString "?" ++dI M)
 w16:σ.ω 16=.str (dI T++Str.ofString "[]")
 n7:σ.ν 7=.ofNat uE
 n8:σ.ν 8=.ofNat uF
def il(T M k:Nat):Nat:=match kX (dI k) (dI T) with
 | true=>0
 | false=>match kX (dI k) (dI M) with
  | true=>1
  | false=>match kX (dI k) (Str.ofString "?" ++dI M) with
   | true=>2
   | false=>match kX (dI k) (dI T++Str.ofString "[]") with
    | true=>3
    | false=>4
def DB(x:Str):Bool:=bb (PyData.canLay0 (.str x)) (Nat.ble x.length 100)
def tT:Bool:=bb (aB (λT=>aB (λM=>aB (λk=>bt (il T M k) (MK k)) KN) ML) TL) (bb (aB (λk=>DB (dI k)) KN) (bb (aB (λk=>DB (Str.ofString "?" ++dI k)) KN) (aB (λk=>DB (dI k++Str.ofString "[]")) KN)))
def rb:tT=true:=by kernel_rfl
def oy{T:Nat}(h:T∈TL):T∈KN:=by
 rcases(by simpa [TL] using h:T=17\/T=7\/T=22\/T=12\/T=34\/T=19\/T=27) with rfl|rfl|rfl|rfl|rfl|rfl|rfl <;> decide
def lD{T:Nat}(h:T∈ML):T∈KN:=by
 rcases(by simpa [ML] using h:T=20\/T=25\/T=18\/T=22\/T=7\/T=31\/T=21) with rfl|rfl|rfl|rfl|rfl|rfl|rfl <;> decide
def wb{T M k:Nat}(hT:T∈TL)(hM:M∈ML)(hk:k∈KN):il T M k∈MK k:=by
 have:=rb
 unfold tT at this
 rw[al] at this
 exact kF (ai (ai (ai this.1 T hT) M hM) k hk)
def wk{x:Str}(h:DB x=true):PyData.canLay0 (.str x)=true/\x.length<=100:=by
 unfold DB at h
 rw[al] at h
 exact⟨h.1,fu h.2⟩
def iY{k:Nat}(hk:k∈KN):PyData.canLay0 (.str (dI k))=true/\(dI k).length<=100:=by
 have:=rb
 unfold tT at this
 rw[al,al,al] at this
 exact wk (ai this.2.1 k hk)
def Rk{k:Nat}(hk:k∈KN):PyData.canLay0 (.str (Str.ofString "?" ++dI k))=true:=by
 have:=rb
 unfold tT at this
 rw[al,al,al] at this
 exact(wk (ai this.2.2.1 k hk)).1
def Rl{k:Nat}(hk:k∈KN):PyData.canLay0 (.str (dI k++Str.ofString "[]"))=true:=by
 have:=rb
 unfold tT at this
 rw[al,al,al] at this
 exact(wk (ai this.2.2.2 k hk)).1
def vm(σ:Sg)(p:Nat×Str×Bool):Prop:=∃t:Str,σ.ω p.1=.str t/\PyData.canLay0 (.str t)=true/\PyData.canLay0 (.str p.2.1)=true/\decide (p.2.1=t)=p.2.2
def ym{σ:Sg}{n:Nat}{s t:Str}{b:Bool}(h:σ.ω n=.str t)(h1:PyData.canLay0 (.str t)=true)(h2:PyData.canLay0 (.str s)=true)(hb:kX s t=b):vm σ (n,s,b):=by
 refine⟨t,h,h1,h2,?_⟩
 show decide (s=t)=b
 by_cases e:s=t
 ·rw[<-hb,dn.mpr e];simp[e]
 ·have:kX s t=false:=by induction q:kX s t using bC with|false=>rfl|true=>exact absurd (dn.mp q) e
  rw[<-hb,this];simp[e]
variable{T M uE uF:Nat}
def Wd.Zb(W:Wd c.σ T M uE uF){k:Nat}(hk:k∈KN){b:Bool}(hb:kX (dI k) (dI T)=b):vm c.σ (11,dI k,b):=ym W.w11 (iY (oy W.hT)).1 (iY hk).1 hb
def Wd.ZA(W:Wd c.σ T M uE uF){k:Nat}(hk:k∈KN){b:Bool}(hb:kX (dI k) (dI M)=b):vm c.σ (12,dI k,b):=ym W.w12 (iY (lD W.hM)).1 (iY hk).1 hb
theorem Wd.Z5(W:Wd c.σ T M uE uF){k:Nat}(hk:k∈KN):∀p∈Z5 k (il T M k),vm c.σ p:=by
 have o15 {b:Bool} (hb:kX (dI k) (Str.ofString "?" ++dI M)=b):vm c.σ (15,dI k,b):=ym W.w15 (Rk (lD W.hM)) (iY hk).1 hb
 have o16 {b:Bool} (hb:kX (dI k) (dI T++Str.ofString "[]")=b):vm c.σ (16,dI k,b):=ym W.w16 (Rl (oy W.hT)) (iY hk).1 hb
 unfold il
 split
 ·rename_i h;exact af (W.Zb hk h)
 ·rename_i h0
  split
  ·rename_i h;exact aa (W.Zb hk h0) (af (W.ZA hk h))
  ·rename_i h1
   split
   ·rename_i h;exact aa (W.Zb hk h0) (aa (W.ZA hk h1) (af (o15 h)))
   ·rename_i h2
    split
    ·rename_i h;exact aa (W.Zb hk h0) (aa (W.ZA hk h1) (aa (o15 h2) (af (o16 h))))
    ·rename_i h;exact aa (W.Zb hk h0) (aa (W.ZA hk h1) (aa (o15 h2) (af (o16 h))))
def Rq{es:Nat->List Nat}(Tt:iP c bj es){i:Nat}{ρ:Ro}{I:fh}{k:Nat}{x:fh}(h:c.σ.π i ρ I k x):∃a d es n rest,ρ[k]? =some (a,d)/\x=(a,instObj 122 d)::(d,dictOf es n)::rest/\∀y:Str,code y∈[cc "put"]->getL y es=some none:=by
 refine Gs ((Tt.O.π i _ _ _ _).mp h) λ Zw p₀ h1 h2 h3 h4=>?_
 refine eC (h4 λ_ _=>False) λx1 y e J_ _=>?_;obtain⟨a,d,e1,Zk,n,e2,e3⟩:=J_
 rw[show p₀=(a,d) from j1 (h2.symm.trans e1)] at h1
 refine⟨a,d,Zk,n,y,h1,by rw[e,e3];rfl,λy hy=>(RA.look (x:=y) _ e2).2 ?_⟩
 rw[List.mem_singleton.mp hy]
 decide +kernel
def sM(σ:Sg)(es:Nat->List Nat)(v oc:Nat):Prop:=match oc with
 | 0=>es (v+1)=ins 0 (es v)/\σ.ν (60+v)=.ofNat (dm 0 (es (v+1)))/\es (v+2)=es (v+1)
 | 1=>es (v+1)=ins 1 (es v)/\σ.ν (60+v)=.ofNat (dm 1 (es (v+1)))/\es (v+2)=es (v+1)
 | 2=>es (v+1)=ins 1 (es v)/\σ.ν (60+v)=.ofNat (dm 1 (es (v+1)))/\es (v+2)=ins 2 (es (v+1))/\σ.ν (61+v)=.ofNat (dm 2 (es (v+2)))
 | 3=>es (v+1)=ins 0 (es v)/\σ.ν (60+v)=.ofNat (dm 0 (es (v+1)))/\es (v+2)=ins 3 (es (v+1))/\σ.ν (61+v)=.ofNat (dm 3 (es (v+2)))
 | _=>es (v+2)=es v
def rg{x:Nat}{l:List Nat}(h:x∈l):bt x l=true:=by
 induction l with
 | nil=>cases h
 | cons d r ih=>
  show(Bool.rec (bt x r) true (Nat.beq x d):Bool)=true
  rcases e:Nat.beq x d with _|_
  ·exact(dL.mp h).elim (λq=>by rw[q,mz] at e;exact bF e) ih
  ·rfl
def yq{x:Nat}{es:List Nat}:bt x (ins x es)=true:=by
 unfold ins
 rcases e:bt x es with _|_
 ·exact rg (j0 _ (.head _))
 ·exact e
def Hn{es:Nat->List Nat}{v oc:Nat}(h:sM c.σ es v oc):∀p∈Ko v oc,p.2∈[0,1,2,3]/\es (p.1+1)=ins p.2 (es p.1)/\sz p.2 (es p.1)=true/\c.σ.ν (60+p.1)=.ofNat (dm p.2 (es (p.1+1)))/\(2<=p.2->c.σ.ν (59+p.1)=.ofNat (Hq p.2 (es p.1))):=by
 match oc,h with
 | 0,h=>exact af ⟨by simp,h.1,rfl,h.2.1,λe=>absurd e (by dsimp only;lia)⟩
 | 1,h=>exact af ⟨by simp,h.1,rfl,h.2.1,λe=>absurd e (by dsimp only;lia)⟩
 | 2,h=>
  refine aa ⟨by simp,h.1,rfl,h.2.1,λe=>absurd e (by dsimp only;lia)⟩ (af ⟨by simp,h.2.2.1,?_,?_,λ_=>?_⟩)
  ·show bt 1 (es (v+1))=true;rw[h.1];exact yq
  ·show c.σ.ν (60+(v+1))=_;rw[show 60+(v+1)=61+v by lia];exact h.2.2.2
  ·show c.σ.ν (59+(v+1))=_;rw[show 59+(v+1)=60+v by lia];exact h.2.1
 | 3,h=>
  refine aa ⟨by simp,h.1,rfl,h.2.1,λe=>absurd e (by dsimp only;lia)⟩ (af ⟨by simp,h.2.2.1,?_,?_,λ_=>?_⟩)
  ·show bt 0 (es (v+1))=true;rw[h.1];exact yq
  ·show c.σ.ν (60+(v+1))=_;rw[show 60+(v+1)=61+v by lia];exact h.2.2.2
  ·show c.σ.ν (59+(v+1))=_;rw[show 59+(v+1)=60+v by lia];exact h.2.1
 | n+4,h=>exact ae
def IZ{es:Nat->List Nat}(Tt:iP c bj es){v oc:Nat}(h:sM c.σ es v oc):gm c.σ (Su v oc):=by
 have hp {i j:Nat} (e:es i=es j):c.σ.π i=c.σ.π j:=by
  funext ρ I k x
  exact propext ((Tt.O.π i ρ I k x).trans ((show gD bj (gp (es i)) ρ I k x↔gD bj (gp (es j)) ρ I k x by rw[e]).trans (Tt.O.π j ρ I k x).symm))
 match oc,h with
 | 0,h=>exact⟨ae,ae,af (hp h.2.2.symm),ae⟩
 | 1,h=>exact⟨ae,ae,af (hp h.2.2.symm),ae⟩
 | 2,h=>exact aV
 | 3,h=>exact aV
 | n+4,h=>exact⟨ae,ae,af (hp h.symm),ae⟩
def Ob(G:bJ c)(W:Wd c.σ T M uE uF){es:Nat->List Nat}(Tt:iP c bj es){oe:List (Nat×Str×Bool)}(ho:∀p∈oe,vm c.σ p)(hac:∀i ρ I k x,c.σ.π i ρ I k x->∃a d es n rest,ρ[k]? =some (a,d)/\x=(a,instObj 122 d)::(d,dictOf es n)::rest/\∀y:Str,code y∈[cc "put"]->getL y es=some none):aI c.σ (WS oe) where
 rng:=ae
 len:=ae
 lf:=ae
 df:=ae
 pk:=ae
 pkz:=ae
 sf:=ae
 fm:=ae
 ef:=ae
 om:=ae
 ac C ns h:=by refine bS (fI (oI h)) λX_ YO=>?_;obtain rfl:=X_;obtain rfl:=YO;exact hac
 oe:=ho
 ca:=by
  refine aa ⟨dI M,W.w12,?_,W.w15⟩ (af ⟨dI T,W.w11,?_,W.w16⟩)
  ·have:=(iY (lD W.hM)).2
   have h2:(Str.ofString "?").length=1:=by decide +kernel
   show(Str.ofString "?").length+_<=4000
   lia
  ·have:=(iY (oy W.hT)).2
   have h2:(Str.ofString "[]").length=2:=by decide +kernel
   show(Str.ofString "[]").length+_<=4000
   lia
 cb:=ae
 z:=G.z
 big:=G.big
def md(G:bJ c){es:Nat->List Nat}(Tt:iP c bj es)(W:Wd c.σ T M uE uF){f v k ka oc:Nat}{b:Bool}{oe:List (Nat×Str×Bool)}(run:j6 f v k oe ka oc b=true)(hw:sM c.σ es v oc)
  (ho:∀p∈oe,vm c.σ p) {nm by_ r:V} (k_:ak c.σ nm (aM k)) (A_:ak c.σ by_ (.bool b)) (hr:ak c.σ (tI v ka oc) r):
  ah kx c 24 f (bg (vo v) [⟨[.ref 0,nm,by_],r,[(P.y_,.t_ (v+2))]⟩]):=by
 refine a8 (af ?_)
 exact⟨_,[],_,_,_,_,dB (n:=16) (m:=4) G (Ob G W Tt ho (λi ρ I k x h=>Rq Tt h)) (bQ G _ (af ⟨My G Tt (Hn hw),rfl⟩)),
  ax.cons (ak.refl _) (ax.cons k_ (ax.one A_)),hr,ae,IZ Tt hw,run⟩
end
section
def FC:VU=true:=by kernel_rfl
def Fy:aB VT TH=true:=by kernel_rfl
def FD:aB VV x8=true:=by kernel_rfl
def FE:aB VW x8=true:=by kernel_rfl
variable{c bj:Cx}{p q:Pt}{kx:Nat->Sy->Bool}{n:Nat}
def iO(T M k:Nat)(b:Bool):Nat:=match b with
 | true=>il T M k
 | false=>4
def jM(G:bJ c){es:Nat->List Nat}(Tt:iP c bj es)(W:Wd c.σ T M uE uF){v k:Nat}{b:Bool}(all:aB (nK v) KN=true)(hk:k∈KN)(hw:sM c.σ es v (iO T M k b))
  {nm by_ r:V} (k_:ak c.σ nm (aM k)) (A_:ak c.σ by_ (.bool b)) (hr:ak c.σ (tI v k (iO T M k b)) r):
  ah kx c 24 1668 (bg (vo v) [⟨[.ref 0,nm,by_],r,[(P.y_,.t_ (v+2))]⟩]):=by
 have run:=ai all k hk
 unfold nK at run
 rw[al] at run
 rcases b with _|_
 ·exact md G Tt W run.1 hw ae k_ A_ hr
 ·exact md G Tt W (ai run.2 _ (wb W.hT W.hM hk)) hw (W.Z5 hk) k_ A_ hr
def gU(T M k:Nat)(b:Bool):Nat:=match bM k with
 | false=>k
 | true=>match b with
  | false=>az k
  | true=>match kX (dI k) (dI T) with
   | true=>k
   | false=>match kX (dI k) (dI M) with
    | true=>k
    | false=>az k
def XX:∀k∈KN,bM k=true->0∈MK k->k=27:=by decide +kernel
def XY:∀k∈KN,bM k=true->1∈MK k->k=25:=by decide +kernel
def Mx:∀k∈KN,az k∈KN:=by decide +kernel
def FJ(G:bJ c){es:Nat->List Nat}(Tt:iP c bj es)(W:Wd c.σ T M uE uF){k:Nat}{b:Bool}(hk:k∈KN)(hw:sM c.σ es 4 (iO T M (gU T M k b) b))
  {nm by_ r:V} (k_:ak c.σ nm (aM k)) (A_:ak c.σ by_ (.bool b)) (hr:ak c.σ (tI 4 (gU T M k b) (iO T M (gU T M k b) b)) r):
  ah kx c 24 1675 (bg (vo 4) [⟨[.ref 0,nm,by_],r,[(P.y_,.t_ 6)]⟩]):=by
 have run:=ai JC k hk
 have om:=wb W.hT W.hM hk
 unfold zc at run
 unfold gU at hw hr
 split at run
 ·rename_i hq
  rw[al] at run
  rw[hq] at hw hr
  dsimp only at hw hr
  rcases b with _|_
  ·exact md G Tt W run.1 hw ae k_ A_ hr
  ·exact md G Tt W (ai run.2 _ om) hw (W.Z5 hk) k_ A_ hr
 ·rename_i hq
  rw[al,al] at run
  refine nJ run λr1 r2 r3=>?_
  rw[hq] at hw hr
  dsimp only at hw hr
  rcases b with _|_
  ·exact md G Tt W r1 hw ae k_ A_ hr
  ·dsimp only at hw hr
   rcases e1:kX (dI k) (dI T) with _|_
   ·rw[e1] at hw hr
    dsimp only at hw hr
    rcases e2:kX (dI k) (dI M) with _|_
    ·rw[e2] at hw hr
     dsimp only at hw hr
     exact md G Tt W (ai r2 _ (wb W.hT W.hM (Mx k hk))) hw (aa (W.Zb hk e1) (aa (W.ZA hk e2) (W.Z5 (Mx k hk)))) k_ A_ hr
    ·rw[e2] at hw hr
     dsimp only at hw hr
     have e3:il T M k=1:=by unfold il;rw[e1,e2]
     rw[e3] at om
     obtain rfl:=XY k hk hq om
     have e4:iO T M 25 true=1:=e3
     rw[e4] at hw hr
     exact md G Tt W r3 hw (aa (W.Zb hk e1) (af (W.ZA hk e2))) k_ A_ hr
   ·rw[e1] at hw hr
    dsimp only at hw hr
    have e2:il T M k=0:=by unfold il;rw[e1]
    rw[e2] at om
    obtain rfl:=XX k hk hq om
    have e3:iO T M 27 true=0:=e2
    rw[e3] at hw hr
    exact md G Tt W r3 hw (af (W.Zb hk e1)) k_ A_ hr
inductive jf(σ:Sg):Nat->Kd->Prop
 | ref {kh z}:am kh=true->kh∈KN->σ.ν 21=.ofNat kh->(ak σ (.b_ 21) (cp z))->σ.γ 10=σ.γ 0->jf σ kh z
 | val {kh z}:kh∈TH->σ.ν 21=.ofNat kh->(ak σ (.b_ 21) (eW kh))->((σ.γ 0).length:Int)=σ.ν 20->σ.γ 10=σ.γ 0++[Be kh]->cp z=dM->jf σ kh z
 | que {kh z}:kh∈x8->σ.ν 21=.ofNat kh->(ak σ (.b_ 21) (.tup [.int 1,eW (az kh)]))->((σ.γ 0).length:Int)=σ.ν 20->σ.γ 10=σ.γ 0++[Be (az kh)]->cp z=dM->jf σ kh z
 | non {kh}:kh∈x8->σ.ν 21=.ofNat kh->(ak σ (.b_ 21) (.tup [.int 0,.any]))->σ.γ 10=σ.γ 0->jf σ kh .nul
def Wd.aa5(W:Wd c.σ T M uE uF):qD c.σ (7,some 4,some 8):=by
 have h:=W.hE
 have e:=W.n7
 rcases(by simpa using h:uE=7\/uE=4\/uE=8) with rfl|rfl|rfl <;> exact bI (by rw[e];decide) (by rw[e];decide)
def Wd.aa4(W:Wd c.σ T M uE uF):qD c.σ (8,some 4,some 8):=by
 have h:=W.hF
 have e:=W.n8
 rcases(by simpa using h:uF=7\/uF=4\/uF=8) with rfl|rfl|rfl <;> exact bI (by rw[e];decide) (by rw[e];decide)
def Ig{f:Addr}{res:Nat->V}(run:wn f res=true){l k:Nat}(hl:l∈[0,1,2,3,4])(hk:k < 38):Co (tx (Vr k) aE 3 f) [iN k] (res k) (T9 l)=true:=ai (ai run l hl) k ((cM 38).mpr ⟨by lia,by lia⟩)
def uc(G:bJ c){es}(Tt:iP c bj es){f:Addr}{res:Nat->V}(run:wn f res=true){k:Nat}(hk:k < 38){kv r:V}(H_:ak c.σ kv (iN k))(hr:ak c.σ (res k) r):ah kx c 6 f (mI fB [⟨[kv],r,.none⟩]):=
 on Tt.O (λi=>(ig (Tt.ok i)).1) (af λi _ _=>by
  refine Gk (ig (Tt.ok i)) λs1 s2 s3 s4=>?_
  refine aH (nS G (cy (m:=3) G (Ek G Tt hk)) (Ig run (rt (Tt.ok i)) hk) s3 s2) λcode hc h=>?_
  exact⟨code,[iN k],res k,_,_,hc,.one H_,hr,Tt.toG i,Tt.ofG i,h⟩)
def Kx:∀k∈KN,k < 38:=by decide +kernel
def Cw:∀k∈KN,am k=true->V.beq (Ie k) (.bool false)=true:=by decide +kernel
def x7(k:Nat)(h:k∈KN)(h':am k=true):Ie k=.bool false:=V.eq_of_beq _ (Cw k h h')
def OY(G:bJ c){es:Nat->List Nat}(Tt:iP c bj es)(W:Wd c.σ T M uE uF)(h20:1<=c.σ.ν 20){kh:Nat}{z:Kd}(D:jf c.σ kh z):
  ah kx c 18 1038 (bg Ub [⟨[.ref P.I_,s_ 21,.b_ 21],cp z,[(P.l_,.v_ 10 [])]⟩]):=by
 refine a8 (af ?_)
 have F0:aI c.σ Ei:=aI.four G (aa (fy h20) (aa (W.aa5) (af (W.aa4)))) ae ae ae
 have F1 (hl:((c.σ.γ 0).length:Int)=c.σ.ν 20):aI c.σ Se:=aI.four G (aa (fy h20) (aa (W.aa5) (af (W.aa4)))) (af hl) ae ae
 have cg {q:List V} (e:c.σ.γ 10=c.σ.γ 0++q):gm c.σ ⟨[(0,10,q)],[],[],[]⟩:=⟨af e,ae,ae,ae⟩
 have c21 {k:Nat} (e:c.σ.ν 21=.ofNat k):ak c.σ (s_ 21) (iN k):=aW e
 cases D with
 | ref h1 h2 h3 h4 h5=>
  exact⟨tx Ei (eD ((224,mI fB [⟨[s_ 21],.bool false,.none⟩])::mZ)) 6 1038,[],[.ref P.I_,s_ 21,.b_ 21],.b_ 21,[],⟨[(0,10,[])],[],[],[]⟩,dB (n:=6) (m:=6) G F0 (bQ G _ (aa ⟨uc G Tt oE (Kx _ h2) (c21 h3) (by rw[x7 _ h2 h1];exact ak.refl _),rfl⟩ (dW G Tt))),
   ax.refl _,h4,ae,cg (by rw[h5];simp),FC⟩
 | val h1 h2 h3 h4 h5 h6=>
  exact⟨tx Se (eD mZ) 6 1038,[],[.ref P.I_,iN kh,eW kh],dM,[43,45,44],⟨[(0,10,[Be kh])],[],[],[]⟩,dB (n:=6) (m:=6) G (F1 h4) (bQ G _ (dW G Tt)),
   ax.cons (ak.refl _) (ax.cons (c21 h2) (ax.one h3)),(by rw[h6];exact ak.refl _),ae,cg h5,ai Fy _ h1⟩
 | que h1 h2 h3 h4 h5 h6=>
  exact⟨tx Se (eD mZ) 6 1038,[],[.ref P.I_,iN kh,.tup [.int 1,eW (az kh)]],dM,[43,45,44],⟨[(0,10,[Be (az kh)])],[],[],[]⟩,dB (n:=6) (m:=6) G (F1 h4) (bQ G _ (dW G Tt)),
   ax.cons (ak.refl _) (ax.cons (c21 h2) (ax.one h3)),(by rw[h6];exact ak.refl _),ae,cg h5,ai FD _ h1⟩
 | non h1 h2 h3 h4=>
  exact⟨tx Ei (eD mZ) 6 1038,[],[.ref P.I_,iN kh,.tup [.int 0,.any]],.int 0,[],⟨[(0,10,[])],[],[],[]⟩,dB (n:=6) (m:=6) G F0 (bQ G _ (dW G Tt)),
   ax.cons (ak.refl _) (ax.cons (c21 h2) (ax.one h3)),ak.refl _,ae,cg (by rw[h4];simp),ai FE _ h1⟩
def Iq:aB (λz=>bb (WK z true) (WK z false)) zu=true:=by kernel_rfl
def JD:aB Yx zu=true:=by kernel_rfl
def Ir:aB Ve zx=true:=by kernel_rfl
def JE:aB V3 [25,26,27,28,29]=true:=by kernel_rfl
def pW(k:Nat):Bool:=dk (tx jo aE 2 1605) [] [] ⟨[],[],[],[]⟩ [] [] [aM k] (.bool (am k))
def nX:aB pW KN=true:=by kernel_rfl
def jh(G:bJ c){k:Nat}(hk:k∈KN){nm:V}(k_:ak c.σ nm (aM k)){b:Bool}(hb:am k=b):ah kx c 4 1605 (bg [] [⟨[nm],.bool b,[]⟩]):=by
 refine a8 (af ?_)
 exact⟨tx jo aE 2 1605,[],[aM k],.bool b,[],⟨[],[],[],[]⟩,cy (m:=2) G (cq G),ax.one k_,ak.refl _,ae,aV,by rw[<-hb];exact ai nX k hk⟩
structure dT(σ:Sg):Prop where
 h20:1<=σ.ν 20
 h24:16<=σ.ν 24
 h10:0<=σ.ν 10
 ae7:σ.ν 10<=3000
 h14:1<=σ.ν 14
 h39:σ.ν 39=σ.ν 10+1
 len7:((σ.γ 7).length:Int)=σ.ν 14
 i20:At σ 14 (σ.ν 20) dM
 a20:At σ 15 (σ.ν 20) vE
 a0:At σ 15 0 (.int 0)
 i0:At σ 14 0 (.int 0)
 i27:At σ 14 (σ.ν 27) (s_ 27)
 d1:σ.δ 1 0=.none
def dT.rng(t:dT c.σ)(W:Wd c.σ T M uE uF):∀p∈pK,qD c.σ p:=
 aa (W.aa5) (aa (W.aa4) (aa (fy t.h20) (aa (fy t.h24) (aa (bI t.h10 t.ae7) (af (fy t.h14))))))
def dT.len(t:dT c.σ):∀p∈[(7,SE.at 14)],((c.σ.γ p.1).length:Int)=p.2.ev c.σ.ν:=af (t.len7)
theorem dT.lf(t:dT c.σ):∀p∈Dz,jX c.σ p:=
 aa t.i20.lf (aa t.a20.lf (aa t.a0.lfl (aa t.i0.lfl (af t.i27.lf))))
def dT.df(t:dT c.σ):∀p∈[(1,SE.lit 0,(Option.none:Option V))],Po c.σ p:=af (.inl ⟨rfl,t.d1⟩)
structure A2(σ:Sg)(k:Nat):Prop where
 nm:At σ 11 (σ.ν 20) (aM (az k))
 held:At σ 12 (σ.ν 20) (eW (az k))
 item:At σ 10 (σ.ν 20) (.fin 470 [(cc "number",dM),(cc "kind",iN (az k)),(cc "slots",.fls [eW (az k)]),(cc "text",.any),(cc "rows",.any),(cc "version",.any),(cc "special",.none)])
theorem A2.lf{k:Nat}(o:A2 c.σ k):∀p∈WE k,jX c.σ p:=aa o.nm.lf (aa o.held.lf (af o.item.lf))
def El(G:bJ c)(t:dT c.σ)(W:Wd c.σ T M uE uF){z:Kd}{k:Nat}(o:QP z k=true->A2 c.σ k){om:List (Nat×V)}(hom:∀p∈om,c.σ.ω p.1=p.2/\p.1 < 1000):aI c.σ (Sk z k om) where
 rng:=t.rng W
 len:=t.len
 lf:=by
  show ∀p∈UR z k,jX c.σ p
  unfold UR
  split
  ·rename_i e;exact bw (t.lf) (o e).lf
  ·exact t.lf
 df:=t.df
 pk:=ae
 pkz:=ae
 sf:=ae
 fm:=ae
 ef:=ae
 om p hp:=(hom p hp).1
 ac C ns h:=by exact oN h
 oe:=ae
 ca:=ae
 cb:=ae
 z:=G.z
 big:=G.big
def Nq(k:Nat):Bool:=ob (lk (code (dI k)) fA) λv=>V.beq v (iN k)
def DI:aB Nq KN=true:=by kernel_rfl
def aL{σ:Sg}{n:Nat}{v:V}(h:σ.ω n=v):ak σ (.b_ n) v:=λc p u hc r=>by
 have r:RV c p (c.σ.ω n) u:=r.inv
 rw[hc,h] at r;exact r
def bO{σ:Sg}{n:Nat}{v:V}(h:σ.ω n=v):ak σ v (.b_ n):=λc p u hc r=>.b_ (by rw[hc,h];exact r)
def wy(G:bJ c)(t:dT c.σ)(W:Wd c.σ T M uE uF){k:Nat}(hk:k∈KN)(h40:c.σ.ω 40=aM k)(n40:c.σ.ν 40=.ofNat k):aI c.σ PD where
 rng:=t.rng W
 len:=t.len
 lf:=t.lf
 df:=t.df
 pk:=ae
 pkz:=ae
 sf:=af (ay (show ob (lk (code (dI k)) fA) (λv=>V.beq v (iN k))=true from ai DI k hk) λv hv e=>⟨dI k,v,h40,by rw[<-mi];exact hv,by rw[V.eq_of_beq _ e];exact dX n40⟩)
 fm:=ae
 ef:=ae
 om:=ae
 ac C ns h:=by exact oN h
 oe:=ae
 ca:=ae
 cb:=ae
 z:=G.z
 big:=G.big
structure l5(c:Cx)(z:Kd)(nm kv ZB:V)(df:Option V)(by_:V)(ref:Bool):Prop where
 cl:ah aq c 20 238 (mI fB [Bh 4 (s_ 30) (s_ 21),Bh 4 (s_ 32) kv,Bh 6 (s_ 34) ZB])
 wr:ah aq c 24 1668 (bg (vo 2) [⟨[.ref 0,nm,by_],s_ 32,[(P.y_,.t_ 4)]⟩])
 ask:ah aq c 24 1675 (bg (vo 4) [⟨[.ref 0,nm,by_],s_ 34,[(P.y_,.t_ 6)]⟩])
 box:ah aq c 18 1038 (bg Ub [⟨[.ref P.I_,s_ 21,.b_ 21],cp z,[(P.l_,.v_ 10 [])]⟩])
 go:z≠.nul->ah aq c 4 1647 (bg LC [⟨[.ref 0,dM,nm],.bool z.b,[]⟩])/\ah aq c 16 866 (bg Pj [⟨[.ref P.I_,dM,kv],.bool z.b,[]⟩])/\ah aq c 6 1502 (bg LB [⟨[.ref P.m_,.tup [iN 4,vE],ZB],.bool z.b,[]⟩])
 df:∀d,df=some d->ah aq c 30 1005 (bg pU [⟨[.ref P.I_,kv],d,[]⟩])
 ref:ref=true->ah aq c 4 1605 (bg [] [⟨[nm],.bool true,[]⟩])/\ah aq c 6 224 (mI fB [⟨[kv],.bool false,.none⟩])
 kt:∀p∈mZ,ah aq c 6 p.1 p.2/\wu p.1=true
def qW(G:bJ c){z:Kd}{nm kv ZB:V}{df:Option V}{by_:V}{ref:Bool}(t:l5 c z nm kv ZB df by_ ref):bD aq c 30 (eD (Gm z nm kv ZB df by_ ref)):=by
 refine bQ G _ ?_
 unfold Gm
 refine bw (bw (bw (bw ?_ ?_) ?_) ?_) λp hp=>⟨(t.kt p hp).1.le (by decide),(t.kt p hp).2⟩
 ·exact aa ⟨t.cl.le (by decide),rfl⟩ (aa ⟨t.wr.le (by decide),rfl⟩ (aa ⟨t.ask.le (by decide),rfl⟩ (af ⟨t.box.le (by decide),rfl⟩)))
 ·induction z using Kd.casesOn with
  | nul=>exact ae
  | no=>have h:=t.go (by intro h;cases h);exact aa ⟨h.1.le (by decide),rfl⟩ (aa ⟨h.2.1.le (by decide),rfl⟩ (af ⟨h.2.2.le (by decide),rfl⟩))
  | yes=>have h:=t.go (by intro h;cases h);exact aa ⟨h.1.le (by decide),rfl⟩ (aa ⟨h.2.1.le (by decide),rfl⟩ (af ⟨h.2.2.le (by decide),rfl⟩))
 ·rcases df with _|d
  ·exact ae
  ·exact af ⟨t.df d rfl,rfl⟩
 ·rcases ref with _|_
  ·exact ae
  ·have h:=t.ref rfl;exact aa ⟨h.1.le (by decide),rfl⟩ (af ⟨h.2.le (by decide),rfl⟩)
structure F3(σ:Sg)(kv:V):Prop where
 g17:σ.γ 17=σ.γ 7++[nL kv]
 d11:∀x,σ.δ 11 x=cB σ [(.at 14,.any)] (some 1) x
 z11:σ.z 1+1<=σ.z 11
def Kj(t:dT c.σ):∀p∈GL,p.1.ev c.σ.ν=p.2.ev c.σ.ν:=af t.h39.symm
def BJ{kv:V}(t:dT c.σ)(h:F3 c.σ kv):gm c.σ ⟨[(7,17,[nL kv])],[(1,11,[(.at 14,.any)])],[],GL⟩:=⟨af h.g17,af ⟨h.d11,h.z11⟩,ae,Kj t⟩
def B9(t:dT c.σ):gm c.σ ⟨[],[],[],GL⟩:=⟨ae,ae,ae,Kj t⟩
def xB(z:Kd):z∈zu:=by induction z using Kd.casesOn <;> simp[zu]
def DW(G:bJ c)(t:dT c.σ){ft:FT}{ov:List (Addr×FS)}{z:Kd}{nm kv:V}{named:Bool}(run:Vg ft ov z nm kv eY named=true)(hft:aI c.σ ft)(hov:bD aq c 30 (eD ov))
  {iv T_ by_ Z6:V} (D_:ak c.σ iv (cp z)) (k_:ak c.σ T_ nm) (A_:ak c.σ by_ eY) (hnd:ak c.σ Z6 (.bool named)) (hv:named=true->F3 c.σ kv):ah kx c 54 1696 (jC named iv T_ by_ Z6):=by
 unfold jC
 rcases named with _|_
 ·refine a8 (af ?_)
  exact⟨tx ft (eD ov) 12 1696,[],[.ref 0,eV,cp z,nm,eY,.bool false],.bool true,[],⟨[],[],[],GL⟩,dB (n:=30) (m:=12) G hft hov,
   ax.cons (ak.refl _) (ax.cons (ak.refl _) (ax.cons D_ (ax.cons k_ (ax.cons A_ (ax.one hnd))))),ak.refl _,ae,B9 t,run⟩
 ·show ah kx c 54 1696 (bg (PG++[]) _)
  rw[gN]
  refine a8 (af ?_)
  exact⟨tx ft (eD ov) 12 1696,[],[.ref 0,eV,cp z,nm,eY,.bool true],.bool true,[43],⟨[(7,17,[nL kv])],[(1,11,[(.at 14,.any)])],[],GL⟩,dB (n:=30) (m:=12) G hft hov,
   ax.cons (ak.refl _) (ax.cons (ak.refl _) (ax.cons D_ (ax.cons k_ (ax.cons A_ (ax.one hnd))))),ak.refl _,ae,BJ t (hv rfl),run⟩
def FM(G:bJ c)(t:dT c.σ){ft:FT}{ov:List (Addr×FS)}{z:Kd}{nm:V}(run:V4 ft ov z nm eY=true)(hft:aI c.σ ft)(hov:bD aq c 30 (eD ov))
  {iv T_ by_:V} (D_:ak c.σ iv (cp z)) (k_:ak c.σ T_ nm) (A_:ak c.σ by_ eY):ah kx c 54 1703 (ja iv T_ by_):=by
 refine a8 (af ?_)
 exact⟨tx ft (eD ov) 12 1703,[],[.ref 0,eV,cp z,nm,eY],.bool true,[],⟨[],[],[],GL⟩,dB (n:=30) (m:=12) G hft hov,
  ax.cons (ak.refl _) (ax.cons (ak.refl _) (ax.cons D_ (ax.cons k_ (ax.one A_)))),ak.refl _,ae,B9 t,run⟩
def NJ(G:bJ c)(W:Wd c.σ T M uE uF)(t:dT c.σ){k:Nat}(hk:k∈KN)(h40:c.σ.ω 40=aM k)(n40:c.σ.ν 40=.ofNat k){z:Kd}(tc:l5 c z pD kL PA .none eY z.b)
  {iv T_ by_ Z6:V} (D_:ak c.σ iv (cp z)) (k_:ak c.σ T_ pD) (A_:ak c.σ by_ eY) {named:Bool} (hnd:ak c.σ Z6 (.bool named)) (hv:named=true->F3 c.σ kL):ah kx c 54 1696 (jC named iv T_ by_ Z6):=by
 have run:=ai Iq z (xB z)
 rw[al] at run
 refine DW G t (ft:=PD) (ov:=Gm z pD kL PA .none eY z.b) (nm:=pD) ?_ (wy G t W hk h40 n40) (qW G tc) D_ k_ A_ hnd hv
 rcases named with _|_
 ·exact run.2
 ·exact run.1
def O4(G:bJ c)(W:Wd c.σ T M uE uF)(t:dT c.σ){k:Nat}(hk:k∈KN)(h40:c.σ.ω 40=aM k)(n40:c.σ.ν 40=.ofNat k){z:Kd}(tc:l5 c z pD kL PA (some (.int 0)) eY true)
  {iv T_ by_:V} (D_:ak c.σ iv (cp z)) (k_:ak c.σ T_ pD) (A_:ak c.σ by_ eY):ah kx c 54 1703 (ja iv T_ by_):=
 FM G t (ft:=PD) (ov:=Gm z pD kL PA (some (.int 0)) eY true) (nm:=pD) (ai JD z (xB z)) (wy G t W hk h40 n40) (qW G tc) D_ k_ A_
def QS(W:Wd c.σ T M uE uF)(k:Nat):∃om∈UH k,∀p∈om,c.σ.ω p.1=p.2/\p.1 < 1000:=by
 unfold UH
 split
 ·rcases(by simpa using W.hE:uE=7\/uE=4\/uE=8) with rfl|rfl|rfl
  ·exact⟨_,.head _,af ⟨W.w13,by dsimp only;lia⟩⟩
  ·exact⟨_,.tail _ (.head _),af ⟨W.w13,by dsimp only;lia⟩⟩
  ·exact⟨_,.tail _ (.tail _ (.head _)),af ⟨W.w13,by dsimp only;lia⟩⟩
 ·rcases(by simpa using W.hF:uF=7\/uF=4\/uF=8) with rfl|rfl|rfl
  ·exact⟨_,.head _,af ⟨W.w14,by dsimp only;lia⟩⟩
  ·exact⟨_,.tail _ (.tail _ (.head _)),af ⟨W.w14,by dsimp only;lia⟩⟩
  ·exact⟨_,.tail _ (.head _),af ⟨W.w14,by dsimp only;lia⟩⟩
 ·exact⟨_,.head _,ae⟩
def NK(G:bJ c)(W:Wd c.σ T M uE uF)(t:dT c.σ){k ka:Nat}(hk:k∈zx)(hka:ka∈ZJ k)(o:A2 c.σ k)(tc:l5 c .yes (aM k) (iN k) (iN ka) .none eY false)
  {iv T_ by_ Z6:V} (D_:ak c.σ iv (cp .yes)) (k_:ak c.σ T_ (aM k)) (A_:ak c.σ by_ eY) {named:Bool} (hnd:ak c.σ Z6 (.bool named)) (hv:named=true->F3 c.σ (iN k)):ah kx c 54 1696 (jC named iv T_ by_ Z6):=by
 refine aH (QS W k) λom h1 h2=>?_
 have run:=ai (ai (ai Ir k hk) ka hka) om h1
 rw[al] at run
 refine DW G t (ft:=Sk .yes k om) (ov:=Gm .yes (aM k) (iN k) (iN ka) .none eY false) (nm:=aM k) ?_ (El G t W (λ_=>o) h2) (qW G tc) D_ k_ A_ hnd hv
 rcases named with _|_
 ·exact run.2
 ·exact run.1
def O5(G:bJ c)(W:Wd c.σ T M uE uF)(t:dT c.σ){k ka:Nat}(hk:k∈x8)(hka:ka∈ZJ k){z:Kd}(o:z=.yes->A2 c.σ k)(tc:l5 c z (aM k) (iN k) (iN ka) (some (mM k)) eY false)
  {iv T_ by_:V} (D_:ak c.σ iv (cp z)) (k_:ak c.σ T_ (aM k)) (A_:ak c.σ by_ eY):ah kx c 54 1703 (ja iv T_ by_):=
 FM G t (ft:=Sk z k []) (ov:=Gm z (aM k) (iN k) (iN ka) (some (mM k)) eY false) (nm:=aM k) (ai (ai (ai JE k hk) z (xB z)) ka hka) (El G t W (λe=>o (by induction z using Kd.casesOn with|yes=>rfl|_=>exact bT e)) ae) (qW G tc) D_ k_ A_
def pq:List Nat:=TH++x8
def D4:aB Iy pq=true:=by kernel_rfl
def Ab:bb (rZ dM) (rZ (.int 0))=true:=by kernel_rfl
def AM:aB (λk=>aB (λhi=>OX [43,44] hi k) (lP k)) pq=true:=by kernel_rfl
def w6:aB Zo x8=true:=by kernel_rfl
def w3:bb (w5 dM) (w5 (.int 0))=true:=by kernel_rfl
def Gz:aB (λk=>aB (LP k) (MH k)) pq=true:=by kernel_rfl
def He:aB (λfam=>bb (Cy fam true) (Cy fam false)) [1,11]=true:=by kernel_rfl
def uC(G:bJ c){kh:Nat}(hk:kh∈pq)(wr:ah aq c 24 1668 (bg (vo 0) [⟨[.ref 0,aM kh,AL],s_ 30,[(P.y_,.t_ 2)]⟩]))(i27:At c.σ 4 (c.σ.ν 27) (s_ 27))
  {nm val b2:V} (k_:ak c.σ nm (aM kh)) (Y6:ak c.σ val (D3 kh)) (hb:ak c.σ b2 AL) (Y7:ak c.σ (D3 kh) (.b_ 21)):ah kx c 36 1689 (bg J1 [⟨[.ref 0,nm,val,b2],eV,[(P.y_,.t_ 2)]⟩]):=by
 refine a8 (af ?_)
 exact⟨tx Sl (eD (HD (aM kh) false)) 6 1689,[],[.ref 0,aM kh,D3 kh,AL],.tup [iN 90,s_ 30,D3 kh],[],⟨[],[],[],[]⟩,dB (n:=24) (m:=6) G (aI.four G ae ae (af i27.lf) ae) (bQ G _ (af ⟨wr,rfl⟩)),
  ax.cons (ak.refl _) (ax.cons k_ (ax.cons Y6 (ax.one hb))),ax.tup (ax.cons (ak.refl _) (ax.cons (ak.refl _) (ax.one Y7))),ae,aV,ai D4 kh hk⟩
def D5(G:bJ c){kh:Nat}(hk:kh∈KN)(hr:am kh=true)(h23:c.σ.ω 23=aM kh)(wr:ah aq c 24 1668 (bg (vo 0) [⟨[.ref 0,.b_ 23,AL],s_ 30,[(P.y_,.t_ 2)]⟩]))(h20:1<=c.σ.ν 20)(i20:At c.σ 4 (c.σ.ν 20) dM)(i0:At c.σ 4 0 (.int 0)){z:Kd}
  {nm val b2:V} (k_:ak c.σ nm (.b_ 23)) (Y6:ak c.σ val (cp z)) (hb:ak c.σ b2 AL) (Y7:ak c.σ (cp z) (.b_ 21)):ah kx c 36 1689 (bg J1 [⟨[.ref 0,nm,val,b2],eV,[(P.y_,.t_ 2)]⟩]):=by
 refine a8 (af ?_)
 have run:rZ (cp z)=true:=by
  have h:=Ab
  rw[al] at h
  induction z using Kd.casesOn with
  | nul=>exact h.2
  | no=>exact h.1
  | yes=>exact h.1
 exact⟨tx WU (eD (HD (.b_ 23) true)) 6 1689,[],[.ref 0,.b_ 23,cp z,AL],.tup [iN 90,s_ 30,cp z],[],⟨[],[],[],[]⟩,dB (n:=24) (m:=6) G (aI.four G (af (fy h20)) ae (aa i20.lf (af i0.lfl)) ae)
   (bQ G _ (aa ⟨wr,rfl⟩ (af ⟨(jh G hk (aL h23) hr).le (by decide),rfl⟩))),
  ax.cons (ak.refl _) (ax.cons k_ (ax.cons Y6 (ax.one hb))),ax.tup (ax.cons (ak.refl _) (ax.cons (ak.refl _) (ax.one Y7))),ae,aV,run⟩
structure Gd(σ:Sg):Prop where
 g11:σ.γ 11=σ.γ 1
 g12:σ.γ 12=σ.γ 2
 g13:σ.γ 13=σ.γ 3
 g14:σ.γ 14=σ.γ 4
 g15:σ.γ 15=σ.γ 5
 g16:σ.γ 16=σ.γ 6
 d10:σ.δ 10=σ.δ 0
 z10:σ.z 0<=σ.z 10
 n35:σ.ν 35=σ.ν 15
 n36:σ.ν 36=σ.ν 16
 n37:σ.ν 37=σ.ν 17
def AW{α:Type}{a b:List α}(h:a=b):a=b++[]:=h.trans (gN b).symm
def Gd.chg(f:Gd c.σ):gm c.σ SL where
 l:=aa (AW f.g11) (aa (AW f.g12) (aa (AW f.g13) (aa (AW f.g14) (aa (AW f.g15) (af (AW f.g16))))))
 d:=af ⟨λx=>by show c.σ.δ 10 x=c.σ.δ 0 x;rw[f.d10],f.z10⟩
 a:=ae
 e:=aa f.n35.symm (aa f.n36.symm (af f.n37.symm))
structure J2(σ:Sg)(hi:Bool)(k:Nat):Prop where
 g11:σ.γ 11=σ.γ 1++[aM k]
 g12:σ.γ 12=σ.γ 2++[eW k]
 g13:σ.γ 13=σ.γ 3++[.none]
 g14:σ.γ 14=σ.γ 4++[dM]
 g15:σ.γ 15=σ.γ 5++[s_ 15]
 g16:σ.γ 16=σ.γ 6++[lx hi k]
 d10:∀x,σ.δ 10 x=cB σ [(.at 15,lx hi k)] (some 0) x
 z10:σ.z 0+1<=σ.z 10
 n35:σ.ν 35=σ.ν 15+3
 n36:σ.ν 36=σ.ν 16+1
 n37:σ.ν 37=σ.ν 17+3
def J2.chg{hi:Bool}{k:Nat}(f:J2 c.σ hi k):gm c.σ (VM hi k) where
 l:=aa f.g11 (aa f.g12 (aa f.g13 (aa f.g14 (aa f.g15 (af f.g16)))))
 d:=af ⟨f.d10,f.z10⟩
 a:=ae
 e:=aa f.n35.symm (aa f.n36.symm (af f.n37.symm))
def Py(hi:Bool):Int:=match hi with
 | true=>2147483648
 | false=>-2147483648
def PB(hi:Bool):Int:=match hi with
 | true=>4294967295
 | false=>2147483647
def AP(G:bJ c){es:Nat->List Nat}(Tt:iP c bj es)(W:Wd c.σ T M uE uF){kh:Nat}{hi:Bool}(hk:kh∈pq)(hh:hi∈lP kh)(f:J2 c.σ hi (az kh))(h20:10<=c.σ.ν 20)(ag5:c.σ.ν 20<=900)(lo:Py hi<=c.σ.ν 26)(YL:c.σ.ν 26<=PB hi)
  (l1:((c.σ.γ 1).length:Int)=c.σ.ν 20) (l0:((c.σ.γ 0).length:Int)=c.σ.ν 20) (a27:At c.σ 5 (c.σ.ν 27) (s_ 58))
  {nm val iv:V} (D_:ak c.σ dM iv) (k_:ak c.σ nm (aM kh)) (Y6:ak c.σ val (TQ kh)):ah kx c 22 1661 (bg Bj [⟨[.ref 0,nm,val],iv,hV⟩]):=by
 refine a8 (af ?_)
 exact⟨tx (WR hi) (eD mZ) 8 1661,[],[.ref 0,aM kh,TQ kh],.sym (.add (.at 20) (.lit 0)),[43,44],VM hi (az kh),dB (n:=6) (m:=8) G (aI.four G
   (aa (bI h20 ag5) (aa (by induction hi using bC <;> exact bI lo YL) (aa (W.aa5) (af (W.aa4)))))
   (aa l1 (af l0)) (af a27.lf) ae) (bQ G _ (dW G Tt)),
  ax.cons (ak.refl _) (ax.cons k_ (ax.one Y6)),(λc' p u hc r=>by
   refine D_ hc ?_
   refine bV r.inv λt e=>?_
   have:=RV.sym (c:=c') (p:=p) (.at 20) t
   have e2:SE.ev c'.σ.ν (.add (.at 20) (.lit 0))=SE.ev c'.σ.ν (.at 20):=by show c'.σ.ν 20+0=c'.σ.ν 20;lia
   rw[e,e2];exact this),ae,f.chg,ai (ai AM kh hk) hi hh⟩
def AQ(G:bJ c){kh:Nat}(hk:kh∈x8)(f:Gd c.σ)
  {nm val iv:V} (D_:ak c.σ (.int 0) iv) (k_:ak c.σ nm (aM kh)) (Y6:ak c.σ val (.tup [.int 0,.any])):ah kx c 22 1661 (bg Bj [⟨[.ref 0,nm,val],iv,hV⟩]):=by
 refine a8 (af ?_)
 exact⟨tx jo aE 8 1661,[],[.ref 0,aM kh,.tup [.int 0,.any]],.int 0,[],SL,(cy (m:=8) G (cq G)).le (by decide),ax.cons (ak.refl _) (ax.cons k_ (ax.one Y6)),D_,ae,f.chg,ai w6 kh hk⟩
def AN(G:bJ c){kh:Nat}(hk:kh∈KN)(hr:am kh=true)(h23:c.σ.ω 23=aM kh)(f:Gd c.σ){z:Kd}
  {nm val iv:V} (D_:ak c.σ (cp z) iv) (k_:ak c.σ nm (.b_ 23)) (Y6:ak c.σ val (cp z)):ah kx c 22 1661 (bg Bj [⟨[.ref 0,nm,val],iv,hV⟩]):=by
 refine a8 (af ?_)
 have run:w5 (cp z)=true:=by
  have h:=w3
  rw[al] at h
  induction z using Kd.casesOn with
  | nul=>exact h.2
  | no=>exact h.1
  | yes=>exact h.1
 exact⟨tx jo (eD [(1605,bg [] [⟨[.b_ 23],.bool true,[]⟩])]) 8 1661,[],[.ref 0,.b_ 23,cp z],cp z,[],SL,(dB (n:=4) (m:=8) G (cq G) (bQ G _ (af ⟨jh G hk (aL h23) hr,rfl⟩))).le (by decide),
  ax.cons (ak.refl _) (ax.cons k_ (ax.one Y6)),D_,ae,f.chg,run⟩
def JS:FZ 11=true:=by kernel_rfl
def JM:aB FP [0,1,2]=true:=by kernel_rfl
def Az:aB SP zu=true:=by kernel_rfl
def Ay:aB SO eG=true:=by kernel_rfl
def dH{σ:Sg}{a b:SE}(h:a.ev σ.ν=b.ev σ.ν):ak σ (.sym a) (.sym b):=λc p u hc r=>by
 refine bV r.inv λt e=>?_
 have:=RV.sym (c:=c) (p:=p) b t
 rw[hc,<-h] at this
 rw[e,hc];exact this
def qQ{σ:Sg}{e:SE}{i:Int}(h:e.ev σ.ν=i):ak σ (.sym e) (.int i):=λc p u hc r=>by
 refine bV r.inv λt q=>?_
 rw[q,hc,h];exact .int i t
def cG(z:Int):Int:=match dy lQ (z.fmod 16).toNat with
 | .int i=>i
 | _=>0
def I0:∀n < 16,∃i,dy lQ n=.int i:=by
 intro n hn
 match n,hn with
 | 0,_|1,_|2,_|3,_|4,_|5,_|6,_|7,_|8,_|9,_|10,_|11,_|12,_|13,_|14,_|15,_=>exact⟨_,rfl⟩
 | n+16,h=>lia
def Ew:lQ.length=16:=rfl
def a9(z:Int){m:Int}(hm:0 < m):0<=z.fmod m/\z.fmod m < m:=⟨Int.fmod_nonneg_of_pos z hm,Int.fmod_lt_of_pos z hm⟩
def pv(σ:Sg)(p:SE×List V×V):Prop:=∃(j:Nat) (v:V),p.1.ev σ.ν=(j:Int)/\p.2.1[j]? =some v/\ak σ v p.2.2
def yU{σ:Sg}{e:SE}{n:Nat}(h:σ.ν n=cG (e.ev σ.ν)):pv σ (TY e,lQ,.sym (.at n)):=by
 refine bS (a9 (e.ev σ.ν) (m:=16) (by decide)) λh0 h1=>?_
 have h2:((e.ev σ.ν).fmod 16).toNat < 16:=by lia
 refine bV (I0 _ h2) λi hi=>?_
 refine⟨_,.int i,?_,by rw[<-hi];exact fc _ _ (by rw[Ew];exact h2),dX ?_⟩
 ·show(e.ev σ.ν).fmod 16=_;lia
 ·rw[h];unfold cG;rw[hi]
def uO{σ:Sg}{e:SE}:(TY e).ev σ.ν<=1000000:=by
 have:=a9 (e.ev σ.ν) (m:=16) (by decide)
 show(e.ev σ.ν).fmod 16<=_;omega
structure Tx(σ:Sg)(kh:Nat):Prop where
 n50:σ.ν 50=cG ((Gi kh).ev σ.ν)
 n53:σ.ν 53=cG ((SE.fdiv (.fdiv (Gi kh) (.lit 5)) (.lit 2)).ev σ.ν)
 n27:σ.ν 27=((SE.fdiv (Gi kh) (.lit 3)).ev σ.ν).fmod (σ.ν 19)
 n19:1<=σ.ν 19
 l1:((σ.γ 1).length:Int)=σ.ν 19
def ju(uE uF k:Nat):Nat:=match az k with
 | 20=>uE
 | 21=>uF
 | _=>7
def MI(W:Wd c.σ T M uE uF){kh:Nat}:ju uE uF kh∈MH kh/\∀p∈QT (ju uE uF kh) kh,c.σ.ω p.1=p.2/\p.1 < 1000:=by
 unfold ju MH QT
 generalize az kh=m
 by_cases h:m=20
 ·subst h
  refine⟨?_,af ⟨W.w13,by dsimp only;omega⟩⟩
  rcases(by simpa using W.hE:uE=7\/uE=4\/uE=8) with rfl|rfl|rfl <;> simp
 ·by_cases h':m=21
  ·subst h'
   refine⟨?_,af ⟨W.w14,by dsimp only;omega⟩⟩
   rcases(by simpa using W.hF:uF=7\/uF=4\/uF=8) with rfl|rfl|rfl <;> simp
  ·simp[h,h']
def BL(G:bJ c)(W:Wd c.σ T M uE uF){kh:Nat}(hk:kh∈pq)(d:Tx c.σ kh){nm zv r:V}(k_:ak c.σ nm (aM kh))(hz:ak c.σ zv (.sym zL))(hr:ak c.σ (BN (ju uE uF kh) kh) r):
  ah kx c 16 1619 (bg Tv [⟨[.ref 0,nm,zv],r,[]⟩]):=by
 refine a8 (af ?_)
 have ho:=MI W (kh:=kh)
 have F:aI c.σ (Vq kh (QT (ju uE uF kh) kh)):={
  rng:=ae
  len:=af d.l1
  lf:=ae
  df:=ae
  pk:=aa (yU d.n50) (af (yU d.n53))
  pkz:=aa uO (af uO)
  sf:=ae
  fm:=af (.inl ⟨rfl,by show 1<=c.σ.ν 19;exact d.n19,d.n27⟩)
  ef:=ae
  om:=λp hp=>(ho.2 p hp).1
  ac:=λC ns h=>by exact oN h
  oe:=ae
  ca:=ae
  cb:=ae
  z:=G.z
  big:=G.big}
 exact⟨tx (Vq kh (QT (ju uE uF kh) kh)) aE 8 1619,[],[.ref 0,aM kh,.sym zL],BN (ju uE uF kh) kh,[],⟨[],[],[],[]⟩,cy (m:=8) G (F),ax.cons (ak.refl _) (ax.cons k_ (ax.one hz)),hr,ae,aV,ai (ai Gz kh hk) _ ho.1⟩
def zN(x n:Int):Int:=match decide (x.fmod 4=3) with
 | true=>(x.fdiv 4).fmod 10
 | false=>10+(x.fdiv 4).fmod (n - 10)
def km(G:bJ c){fam:Nat}(hf:fam∈[1,11])(hl:((c.σ.γ fam).length:Int)=c.σ.ν 19)(h19:11<=c.σ.ν 19)(ag6:c.σ.ν 19<=900)(n54:c.σ.ν 54=((c.σ.ν 42).fdiv 4).fmod (c.σ.ν 19+ -10))
  (n55:c.σ.ν 55=if(c.σ.ν 42).fmod 4=3 then 0 else(c.σ.ν 42).fmod 4)
  {iv:V} (D_:ak c.σ (.int (zN (c.σ.ν 42) (c.σ.ν 19))) iv):ah kx c 6 1724 (bg (JZ fam) [⟨[.ref 0,.sym xL],iv,[]⟩]):=by
 refine a8 (af ?_)
 have run:=ai He fam hf
 rw[al] at run
 have hfl:fam < 1000:=by rcases(by simpa using hf:fam=1\/fam=11) with rfl|rfl <;> lia
 have h4:=a9 (c.σ.ν 42) (m:=4) (by decide)
 have F {old:Bool} (ho:old=decide ((c.σ.ν 42).fmod 4=3)):aI c.σ (TT fam old):={
  rng:=aa (by
   have e:c.σ.ν 55=if(c.σ.ν 42).fmod 4=3 then 0 else(c.σ.ν 42).fmod 4:=by exact n55
   split at e <;> exact bI (by lia) (by lia)) (af (bI h19 ag6))
  len:=af hl
  lf:=ae
  df:=ae
  pk:=ae
  pkz:=ae
  sf:=ae
  fm:=af (.inl ⟨rfl,by show 1<=c.σ.ν 19+ -10;lia,n54⟩)
  ef:=af (by
   rcases old with _|_
   ·show(c.σ.ν 42).fmod 4=c.σ.ν 55;rw[n55,if_neg (of_decide_eq_false ho.symm)]
   ·show(c.σ.ν 42).fmod 4=3;exact mB ho.symm)
  om:=ae
  ac:=λC ns h=>by exact oN h
  oe:=ae
  ca:=ae
  cb:=ae
  z:=G.z
  big:=G.big}
 unfold zN at D_
 rcases ho:decide ((c.σ.ν 42).fmod 4=3) with _|_
 ·rw[ho] at D_
  exact⟨tx (TT fam false) aE 3 1724,[],[.ref 0,s_ 42],vZ false,[],⟨[],[],[],[]⟩,cy (m:=3) G (F ho.symm),ax.refl _,(qQ (by show 10+c.σ.ν 54=10+((c.σ.ν 42).fdiv 4).fmod (c.σ.ν 19 - 10);rw[n54];rfl)).trans D_,ae,aV,run.2⟩
 ·rw[ho] at D_
  exact⟨tx (TT fam true) aE 3 1724,[],[.ref 0,s_ 42],vZ true,[],⟨[],[],[],[]⟩,cy (m:=3) G (F ho.symm),ax.refl _,(qQ (rfl)).trans D_,ae,aV,run.1⟩
def Hm(k:Nat):Nat:=match QH k with
 | some q=>q
 | .none=>k
def qf:List Nat:=[7,20,8,21,22,23,24,25,27,28,26,29,12,17,18,19,16,13,30,31,32,33,34,4,1]
def QZ:∀n < 25,kD[n]? =some (aM (cP qf n)):=by
 intro n hn
 match n,hn with
 | 0,_|1,_|2,_|3,_|4,_|5,_|6,_|7,_|8,_|9,_|10,_|11,_|12,_|13,_|14,_|15,_|16,_|17,_|18,_|19,_|20,_|21,_|22,_|23,_|24,_=>rfl
 | n+25,h=>lia
def yp{e:SE}(h:c.σ.ω 45=aM (cP qf ((e.ev c.σ.ν).fmod 25).toNat)):pv c.σ (.mod e (.lit 25),kD,.b_ 45):=by
 refine bS (a9 (e.ev c.σ.ν) (m:=25) (by decide)) λh0 h1=>?_
 have h2:((e.ev c.σ.ν).fmod 25).toNat < 25:=by lia
 refine⟨_,_,?_,QZ _ h2,bO h⟩
 show(e.ev c.σ.ν).fmod 25=_;lia
def qB(uE uF ex cN c3:Nat):Nat:=match cN with
 | 1=>Hm ex
 | 2=>match c3 with
  | 1=>match ex with
   | 20=>uE
   | 21=>uF
   | ex=>w7 ex
  | 2=>16
  | _=>w7 ex
 | _=>ex
def Pd{ex:Nat}(h:ex≠20)(h':ex≠21):AY ex 2 1=aM (w7 ex):=by
 unfold AY
 split
 ·rename_i e;exact absurd e (by decide)
 ·rename_i e;exact absurd e (by decide)
 ·split
  ·split
   ·exact absurd rfl h
   ·exact absurd rfl h'
   ·rfl
  ·rename_i e;exact absurd e (by decide)
  ·rfl
 ·rename_i e1 e2 e3;exact absurd rfl e3
def Pe{ex uE uF:Nat}(h:ex≠20)(h':ex≠21):qB uE uF ex 2 1=w7 ex:=by
 unfold qB
 split
 ·rename_i e;exact absurd e (by decide)
 ·split
  ·split
   ·exact absurd rfl h
   ·exact absurd rfl h'
   ·rfl
  ·rename_i e;exact absurd e (by decide)
  ·rfl
 ·rename_i e1 e2;exact absurd rfl e2
def FW(W:Wd c.σ T M uE uF){ex cN c3:Nat}(hc:cN≠3):ak c.σ (AY ex cN c3) (aM (qB uE uF ex cN c3)):=by
 match cN,hc with
 | 0,_=>exact ak.refl _
 | 1,_=>
  show ak c.σ (match QH ex with|some q=>aM q| .none=>aM ex) (aM (Hm ex))
  unfold Hm
  cases QH ex <;> exact ak.refl _
 | 2,_=>
  match c3 with
  | 0=>exact ak.refl _
  | 1=>
   by_cases h:ex=20
   ·subst h;exact aL W.w13
   ·by_cases h':ex=21
    ·subst h';exact aL W.w14
    ·show ak c.σ (AY ex 2 1) (aM (qB uE uF ex 2 1))
     rw[Pd h h',Pe h h'];exact ak.refl _
  | 2=>exact ak.refl _
  | n+3=>exact ak.refl _
 | 3,h=>exact absurd rfl h
 | n+4,_=>exact ak.refl _
def jI(uE uF:Nat)(ex:Option Nat)(y:Int):Nat:=match ex with
 | .none=>cP qf ((y.fdiv 4).fmod 25).toNat
 | some ex=>match Nat.beq (y.fmod 4).toNat 3 with
  | true=>cP qf ((y.fdiv 4).fmod 25).toNat
  | false=>qB uE uF ex (y.fmod 4).toNat ((y.fdiv 4).fmod 3).toNat
def Pc(G:bJ c)(W:Wd c.σ T M uE uF){ex:Option Nat}{z:Kd}(hz:z=.nul↔ex=.none)(hex:∀k,ex=some k->k∈ma/\At c.σ 11 (c.σ.ν 20) (aM k))(h0:At c.σ 11 0 (.str (Str.ofString "")))(h20:1<=c.σ.ν 20)
  (h45:c.σ.ω 45=aM (jI uE uF ex (c.σ.ν 43))) {iv:V} (D_:ak c.σ iv (cp z)):ah kx c 8 1731 (bg (mw 11) [⟨[.ref 0,iv,.sym yL],.b_ 45,[]⟩]):=by
 refine a8 (af ?_)
 have run:=JS
 unfold FZ at run
 rw[al] at run
 have h4:=a9 (c.σ.ν 43) (m:=4) (by decide)
 have h3:=a9 ((c.σ.ν 43).fdiv 4) (m:=3) (by decide)
 have FF {cN c3:Nat} {ev:V} (hlf:∀p∈yw 11 cN ev,jX c.σ p) (hef:∀p∈yT cN c3,p.1.ev c.σ.ν=p.2.ev c.σ.ν) (hpk:∀p∈ya cN,pv c.σ p/\p.1.ev c.σ.ν<=1000000):aI c.σ (yK 11 ev cN c3):={
  rng:=af (fy h20)
  len:=ae
  lf:=hlf
  df:=ae
  pk:=λp hp=>(hpk p hp).1
  pkz:=λp hp=>(hpk p hp).2
  sf:=ae
  fm:=ae
  ef:=hef
  om:=ae
  ac:=λC ns h=>by exact oN h
  oe:=ae
  ca:=ae
  cb:=ae
  z:=G.z
  big:=G.big}
 have pz:(SE.mod zA (.lit 25)).ev c.σ.ν<=1000000:=by
  have:=a9 (zA.ev c.σ.ν) (m:=25) (by decide)
  show(zA.ev c.σ.ν).fmod 25<=_;omega
 rcases ex with _|k
 ·obtain rfl:=hz.mpr rfl
  exact⟨tx (yK 11 (.str (Str.ofString "")) 4 0) aE 4 1731,[],[.ref 0,.int 0,.sym yL],.b_ 45,[],⟨[],[],[],[]⟩,cy (m:=4) G (FF (cN:=4) (c3:=0) (ev:=.str (Str.ofString "")) (af h0.lfl) ae (af ⟨yp h45,pz⟩)),
   ax.cons (ak.refl _) (ax.cons D_ (ax.one (ak.refl _))),ak.refl _,ae,aV,run.1⟩
 ·refine bS (hex k rfl) λhk hat=>?_
  have hz':cp z=dM:=by
   induction z using Kd.casesOn with
   | nul=>exact absurd (hz.mp rfl) (by simp)
   | _=>rfl
  generalize hc:((c.σ.ν 43).fmod 4).toNat=cN
  generalize hc3:(((c.σ.ν 43).fdiv 4).fmod 3).toNat=c3
  have r1:=ai (ai (ai run.2 k hk) cN (by
   have:cN < 4:=by omega
   match cN,this with
   | 0,_|1,_|2,_|3,_=>simp
   | n+4,h=>omega)) c3 (by
   have:c3 < 3:=by omega
   match c3,this with
   | 0,_|1,_|2,_=>simp
   | n+3,h=>omega)
  have hc4:cN≠4:=by omega
  have ef:∀p∈yT cN c3,p.1.ev c.σ.ν=p.2.ev c.σ.ν:=by
   have e1:(SE.mod yL (.lit 4)).ev c.σ.ν=(cN:Int):=by show(c.σ.ν 43).fmod 4=_;omega
   have e2:(SE.mod zA (.lit 3)).ev c.σ.ν=(c3:Int):=by show((c.σ.ν 43).fdiv 4).fmod 3=_;omega
   unfold yT
   split
   ·exact absurd rfl hc4
   ·exact aa e1 (af e2)
   ·exact af e1
  have lf:∀p∈yw 11 cN (aM k),jX c.σ p:=by
   unfold yw
   split
   ·exact absurd rfl hc4
   ·exact af hat.lf
  have pk:∀p∈ya cN,pv c.σ p/\p.1.ev c.σ.ν<=1000000:=by
   unfold ya
   split
   ·exact absurd rfl hc4
   ·refine af ⟨yp ?_,pz⟩
    rw[h45];unfold jI;rw[hc];rfl
   ·exact ae
  refine⟨tx (yK 11 (aM k) cN c3) aE 4 1731,[],[.ref 0,dM,.sym yL],AY k cN c3,[],⟨[],[],[],[]⟩,cy (m:=4) G (FF lf ef pk),
   ax.cons (ak.refl _) (ax.cons (by rw[<-hz'];exact D_) (ax.one (ak.refl _))),?_,ae,aV,r1⟩
  by_cases h:cN=3
  ·subst h;exact ak.refl _
  ·refine(FW W h).trans (bO ?_)
   rw[h45]
   unfold jI
   rw[hc,hc3]
   have:Nat.beq cN 3=false:=by
    rcases e:Nat.beq cN 3 with _|_
    ·rfl
    ·exact absurd (cf e) h
   dsimp only
   rw[this]
def jx:V->Int
 | .int i=>i
 | _=>0
def jb(l:List V)(a:Nat):Int:=match Nat.ble (a+1) l.length with
 | true=>jx (dy l a)
 | false=>match Nat.ble (a+1) 14 with
  | true=>jx (dy i7 a)
  | false=>5 * a+3
def Ak:∀n < 14,dy i7 n=.int (jx (dy i7 n)):=by
 intro n hn
 match n,hn with
 | 0,_|1,_|2,_|3,_|4,_|5,_|6,_|7,_|8,_|9,_|10,_|11,_|12,_|13,_=>rfl
 | n+14,h=>lia
def O3{ν:Nat->Int}(h:ν 38=ν 9+3):∀j < 4,(w9 j).ev ν=ν 9+j:=by
 intro j hj
 match j,hj with
 | 0,_=>show ν 9=_;lia
 | 1,_=>rfl
 | 2,_=>rfl
 | 3,_=>show ν 38=_;rw[h];rfl
 | n+4,h=>lia
def Pa(G:bJ c){A:Nat}(hA:c.σ.ν 9=A)(hA':A<=990)(hl:((c.σ.γ 9).length:Int)=c.σ.ν 18)(Ze:(c.σ.γ 9).length<=40)(hg:∀v∈c.σ.γ 9,v=.int (jx v))(n38:c.σ.ν 38=c.σ.ν 9+3)
  {j:Nat} (hj:j < 3) (n71:c.σ.ν (71+j)=5 * (A+j:Nat)) (nj:c.σ.ν (41+j)=jb (c.σ.γ 9) (A+j)):ah kx c 6 1598 (vj j):=by
 refine a8 (af ?_)
 have run:=ai JM j (by
  match j,hj with
  | 0,_|1,_|2,_=>simp
  | n+3,h=>lia)
 unfold FP at run
 rw[al] at run
 have ev:(w9 j).ev c.σ.ν=((A+j:Nat):Int):=by
  rw[O3 n38 j (by lia),hA];lia
 have FF {cs:Nat} {lo hi l h:Int} (h1:lo<=A) (h2:(A:Int)<=hi) (h3:l<=(c.σ.γ 9).length) (h4:((c.σ.γ 9).length:Int)<=h) (hlf:∀p∈US j cs,jX c.σ p) (hpk:∀p∈UE j cs,pv c.σ p/\p.1.ev c.σ.ν<=1000000):aI c.σ (Sj j cs lo hi l h):={
  rng:=aa (bI (by rw[hA];exact h1) (by rw[hA];exact h2)) (af (bI (by rw[<-hl];exact h3) (by rw[<-hl];exact h4)))
  len:=af hl
  lf:=hlf
  df:=ae
  pk:=λp hp=>(hpk p hp).1
  pkz:=λp hp=>(hpk p hp).2
  sf:=ae
  fm:=by
   show ∀p∈Vv j cs,_
   unfold Vv
   split
   ·refine af (.inr ⟨rfl,by show(5:Int).natAbs < 2 ^ 40;decide,?_,?_⟩)
    ·show((w9 j).ev c.σ.ν).natAbs < 2 ^ 40;rw[ev];lia
    ·show c.σ.ν (71+j)=5 * (w9 j).ev c.σ.ν;rw[ev];exact n71
   ·exact ae
  ef:=ae
  om:=ae
  ac:=λC ns h=>by exact oN h
  oe:=ae
  ca:=ae
  cb:=ae
  z:=G.z
  big:=G.big}
 have cg:gm c.σ (T4 j):=⟨ae,ae,ae,by
  show ∀p∈(match j with|2=>[(SE.add (.at 9) (.lit 3),SE.at 38)]|_=>[]),_
  split
  ·exact af n38.symm
  ·exact ae⟩
 have fin {cs:Nat} {lo hi l h:Int} (r:dk (tx (Sj j cs lo hi l h) aE 3 1598) [] [] (T4 j) (T8 j) [(P.w_,A9 (w9 (j+1)))] [.ref 0] (G9 j cs)=true) (F:aI c.σ (Sj j cs lo hi l h)) (hr:ak c.σ (G9 j cs) (s_ (41+j))):qC c 6 1598 (T8 j) ⟨[.ref 0],s_ (41+j),[(P.w_,A9 (w9 (j+1)))]⟩:=
  ⟨tx (Sj j cs lo hi l h) aE 3 1598,[],[.ref 0],G9 j cs,[],T4 j,cy (m:=3) G (F),ax.refl _,hr,ae,cg,r⟩
 have lf0 (hs:A+j < (c.σ.γ 9).length):∀p∈US j 0,jX c.σ p:=by
  refine af ⟨by show 0<=(w9 j).ev c.σ.ν;rw[ev];lia,dy (c.σ.γ 9) (A+j),?_,?_⟩
  ·show(c.σ.γ 9)[((w9 j).ev c.σ.ν).toNat]? =_
   rw[ev,Int.toNat_natCast];exact fc _ _ hs
  ·have h1:=hg _ (oD (fc _ _ hs) |>.2▸List.getElem_mem _)
   rw[h1]
   refine dX ?_
   rw[nj];unfold jb
   rw[s8 (by lia:A+j+1<=(c.σ.γ 9).length)]
 have ab1 {a b:Nat} (h:¬a<=b):Nat.ble a b=false:=by
  rcases e:Nat.ble a b with _|_
  ·rfl
  ·exact absurd (fu e) h
 have pk1 (hs:¬A+j < (c.σ.γ 9).length) (hf:A+j < 14):∀p∈UE j 1,pv c.σ p/\p.1.ev c.σ.ν<=1000000:=by
  refine af ⟨⟨A+j,_,ev,fc _ _ hf,?_⟩,by show(w9 j).ev c.σ.ν<=_;rw[ev];lia⟩
  rw[Ak _ hf]
  refine dX ?_
  rw[nj];unfold jb
  rw[ab1 (by lia:¬A+j+1<=(c.σ.γ 9).length),s8 (by lia:A+j+1<=14)]
 have e2 (hs:¬A+j < (c.σ.γ 9).length) (hf:¬A+j < 14):ak c.σ (r5 j) (s_ (41+j)):=by
  refine dH ?_
  show c.σ.ν (71+j)+3=c.σ.ν (41+j)
  rw[nj,n71];unfold jb
  rw[ab1 (by lia:¬A+j+1<=(c.σ.γ 9).length),ab1 (by lia:¬A+j+1<=14)]
 by_cases h40:A < 40
 ·have r1:=ai run.1 A ((cM 40).mpr ⟨by lia,by lia⟩)
  unfold Lx at r1
  rw[al] at r1
  by_cases hs:A+j < (c.σ.γ 9).length
  ·have r2:=r1.1
   rw[s8 (by lia:A+j+1<=40)] at r2
   exact fin r2 (FF (by show(A:Int)<=A;lia) (by show(A:Int)<=A;lia) (by show((A+j+1:Nat):Int)<=_;lia) (by lia) (lf0 hs) (ae)) (ak.refl _)
  ·have r2:=r1.2
   by_cases hf:A+j < 14
   ·rw[s8 (by lia:A+j+1<=14)] at r2
    exact fin r2 (FF (by show(A:Int)<=A;lia) (by show(A:Int)<=A;lia) (by lia) (by show _<=((A+j:Nat):Int);lia) ae (pk1 hs hf)) (ak.refl _)
   ·rw[ab1 (by lia:¬A+j+1<=14)] at r2
    exact fin r2 (FF (by show(A:Int)<=A;lia) (by show(A:Int)<=A;lia) (by lia) (by show _<=((A+j:Nat):Int);lia) ae (ae)) (e2 hs hf)
 ·exact fin run.2 (FF (by lia) (by lia) (by lia) (by lia) ae (ae)) (e2 (by lia) (by lia))
def oH:List (Int×Nv):=[(0,.r1),(0,.r2),(2,.r1),(2,.r2),(1,.v1),(1,.v2),(1,.v3)]
def jU:List (Int×Nv):=[(4,.r1),(4,.r2),(3,.v1),(3,.v2),(3,.v3)]
def wK:aB (λp:Int×Nv=>aB (λf=>aB (λn=>OA p.1 f p.2 n) [true,false]) [true,false]) oH=true:=by kernel_rfl
def uT:aB (λp:Int×Nv=>aB (λf=>I6 p.1 f p.2) [true,false]) jU=true:=by kernel_rfl
def uU:aB (λp:Int×Nv=>aB (λf=>aB (I7 p.1 f p.2) eG) [true,false]) jU=true:=by kernel_rfl
def sx:Ey=true:=by kernel_rfl
def tJ(T M n:Nat):Nat:=cP [12,17,19,16,T,M] n
def te(n:Nat):Nat:=cP [7,20,22,8,21,25,27,28,24,26,1,29] n
structure Pn(σ:Sg)(T M:Nat)(cN:Int)(a_:Bool)(n:Nv):Prop where
 c_:(σ.ν 41).fmod 6=cN
 f_:Wp.ev σ.ν=(Wo a_).ev σ.ν
 r57:0<=σ.ν 57/\σ.ν 57<=2
 r56:0<=σ.ν 56/\σ.ν 56<=1
 n52:σ.ν 52=(σ.ν 42).fdiv 36+(σ.ν 43).fdiv 4
 x_:∀p∈W0 n,p.1.ev σ.ν=p.2.ev σ.ν
 w22:σ.ω 22=.bool ((SE.mod uL (.lit 2)).ev σ.ν == 1)
 w25:σ.ω 25=.bool ((SE.mod (.fdiv uL (.lit 2)) (.lit 2)).ev σ.ν == 1)
 w46:σ.ω 46=.bool ((SE.mod (.fdiv uL (.lit 16)) (.lit 2)).ev σ.ν == 0)
 w48:σ.ω 48=aM (tJ T M (((σ.ν 42).fdiv 2).fmod 6).toNat)
 w49:σ.ω 49=aM (te ((σ.ν 42).fmod 12).toNat)
 w47:σ.ω 47=aM (cP [T,M] ((σ.ν 43).fmod 2).toNat)
def CM{e:SE}{m:Nat}{l:List V}{v:V}(hm:0 < m)(hl:l.length=m)(h:ak c.σ (dy l ((e.ev c.σ.ν).fmod m).toNat) v):pv c.σ (.mod e (.lit (m:Int)),l,v):=by
 refine bS (a9 (e.ev c.σ.ν) (m:=(m:Int)) (by omega)) λh0 h1=>?_
 have h2:((e.ev c.σ.ν).fmod (m:Int)).toNat < l.length:=by omega
 refine⟨_,_,?_,fc _ _ h2,h⟩
 show(e.ev c.σ.ν).fmod (m:Int)=_;omega
def v6{e:SE}{m:Int}(hm:0 < m)(hm':m<=1000000):(SE.mod e (.lit m)).ev c.σ.ν<=1000000:=by
 have:=a9 (e.ev c.σ.ν) (m:=m) hm
 show(e.ev c.σ.ν).fmod m<=_;omega
def Pn.pk{cN:Int}{a_:Bool}{n:Nv}(d:Pn c.σ T M cN a_ n)(W:Wd c.σ T M uE uF):∀p∈Wt,pv c.σ p:=by
 have w11:ak c.σ (.b_ 11) (aM T):=aL W.w11
 have w12:ak c.σ (.b_ 12) (aM M):=aL W.w12
 refine aa (CM (m:=6) (by decide) rfl ?_) (aa (CM (m:=12) (by decide) rfl ?_) (af (CM (m:=2) (by decide) rfl ?_)))
 ·refine ak.trans (b:=aM (tJ T M (((c.σ.ν 42).fdiv 2).fmod 6).toNat)) ?_ (bO d.w48)
  show ak c.σ (dy tK (((c.σ.ν 42).fdiv 2).fmod 6).toNat) _
  refine bS (a9 ((c.σ.ν 42).fdiv 2) (m:=6) (by decide)) λh0 h1=>?_
  generalize hj:(((c.σ.ν 42).fdiv 2).fmod 6).toNat=j
  have YF:j < 6:=by lia
  match j,YF with
  | 0,_|1,_|2,_|3,_=>exact ak.refl _
  | 4,_=>exact w11
  | 5,_=>exact w12
  | n+6,h=>lia
 ·refine ak.trans (b:=aM (te ((c.σ.ν 42).fmod 12).toNat)) ?_ (bO d.w49)
  show ak c.σ (dy tf ((c.σ.ν 42).fmod 12).toNat) _
  refine bS (a9 (c.σ.ν 42) (m:=12) (by decide)) λh0 h1=>?_
  generalize hj:((c.σ.ν 42).fmod 12).toNat=j
  have YF:j < 12:=by lia
  match j,YF with
  | 0,_|1,_|2,_|3,_|4,_|5,_|6,_|7,_|8,_|9,_|10,_|11,_=>exact ak.refl _
  | n+12,h=>lia
 ·refine ak.trans (b:=aM (cP [T,M] ((c.σ.ν 43).fmod 2).toNat)) ?_ (bO d.w47)
  show ak c.σ (dy [.b_ 11,.b_ 12] ((c.σ.ν 43).fmod 2).toNat) _
  refine bS (a9 (c.σ.ν 43) (m:=2) (by decide)) λh0 h1=>?_
  generalize hj:((c.σ.ν 43).fmod 2).toNat=j
  have YF:j < 2:=by lia
  match j,YF with
  | 0,_=>exact w11
  | 1,_=>exact w12
  | n+2,h=>lia
def wz(G:bJ c){cN:Int}{a_:Bool}{n:Nv}{om:List (Nat×V)}(d:Pn c.σ T M cN a_ n)(W:Wd c.σ T M uE uF)(hom:∀p∈om,c.σ.ω p.1=p.2/\p.1 < 1000):aI c.σ (Of cN a_ n om) where
 rng:=aa (bI d.r56.1 d.r56.2) (af (bI d.r57.1 d.r57.2))
 len:=ae
 lf:=ae
 df:=ae
 pk:=d.pk W
 pkz:=aa (v6 (by decide) (by decide)) (aa (v6 (by decide) (by decide)) (af (v6 (by decide) (by decide))))
 sf:=ae
 fm:=ae
 ef:=aa d.c_ (aa d.f_ (aa d.n52.symm d.x_))
 om p hp:=(hom p hp).1
 ac C ns h:=by exact oN h
 oe:=ae
 ca:=ae
 cb:=aa d.w22 (aa d.w25 (af d.w46))
 z:=G.z
 big:=G.big
structure gj(c:Cx)(n:Nv):Prop where
 any:∀j < 3,ah aq c 6 1598 (vj j)
 held:ah aq c 36 1689 (bg J1 [⟨[.ref 0,kC n,dU n,AL],eV,[(P.y_,.t_ 2)]⟩])
 boxed:ah aq c 22 1661 (bg Bj [⟨[.ref 0,kC n,dU n],iL,hV⟩])
 aim:ah aq c 8 1731 (bg (mw 11) [⟨[.ref 0,iL,.sym yL],.b_ 45,[]⟩])
 ref:n.Y5=true->ah aq c 6 1724 (bg (JZ 1) [⟨[.ref 0,.sym xL],iL,[]⟩])
 val:n.Y5=false->ah aq c 16 1619 (bg Tv [⟨[.ref 0,kC n,s_ 52],.b_ 24,[]⟩])
def zj(h:∀j < 3,ah aq c 6 1598 (vj j)):ah aq c 6 1598 JQ:=kz (h 0 (by decide)) (kz (h 1 (by decide)) (h 2 (by decide)))
def vS{n:Nv}(cN:gj c n):∀p∈L5 n,ah aq c 54 p.1 p.2/\wu p.1=true:=by
 refine bw (aa ⟨(zj cN.any).le (by decide),rfl⟩ (aa ⟨cN.held.le (by decide),rfl⟩ (aa ⟨cN.boxed.le (by decide),rfl⟩ (af ⟨cN.aim.le (by decide),rfl⟩)))) ?_
 split
 ·rename_i h;exact af ⟨(cN.ref h).le (by decide),rfl⟩
 ·rename_i h;exact af ⟨(cN.val h).le (by decide),rfl⟩
def Aq(G:bJ c)(W:Wd c.σ T M uE uF){cN:Int}{a_:Bool}{n:Nv}(hc:(cN,n)∈oH)(d:Pn c.σ T M cN a_ n)(cs:gj c n)(hr:ah aq c 54 1605 (N_ n [])){named:Bool}
  (his:ah aq c 54 1696 (jC named iL (jH a_) eY (.b_ 46))):ah kx c 62 1738 (bg (H9 Hc++v8 named) [⟨[.ref 0],.bool true,Ax named⟩]):=by
 refine a8 (af ?_)
 have mb (b:Bool):b∈[true,false]:=by induction b using bC <;> simp
 have run:=ai (ai (ai wK _ hc) a_ (mb _)) named (mb _)
 exact⟨tx (Of cN a_ n []) (eD ((1696,jC named iL (jH a_) eY (.b_ 46))::(1605,N_ n [])::L5 n)) 4 1738,[],[.ref 0],.bool true,[],K4,dB (n:=54) (m:=4) G (wz G d W ae) (bQ G _ (aa ⟨his,rfl⟩ (aa ⟨hr,rfl⟩ (vS cs)))),
  ax.refl _,ak.refl _,ae,aV,run⟩
def wL(G:bJ c)(W:Wd c.σ T M uE uF){cN:Int}{a_:Bool}{n:Nv}(hc:(cN,n)∈jU)(d:Pn c.σ T M cN a_ n)(cs:gj c n)(hr:ah aq c 54 1605 (N_ n [⟨[jH a_],.bool true,[]⟩]))
  (has:ah aq c 54 1703 (ja iL (jH a_) eY)):ah kx c 62 1738 (bg (H9 Hc++v8 false) [⟨[.ref 0],.bool true,Ax false⟩]):=by
 refine a8 (af ?_)
 have mb (b:Bool):b∈[true,false]:=by induction b using bC <;> simp
 have run:=ai (ai uT _ hc) a_ (mb _)
 exact⟨tx (Of cN a_ n []) (eD ((1703,ja iL (jH a_) eY)::(1605,N_ n [⟨[jH a_],.bool true,[]⟩])::L5 n)) 4 1738,[],[.ref 0],.bool true,[],K4,dB (n:=54) (m:=4) G (wz G d W ae) (bQ G _ (aa ⟨has,rfl⟩ (aa ⟨hr,rfl⟩ (vS cs)))),
  ax.refl _,ak.refl _,ae,aV,run⟩
def wM(G:bJ c)(W:Wd c.σ T M uE uF){cN:Int}{a_:Bool}{n:Nv}(hc:(cN,n)∈jU)(d:Pn c.σ T M cN a_ n)(cs:gj c n){k:Nat}(hk:k∈eG)(ha:c.σ.ω (JU a_)=aM k)(hr:ah aq c 54 1605 (N_ n [⟨[aM k],.bool false,[]⟩]))
  (has:ah aq c 54 1703 (ja iL (aM (gA k)) eY)):ah kx c 62 1738 (bg (H9 Hc++v8 false) [⟨[.ref 0],.bool true,Ax false⟩]):=by
 refine a8 (af ?_)
 have mb (b:Bool):b∈[true,false]:=by induction b using bC <;> simp
 have run:=ai (ai (ai uU _ hc) a_ (mb _)) k hk
 exact⟨tx (Of cN a_ n [(JU a_,aM k)]) (eD ((1703,ja iL (aM (gA k)) eY)::(1605,N_ n [⟨[aM k],.bool false,[]⟩])::L5 n)) 4 1738,[],[.ref 0],.bool true,[],K4,dB (n:=54) (m:=4) G (wz G d W (af ⟨ha,by cases a_ <;> (dsimp only [JU];lia)⟩)) (bQ G _ (aa ⟨has,rfl⟩ (aa ⟨hr,rfl⟩ (vS cs)))),
  ax.refl _,ak.refl _,ae,aV,run⟩
def uS(G:bJ c)(W:Wd c.σ T M uE uF)(c_:(c.σ.ν 41).fmod 6=5)(w22:c.σ.ω 22=.bool ((SE.mod uL (.lit 2)).ev c.σ.ν == 1))(w25:c.σ.ω 25=.bool ((SE.mod (.fdiv uL (.lit 2)) (.lit 2)).ev c.σ.ν == 1))(w46:c.σ.ω 46=.bool ((SE.mod (.fdiv uL (.lit 16)) (.lit 2)).ev c.σ.ν == 0))(any:∀j < 3,ah aq c 6 1598 (vj j))(ref:ah aq c 6 1724 (bg (JZ 11) [⟨[.ref 0,.sym xL],iL,[]⟩]))
  (aim:ah aq c 8 1731 (bg (mw 11) [⟨[.ref 0,iL,.sym yL],.b_ 45,[]⟩])) (cst:ah aq c 84 1717 (iA iL (.b_ 45) eY)):ah kx c 92 1738 (bg (H9 (Hd 4 10)++oO 3 43) [⟨[.ref 0],.bool true,[(P.w_,A9 (.at 38)),(P.y_,.t_ 6)]⟩]):=by
 refine a8 (af ?_)
 have F:aI c.σ Oe:={
  rng:=ae
  len:=ae
  lf:=ae
  df:=ae
  pk:=ae
  pkz:=ae
  sf:=ae
  fm:=ae
  ef:=af c_
  om:=ae
  ac:=λC ns h=>by exact oN h
  oe:=ae
  ca:=ae
  cb:=aa w22 (aa w25 (af w46))
  z:=G.z
  big:=G.big}
 exact⟨tx Oe (eD [(1598,JQ),(1724,bg (JZ 11) [⟨[.ref 0,.sym xL],iL,[]⟩]),(1731,bg (mw 11) [⟨[.ref 0,iL,.sym yL],.b_ 45,[]⟩]),(1717,iA iL (.b_ 45) eY)]) 4 1738,[],[.ref 0],.bool true,[],K4,dB (n:=84) (m:=4) G (F) (bQ G _ (aa ⟨(zj any).le (by decide),rfl⟩ (aa ⟨(ref).le (by decide),rfl⟩ (aa ⟨(aim).le (by decide),rfl⟩ (af ⟨cst,rfl⟩))))),
  ax.refl _,ak.refl _,ae,aV,sx⟩
noncomputable def EL(ex:Nat):Bool:=aB (OL ex) eG
def Ys:aB EL [17,18,13,30,31,33,34,32]=true:=by kernel_rfl
def Yr:aB EL [7,20,21,22,24,8,4,1]=true:=by kernel_rfl
def AA:aB EL ma=true:=by
 have h:=lc _ _ Ys Yr
 exact h
structure sU(c:Cx)(z:Kd)(nm kv:V)(d:Int)(got:V)(ref:Bool):Prop where
 tried:ah aq c 60 1710 (bg vp [⟨[.ref 0,nm,cp z],.tup [.int d,got],[]⟩])
 wr:ref=true->ah aq c 24 1668 (bg (vo 4) [⟨[.ref 0,nm,eY],s_ 34,[(P.y_,.t_ 6)]⟩])/\ah aq c 20 238 (mI fB [Bh 6 (s_ 34) kv])
 go:ref=true->z≠.nul->ah aq c 4 1647 (bg LC [⟨[.ref 0,dM,nm],.bool z.b,[]⟩])/\ah aq c 6 1502 (bg LB [⟨[.ref P.m_,.tup [iN 4,vE],kv],.bool z.b,[]⟩])
 ref:ref=true->ah aq c 4 1605 (bg [] [⟨[nm],.bool true,[]⟩])
 kt:∀p∈mZ,ah aq c 6 p.1 p.2/\wu p.1=true
def qX(G:bJ c){z:Kd}{nm kv:V}{d:Int}{got:V}{ref:Bool}(cN:sU c z nm kv d got ref):bD aq c 60 (eD (CT z nm kv d got ref)):=by
 refine bQ G _ ?_
 unfold CT
 refine bw (bw ?_ ?_) λp hp=>⟨(cN.kt p hp).1.le (by decide),(cN.kt p hp).2⟩
 ·exact af ⟨cN.tried,rfl⟩
 ·rcases ref with _|_
  ·exact ae
  ·refine bw (bw (aa ⟨(cN.wr rfl).1.le (by decide),rfl⟩ (af ⟨(cN.wr rfl).2.le (by decide),rfl⟩)) ?_) (af ⟨(cN.ref rfl).le (by decide),rfl⟩)
   induction z using Kd.casesOn with
   | nul=>exact ae
   | no=>have h:=cN.go rfl (by intro h;cases h);exact aa ⟨h.1.le (by decide),rfl⟩ (af ⟨h.2.le (by decide),rfl⟩)
   | yes=>have h:=cN.go rfl (by intro h;cases h);exact aa ⟨h.1.le (by decide),rfl⟩ (af ⟨h.2.le (by decide),rfl⟩)
def o6(G:bJ c){ft:FT}{ov:List (Addr×FS)}{z:Kd}{nm:V}{cN:xw}(run:dk (tx ft (eD ov) 12 1717) [] [] cN Ga [(P.y_,.t_ 6)] [.ref 0,cp z,nm,eY] (.bool true)=true)
  (hft:aI c.σ ft) (hov:bD aq c 60 (eD ov)) (hc:gm c.σ cN) {iv T_ by_:V} (D_:ak c.σ iv (cp z)) (k_:ak c.σ T_ nm) (A_:ak c.σ by_ eY):ah kx c 84 1717 (iA iv T_ by_):=by
 refine a8 (af ?_)
 exact⟨tx ft (eD ov) 12 1717,[],[.ref 0,cp z,nm,eY],.bool true,[],cN,dB (n:=60) (m:=12) G hft hov,
  ax.cons (ak.refl _) (ax.cons D_ (ax.cons k_ (ax.one A_))),ak.refl _,ae,hc,run⟩
def Vs(lf:List (Nat×SE×V))(om:List (Nat×V)):FT:={rng:=pK,len:=[],lf:=lf,df:=[],om:=om}
def sk(G:bJ c)(t:dT c.σ)(W:Wd c.σ T M uE uF){lf:List (Nat×SE×V)}{om:List (Nat×V)}(hlf:∀p∈lf,jX c.σ p)(hom:∀p∈om,c.σ.ω p.1=p.2/\p.1 < 1000):aI c.σ (Vs lf om) where
 rng:=t.rng W
 len:=ae
 lf:=hlf
 df:=ae
 pk:=ae
 pkz:=ae
 sf:=ae
 fm:=ae
 ef:=ae
 om p hp:=(hom p hp).1
 ac C ns h:=by exact oN h
 oe:=ae
 ca:=ae
 cb:=ae
 z:=G.z
 big:=G.big
def SA:Kd->Int
 | .no=>23
 | _=>0
def R6:Kd->V
 | .nul=>.int 0
 | .yes=>dM
 | .no=>.none
def EJ(G:bJ c)(W:Wd c.σ T M uE uF)(t:dT c.σ){z:Kd}(cN:sU c z pD kL (SA z) (R6 z) true)
  {iv T_ by_:V} (D_:ak c.σ iv (cp z)) (k_:ak c.σ T_ pD) (A_:ak c.σ by_ eY):ah kx c 84 1717 (iA iv T_ by_):=by
 have run:=ai Az z (xB z)
 induction z using Kd.casesOn <;> exact o6 G run (sk G t W (t.lf) ae) (qX G cN) (aV) D_ k_ A_
def R5(k:Nat):V:=match bM k with
 | true=>mM k
 | false=>.none
def Sz(k:Nat):Int:=match bM k with
 | true=>0
 | false=>21
def Rp{es:Nat->List Nat}(Tt:iP c bj es){i j:Nat}(e:es i=es j):c.σ.π i=c.σ.π j:=by
 funext ρ I k x
 exact propext ((Tt.O.π i ρ I k x).trans ((show gD bj (gp (es i)) ρ I k x↔gD bj (gp (es j)) ρ I k x by rw[e]).trans (Tt.O.π j ρ I k x).symm))
def Rs{es:Nat->List Nat}(Tt:iP c bj es)(h:es 4=es 6):gm c.σ ⟨[],[],[(4,6)],[]⟩:=⟨ae,ae,af (Rp Tt h),ae⟩
def EI(G:bJ c){es:Nat->List Nat}(Tt:iP c bj es)(h46:es 4=es 6)(W:Wd c.σ T M uE uF)(t:dT c.σ){k:Nat}(hk:k∈eG)(cN:sU c .nul (aM k) (iN k) (Sz k) (R5 k) false)
  {iv T_ by_:V} (D_:ak c.σ iv (.int 0)) (k_:ak c.σ T_ (aM k)) (A_:ak c.σ by_ eY):ah kx c 84 1717 (iA iv T_ by_):=by
 have run:=ai Ay k hk
 exact o6 (z:=.nul) G run (sk G t W (t.lf) ae) (qX G cN) (Rs Tt h46) D_ k_ A_
def An(uE uF ex k:Nat):Int:=match lR uE uF ex k with
 | some _=>0
 | .none=>23
def Ac(uE uF ex k:Nat):V:=match lR uE uF ex k with
 | some v=>v
 | .none=>.none
def xZ(W:Wd c.σ T M uE uF)(ex k:Nat):eJ uE uF ex k∈qK ex k:=by
 unfold eJ qK
 have hE:=W.hE
 have hF:=W.hF
 clear W
 cases bt 20 [ex,k] <;> cases bt 21 [ex,k] <;> dsimp only
 ·exact .head _
 ·revert uF;decide
 ·revert uE;decide
 ·revert uF;revert uE;decide
def Mn(uE uF ex k:Nat):Pw (eJ uE uF ex k).1 (eJ uE uF ex k).2 ex k=Pw uE uF ex k:=by
 unfold eJ Pw
 cases bt 20 [ex,k] <;> cases bt 21 [ex,k] <;> rfl
def CL(uE uF ex k x:Nat)(hx:x=ex\/x=k):QM (eJ uE uF ex k).1 (eJ uE uF ex k).2 x=QM uE uF x:=by
 have m20:x=20->bt 20 [ex,k]=true:=λh=>rg (by rcases hx with rfl|rfl <;> simp[h])
 have m21:x=21->bt 21 [ex,k]=true:=λh=>rg (by rcases hx with rfl|rfl <;> simp[h])
 unfold QM
 split
 ·show(eJ uE uF ex k).1=uE
  unfold eJ;rw[m20 rfl]
 ·show(eJ uE uF ex k).2=uF
  unfold eJ;rw[m21 rfl]
 ·rfl
def x0(uE uF ex k:Nat):lR (eJ uE uF ex k).1 (eJ uE uF ex k).2 ex k=lR uE uF ex k:=by
 unfold lR
 rw[CL uE uF ex k ex (.inl rfl),CL uE uF ex k k (.inr rfl)]
def QR(W:Wd c.σ T M uE uF)(ex k:Nat):∀p∈Pw uE uF ex k,c.σ.ω p.1=p.2/\p.1 < 1000:=by
 unfold Pw
 refine bw ?_ ?_
 ·split
  ·exact af ⟨W.w13,by dsimp only;omega⟩
  ·exact ae
 ·split
  ·exact af ⟨W.w14,by dsimp only;omega⟩
  ·exact ae
def HX{ex:Nat}(a2:am ex=false->At c.σ 12 (c.σ.ν 20) (eW ex)):∀p∈(match am ex with|true=>[]|false=>[((12:Nat),SE.at 20,eW ex)]),jX c.σ p:=by
 rcases e:am ex with _|_
 ·exact af (a2 e).lf
 ·exact ae
def EK(G:bJ c){es:Nat->List Nat}(Tt:iP c bj es)(h46:es 4=es 6)(W:Wd c.σ T M uE uF)(t:dT c.σ){ex k:Nat}(hx:ex∈ma)(hk:k∈eG)(a1:At c.σ 11 (c.σ.ν 20) (aM ex))(a2:am ex=false->At c.σ 12 (c.σ.ν 20) (eW ex))
  (cN:sU c .no (aM k) (iN k) (An uE uF ex k) (Ac uE uF ex k) false)
  {iv T_ by_:V} (D_:ak c.σ iv dM) (k_:ak c.σ T_ (aM k)) (A_:ak c.σ by_ eY):ah kx c 84 1717 (iA iv T_ by_):=by
 have run:=ai (ai (ai AA ex hx) k hk) _ (xZ W ex k)
 unfold K5 at run
 rw[Mn,x0] at run
 exact o6 (z:=.no) G run (sk G t W (lf:=Dz++Rf ex) (bw (t.lf) (aa a1.lf (HX a2))) (QR W ex k)) (qX G cN) (Rs Tt h46) D_ k_ A_
def ah.any{f sp}(h:ah aq c n f sp):ah kx c n f sp:=λa A p m Y s vs us k R hr hA hs S hv hR _=>h a A p m Y s vs us k R hr hA hs S hv hR λ_ _ _ _ _ _ _ _ _ h=>nomatch h
theorem bD.any{fns}(h:bD aq c n fns):bD kx c n fns:=λf sp e=>⟨(h f sp e).1.any,(h f sp e).2⟩
def vI(G:bJ c){ft:FT}(F:aI c.σ ft){ov:Addr->Option FS}(O:bD aq c n ov){m:Nat}{f:Addr}:ah kx c (n+2 * m+4) f (P9 ft ov m f):=by
 have H:=G.cfg F
 have O':bD kx c (n+2 * m) ov:=λf sp e=>⟨((O f sp e).1.any).le (j2 _ _),(O f sp e).2⟩
 have TR:pn c (n+2 * m) (Jc ft ov m):=λrx f sp h=>kR (X:=SM ft rx) ⟨H.glob,H.attr,H.sets,H.mth,H.mkI,H.mk0,H.exc,H.xat,H.ft⟩ (λ_ _ h=>h) (λ_ _ _ h=>nomatch h) G.src O.any m f sp h
 unfold P9
 rcases e:uK (Jc ft ov m) src ov 2 f with _|sp
 ·exact λa A p m Y s vs us k R _ _ h=>nomatch h
 ·exact(kR (X:=Jc ft ov m) ⟨H.glob,H.attr,H.sets,H.mth,H.mkI,H.mk0,H.exc,H.xat,H.ft⟩ (λ_ _ h=>nomatch h) TR G.src O' 2 f sp e).1
def nk(G:bJ c)(t:dT c.σ)(W:Wd c.σ T M uE uF){lf:List (Nat×SE×V)}{ef:List (SE×SE)}(hlf:∀p∈lf,jX c.σ p)(hef:∀p∈ef,p.1.ev c.σ.ν=p.2.ev c.σ.ν):aI c.σ {rng:=pK,len:=[],lf:=lf,df:=[],ef:=ef} where
 rng:=t.rng W
 len:=ae
 lf:=hlf
 df:=ae
 pk:=ae
 pkz:=ae
 sf:=ae
 fm:=ae
 ef:=hef
 om:=ae
 ac C ns h:=by exact oN h
 oe:=ae
 ca:=ae
 cb:=ae
 z:=G.z
 big:=G.big
def KZ(G:bJ c){es:Nat->List Nat}(Tt:iP c bj es)(W:Wd c.σ T M uE uF)(t:dT c.σ){k:Nat}(hk:k∈x8){kv:V}(H_:ak c.σ kv (iN k)):ah kx c 30 1005 (bg pU [⟨[.ref P.I_,kv],mM k,[]⟩]):=
 a8 (af ⟨_,[],_,_,_,_,dB (n:=6) (m:=12) G (nk G t W ae ae) (bQ G _ (dW G Tt)),ax.cons (ak.refl _) (ax.one H_),ak.refl _,ae,aV,ai Oy k hk⟩)
def nv(G:bJ c){es:Nat->List Nat}(Tt:iP c bj es):∀p∈ED::mZ,ah aq c 16 p.1 p.2/\wu p.1=true:=
 aa ⟨EF G Tt,rfl⟩ λp hp=>⟨(dW G Tt p hp).1.le (by decide),(dW (kx:=aq) G Tt p hp).2⟩
def zB(G:bJ c){es:Nat->List Nat}(Tt:iP c bj es)(W:Wd c.σ T M uE uF)(t:dT c.σ){k:Nat}(hk:k∈KN)(h40:c.σ.ω 40=aM k)(n40:c.σ.ν 40=.ofNat k){z:Kd}
  (hv:ah aq c 6 224 (mI fB [⟨[kL],.bool false,.none⟩])) (hi:z≠.nul->ah aq c 16 866 (bg Pj [⟨[.ref P.I_,dM,kL],.bool z.b,[]⟩])):
  ah kx c 60 1710 (bg vp [⟨[.ref 0,pD,cp z],.tup [.int (SA z),R6 z],[]⟩]):=by
 refine a8 (af ?_)
 have run:=ai vM z (by induction z using Kd.casesOn <;> simp)
 have O:bD aq c 16 (eD (Kr z)):=by
  refine bQ G _ (bw (bw (af ⟨hv.le (by decide),rfl⟩) ?_) (nv G Tt))
  induction z using Kd.casesOn with
  | nul=>exact ae
  | no=>exact af ⟨hi nofun,rfl⟩
  | yes=>exact af ⟨hi nofun,rfl⟩
 have code:=(vI (kx:=aq) (m:=12) (f:=1710) G (wy G t W hk h40 n40) O).le (m:=60) (by decide)
 induction z using Kd.casesOn <;> exact⟨_,[],_,_,_,_,code,ax.refl _,ak.refl _,ae,aV,run⟩
def zz(G:bJ c){es:Nat->List Nat}(Tt:iP c bj es)(W:Wd c.σ T M uE uF)(t:dT c.σ){k:Nat}(hk:k∈eG):ah kx c 60 1710 (bg vp [⟨[.ref 0,aM k,.int 0],.tup [.int (Sz k),R5 k],[]⟩]):=by
 refine a8 (af ?_)
 have run:=ai vL k hk
 have O:bD aq c 30 (eD (Kq k)):=by
  refine bQ G _ (bw ?_ λp hp=>⟨(nv G Tt p hp).1.le (by decide),(nv G Tt p hp).2⟩)
  have hq:bM k=true->k∈x8:=by
   have:∀k∈eG,bM k=true->k∈x8:=by decide
   exact this k hk
  rcases e:bM k with _|_
  ·exact ae
  ·exact af ⟨KZ G Tt W t (hq e) (ak.refl _),rfl⟩
 exact⟨_,[],_,_,_,_,(vI (kx:=aq) (m:=12) (f:=1710) G (nk G t W (lf:=Dz++[]) (bw t.lf ae) ae) O).le (m:=60) (by decide),ax.refl _,ak.refl _,ae,aV,run⟩
def vN(W:Wd c.σ T M uE uF){sp:Bool}{ex k:Nat}(h:aB (λp:Nat×Nat=>gF sp p.1 p.2 ex k) (qK ex (az k))=true):gF sp uE uF ex k=true:=by
 have run:=ai h _ (xZ W ex (az k))
 have e1:PE (eJ uE uF ex (az k)).1 (eJ uE uF ex (az k)).2 ex (az k)=PE uE uF ex (az k):=by
  unfold eJ PE
  cases bt 20 [ex,az k] <;> cases bt 21 [ex,az k] <;> rfl
 have e2:lR (eJ uE uF ex (az k)).1 (eJ uE uF ex (az k)).2 ex k=lR uE uF ex k:=by
  rcases e:bM k with _|_
  ·have:az k=k:=by
    unfold az
    unfold bM at e
    split
    ·rename_i h;rw[h] at e;dsimp only at e;rw[e]
    ·rfl
   rw[this];exact x0 uE uF ex k
  ·unfold lR;rw[e]
 unfold gF at run ⊢
 rw[e1,e2] at run
 exact run
def zE{sp:Bool}{ex k:Nat}(hex:ex∈ma)(hsp:sp=true->ex=17)(hk:k∈eG):aB (λp:Nat×Nat=>gF sp p.1 p.2 ex k) (qK ex (az k))=true:=by
 rcases sp with _|_
 ·exact ai (f:=λk=>aB (λp:Nat×Nat=>gF false p.1 p.2 ex k) (qK ex (az k))) (ai vO ex hex) k hk
 ·rw[hsp rfl]
  exact ai (f:=λk=>aB (λp:Nat×Nat=>gF true p.1 p.2 17 k) (qK 17 (az k))) zC k hk
def zD(G:bJ c){es:Nat->List Nat}(Tt:iP c bj es)(W:Wd c.σ T M uE uF)(t:dT c.σ){sp:Bool}{ex k:Nat}(hex:ex∈ma)(hsp:sp=true->ex=17)(hk:k∈eG)(hx:At c.σ 10 (c.σ.ν 20) (um sp ex)):
  ah kx c 60 1710 (bg vp [⟨[.ref 0,aM k,dM],.tup [.int (An uE uF ex k),Ac uE uF ex k],[]⟩]):=by
 refine a8 (af ?_)
 have run:gF sp uE uF ex k=true:=vN W (zE hex hsp hk)
 have O:bD aq c 16 (eD (ED::mZ)):=bQ G _ (nv G Tt)
 have hef:∀p∈PE uE uF ex (az k),p.1.ev c.σ.ν=p.2.ev c.σ.ν:=by
  unfold PE
  refine bw ?_ ?_
  ·rcases bt 20 [ex,az k] with _|_
   ·exact ae
   ·exact af W.n7
  ·rcases bt 21 [ex,az k] with _|_
   ·exact ae
   ·exact af W.n8
 have code:=(vI (kx:=aq) (m:=12) (f:=1710) G (nk G t W (lf:=Dz++[(10,.at 20,um sp ex)]) (bw t.lf (af hx.lf)) hef) O).le (m:=60) (by decide)
 unfold gF at run
 rcases e:lR uE uF ex k with _|v
 ·rw[e] at run
  have e1:An uE uF ex k=23:=by unfold An;rw[e]
  have e2:Ac uE uF ex k=.none:=by unfold Ac;rw[e]
  rw[e1,e2]
  exact⟨_,[],_,_,_,_,code,ax.refl _,ak.refl _,ae,aV,run⟩
 ·rw[e] at run
  have e1:An uE uF ex k=0:=by unfold An;rw[e]
  have e2:Ac uE uF ex k=v:=by unfold Ac;rw[e]
  rw[e1,e2]
  exact⟨_,[],_,_,_,_,code,ax.refl _,ak.refl _,ae,aV,run⟩
variable{σ σ':Sg}
def zw(e:List Nat)(oc:Nat):List Nat:=fg [ins 0 e,ins 1 e,ins 1 e,ins 0 e] oc e
def ls(e:List Nat)(oc:Nat):List Nat:=fg [ins 0 e,ins 1 e,ins 2 (ins 1 e),ins 3 (ins 0 e)] oc e
def LL(e:List Nat)(oc:Nat):Int:=fg [.ofNat (dm 0 (ins 0 e)),.ofNat (dm 1 (ins 1 e)),.ofNat (dm 1 (ins 1 e)),.ofNat (dm 0 (ins 0 e))] oc 0
def LK(e:List Nat)(oc:Nat):Int:=fg [0,0,.ofNat (dm 2 (ins 2 (ins 1 e))),.ofNat (dm 3 (ins 3 (ins 0 e)))] oc 0
def PT(e:List Nat)(oc k:Nat):Int:=fg [LL e oc,LL e oc,LK e oc,LK e oc] oc (.ofNat k)
def Yb(e:List Nat)(o1 o2 o3:Nat):Nat->List Nat:=λi=>fg [e,zw e o1,ls e o1,zw (ls e o1) o2,ls (ls e o1) o2,zw (ls (ls e o1) o2) o3] i (ls (ls (ls e o1) o2) o3)
def mf(e f:List Nat)(oc:Nat):Bool:=fg [bb (bt 0 f) (Nat.beq (dm 0 f) (dm 0 (ins 0 e))),bb (bt 1 f) (Nat.beq (dm 1 f) (dm 1 (ins 1 e))),bb (bt 2 f) (Nat.beq (dm 2 f) (dm 2 (ins 2 (ins 1 e)))),bb (bt 3 f) (Nat.beq (dm 3 f) (dm 3 (ins 3 (ins 0 e))))] oc true
def kg(f e:List Nat):Bool:=aB (λj=>V.beq (dZ e (cP e j)) (dZ f (cP f j))) (cz e.length 0)
def iE(e:List Nat):List Nat->Bool:=List.rec (λ_=>true) (λa _ g f=>bR f λb r=>bb (Nat.beq a b) (g r)) e
def tO(e r:List Nat):iE e (e++r)=true:=by
 induction e with
 | nil=>rfl
 | cons a e ih=>exact aP (mz a) ih
def HB:Bool:=aB (λe=>aB (λf=>bi (iE e f).not true (bb (kg f e) (aB (λoc=>bi (iE (ls e oc) f).not true (mf e f oc)) (cz 5 0)))) cj) cj
def GK:Bool:=aB (λe=>aB (λoc=>bb (lb (Ch (zw e oc)) cj) (lb (Ch (ls e oc)) cj)) (cz 5 0)) cj
def CR:HB=true:=by kernel_rfl
def B6:GK=true:=by kernel_rfl
def GP(a:List Nat):∀{b},Ch a b=true->a=b:=by
 induction a with
 | nil=>intro b h;rw[ba h]
 | cons x a ih=>intro b h;exact aT h λy r e h1 h=>by rw[e,cf h1,ih h]
def zg{a:List Nat}(h:lb (Ch a) cj=true):a∈cj:=la h λb m e=>by rw[GP a e];exact m
def jm(x:Nat)(e:List Nat):iM e (ins x e):=by
 unfold ins
 rcases bt x e with _|_
 ·exact⟨[x],rfl⟩
 ·exact⟨[],(gN e).symm⟩
def tS{C:Nat->Prop}(h0:C 0)(h1:C 1)(h2:C 2)(h3:C 3)(h4:C 4):∀oc < 5,C oc:=by
 intro oc h
 match oc,h with
 | 0,_=>exact h0
 | 1,_=>exact h1
 | 2,_=>exact h2
 | 3,_=>exact h3
 | 4,_=>exact h4
 | n+5,h=>lia
def tP{a b d:List Nat}(h:iM a b)(k:iM b d):iM a d:=by
 refine bV h λr e=>?_;refine bV k λs e'=>?_
 exact⟨r++s,by rw[e',e,gK]⟩
def fY(a:List Nat):iM a a:=⟨[],(gN a).symm⟩
def j7(e:List Nat):∀oc < 5,iM e (zw e oc):=tS (jm 0 e) (jm 1 e) (jm 1 e) (jm 0 e) (fY e)
def j8(e:List Nat):∀oc < 5,iM (zw e oc) (ls e oc):=tS (fY _) (fY _) (jm 2 _) (jm 3 _) (fY e)
def LJ(e:List Nat)(oc:Nat)(h:oc < 5):iM e (ls e oc):=tP (j7 e oc h) (j8 e oc h)
def lq{e:List Nat}(h:e∈cj){oc:Nat}(ho:oc < 5):zw e oc∈cj/\ls e oc∈cj:=by
 have:=ai (ai B6 e h) oc ((cM 5).mpr ⟨fv _,by omega⟩)
 exact⟨zg (al.mp this).1,zg (al.mp this).2⟩
def yd{e f:List Nat}(he:e∈cj)(hf:f∈cj)(h:iM e f):bb (kg f e) (aB (λoc=>bi (iE (ls e oc) f).not true (mf e f oc)) (cz 5 0))=true:=by
 have h1:aB (λf=>bi (iE e f).not true (bb (kg f e) (aB (λoc=>bi (iE (ls e oc) f).not true (mf e f oc)) (cz 5 0)))) cj=true:=ai CR e he
 have h2:bi (iE e f).not true (bb (kg f e) (aB (λoc=>bi (iE (ls e oc) f).not true (mf e f oc)) (cz 5 0)))=true:=ai (f:=λf=>bi (iE e f).not true (bb (kg f e) (aB (λoc=>bi (iE (ls e oc) f).not true (mf e f oc)) (cz 5 0)))) h1 f hf
 refine bV h λr er=>?_
 exact o7 h2 (by rw[er];exact tO e r)
def B7{e f:List Nat}(he:e∈cj)(hf:f∈cj){oc:Nat}(ho:oc < 5)(h:iM (ls e oc) f):mf e f oc=true:=by
 have h1:=yd he hf (tP (LJ e oc ho) h)
 have h2:bi (iE (ls e oc) f).not true (mf e f oc)=true:=ai (f:=λoc=>bi (iE (ls e oc) f).not true (mf e f oc)) (al.mp h1).2 oc ((cM 5).mpr ⟨fv _,by omega⟩)
 refine bV h λr er=>?_
 exact o7 h2 (by rw[er];exact tO _ r)
def yo{e:List Nat}{j x:Nat}(h:e[j]? =some x):cP e j=x:=by
 unfold cP fg
 rw[bK,h]
def Cp{e f:List Nat}(he:e∈cj)(hf:f∈cj)(h:iM e f){j x:Nat}(hj:e[j]? =some x):dZ e x=dZ f x:=by
 have h1:=(al.mp (yd he hf h)).1
 have hl:=(oD hj).1
 have h2:V.beq (dZ e (cP e j)) (dZ f (cP f j))=true:=ai (f:=λj=>V.beq (dZ e (cP e j)) (dZ f (cP f j))) h1 j ((cM _).mpr ⟨fv _,by lia⟩)
 have h3:cP f j=x:=yo (by refine bV h λr er=>?_;rw[er,qI hl];exact hj)
 rw[yo hj,h3] at h2
 exact V.eq_of_beq _ h2
def EH{e f:List Nat}(he:e∈cj)(hf:f∈cj){T M k oc:Nat}(hk:k < 37)(ho:oc < 5)(h:iM (ls e oc) f)
  (h0:oc=0->k=T) (h1:oc=1->k=M) (h2:oc=2->(M,k)∈[(20,27),(22,28),(7,25)]) (h3:oc=3->(T,k)∈[(17,30),(7,33),(12,32)]):A8 f (PT e oc k) (.ofNat T) (.ofNat M) k:=by
 have hs:=B7 he hf ho h
 clear h
 revert h0 h1 h2 h3 hs
 refine UO ho ?_ ?_ ?_ ?_ ?_
 ·exact λh _ _ _ hs=>ag hs λa b=>.inr (.inl ⟨a,bl Int.ofNat (cf b).symm,bl Int.ofNat (h rfl).symm⟩)
 ·exact λ_ h _ _ hs=>ag hs λa b=>.inr (.inr (.inl ⟨a,bl Int.ofNat (cf b).symm,bl Int.ofNat (h rfl).symm⟩))
 ·exact λ_ _ h _ hs=>ag hs λa b=>.inr (.inr (.inr (.inl ⟨a,bl Int.ofNat (cf b).symm,M,rfl,h rfl⟩)))
 ·exact λ_ _ _ h hs=>ag hs λa b=>.inr (.inr (.inr (.inr ⟨a,bl Int.ofNat (cf b).symm,T,rfl,h rfl⟩)))
 ·exact λ_ _ _ _ _=>.inl ⟨hk,rfl⟩
def UK:Bool:=aB (λT=>aB (λM=>aB (λk=>fg [Nat.beq k T,Nat.beq k M,lb (λz:Nat×Nat=>bb (Nat.beq z.1 M) (Nat.beq z.2 k)) [(20,27),(22,28),(7,25)],lb (λz:Nat×Nat=>bb (Nat.beq z.1 T) (Nat.beq z.2 k)) [(17,30),(7,33),(12,32)]] (il T M k) (Nat.beq (il T M k) 4)) KN) ML) TL
def QW:UK=true:=by kernel_rfl
def QX{T M k:Nat}(hT:T∈TL)(hM:M∈ML)(hk:k∈KN):il T M k < 5/\(il T M k=0->k=T)/\(il T M k=1->k=M)/\(il T M k=2->(M,k)∈[(20,27),(22,28),(7,25)])/\(il T M k=3->(T,k)∈[(17,30),(7,33),(12,32)]):=by
 have h1:fg [Nat.beq k T,Nat.beq k M,lb (λz:Nat×Nat=>bb (Nat.beq z.1 M) (Nat.beq z.2 k)) [(20,27),(22,28),(7,25)],lb (λz:Nat×Nat=>bb (Nat.beq z.1 T) (Nat.beq z.2 k)) [(17,30),(7,33),(12,32)]] (il T M k) (Nat.beq (il T M k) 4)=true:=ai (ai (ai QW T hT) M hM) k hk
 generalize il T M k=oc at h1 ⊢
 have e2:∀{a b:Nat} {l:List (Nat×Nat)},lb (λz:Nat×Nat=>bb (Nat.beq z.1 a) (Nat.beq z.2 b)) l=true->(a,b)∈l:=λh=>la h λz m e=>ag e λe1 e2=>by rw[<-cf e1,<-cf e2];exact m
 match oc with
 | 0=>exact⟨by decide,λ_=>cf h1,(λh=>by lia),(λh=>by lia),(λh=>by lia)⟩
 | 1=>exact⟨by decide,(λh=>by lia),λ_=>cf h1,(λh=>by lia),(λh=>by lia)⟩
 | 2=>exact⟨by decide,(λh=>by lia),(λh=>by lia),λ_=>e2 h1,(λh=>by lia)⟩
 | 3=>exact⟨by decide,(λh=>by lia),(λh=>by lia),(λh=>by lia),λ_=>e2 h1⟩
 | n+4=>
  have:n+4=4:=cf h1
  exact⟨by lia,(λh=>by lia),(λh=>by lia),(λh=>by lia),(λh=>by lia)⟩
variable{σi Z8 σj:Sg}
def F_(n:Nat):Hp:=Nat.rec [] (λ_ g=>.gone::g) n
def Ct(e:Nat):∀{k},RH c p k (F_ e) []:=by
 induction e with
 | zero=>intro k;exact rfl
 | succ e ih=>intro k;exact⟨[],[],rfl,rfl,ih⟩
theorem RH.F_(e:Nat)(H:Hp):∀{k x},RH c p k H x->RH c p k (H++F_ e) x:=by
 induction H with
 | nil=>intro k x h;rw[show x=[] from h];exact Ct e
 | cons o H ih=>intro k x h;refine eC h λa b e1 y1 y2=>?_;exact⟨a,b,e1,y1,ih y2⟩
def qo(n:Nat):(F_ n).length=n:=by
 induction n with
 | zero=>rfl
 | succ n ih=>exact bl (· +1) ih
end
section
variable{c bj:Cx}{p q:Pt}{kx:Nat->Sy->Bool}{n:Nat}
def Bd{α:Type}(d:α)(n:Nat)(l:List (Nat×α)):α:=List.rec d (λz _ g=>Bool.rec g z.2 (Nat.beq z.1 n)) l
def jk{α:Type}{P:α->Prop}{d:α}{n:Nat}(l:List (Nat×α))(h:∀z∈l,P z.2)(hd:P d):P (Bd d n l):=by
 induction l with
 | nil=>exact hd
 | cons z l ih=>
  show P (Bool.rec (Bd d n l) z.2 (Nat.beq z.1 n))
  rcases Nat.beq z.1 n with _|_
  ·exact ih λy hy=>h y (.tail _ hy)
  ·exact h z (.head _)
structure F8 where
 nu:List (Nat×Int)
 om:List (Nat×V)
 ga:List (Nat×List V)
 de:List (Nat×(Int->Option V))
 ze:List (Nat×Nat)
 fl:Nat->Bool
 ev:Nat->List Nat
 ho:∀z∈om,z.2.h_=true
 hg:∀z∈ga,∀v∈z.2,v.h_=true
 hd:∀z∈de,∀x v,z.2 x=some v->v.h_=true
def F8.s0(r:F8):Sg where
 ν n:=Bd 0 n r.nu
 ω n:=Bd .none n r.om
 γ n:=Bd [] n r.ga
 δ n:=Bd (λ_=>.none) n r.de
 β:=r.fl
 z n:=Bd 0 n r.ze
 clo _ _:=False
 π _ _ _ _ _:=False
 cω n:=jk (P:=λv:V=>v.h_=true) r.om r.ho rfl
 cγ g:=jk (P:=λl:List V=>∀v,v∈l->v.h_=true) r.ga r.hg (λv h=>nomatch h)
 cδ g:=jk (P:=λf:Int->Option V=>∀x v,f x=some v->v.h_=true) r.de r.hd (λx v h=>nomatch h)
 πm h _ _:=h
def F8.s(r:F8)(c:Cx):Sg:=r.s0.pi (λi ρ I k x=>gD (c.sg r.s0) (gp (r.ev i)) ρ I k x) λh a b=>h.mono a b
def F8.kt(r:F8)(c:Cx)(ok:∀i,r.ev i∈cj)(g40:Bd [] 40 r.ga=cE)(g41:Bd [] 41 r.ga=ii 38 (iN 0))(om:∀i j x,(r.ev i)[j]? =some x->Bd .none (70+j) r.om=dZ (r.ev i) x):iP (c.sg (r.s c)) (c.sg r.s0) r.ev:=
 ⟨⟨λ_ _ _ _ _=>Iff.rfl,λ_ _ _ _ _=>False,λh _ _=>h,rfl⟩,ok,g40,g41,om⟩
structure Th where
 ex:Nat
 a:Int
 b:Int
 c:Int
 d:Int
 br:V
 ts:List V
 sp:Bool
def pE(k:Nat)(a b c d:Int):V:=match k with
 | 22=>.tup [.int a,.int b,.tup [.int c,.int d]]
 | 24=>.tup [.int a]
 | _=>.int a
def Th.hv(t:Th):V:=match am t.ex with
 | true=>.none
 | false=>pE t.ex t.a t.b t.c t.d
def Th.sl(t:Th):List V:=match am t.ex with
 | true=>[]
 | false=>[pE t.ex t.a t.b t.c t.d]
structure Tk(t:Th):Prop where
 br:t.br.h_=true
 ts:zQ 0 t.ts=true
def ni(k:Nat)(a b c d:Int):(pE k a b c d).h_=true:=by
 unfold pE
 split <;> rfl
def Th.ac2(t:Th):t.hv.h_=true:=by
 unfold Th.hv
 split
 ·rfl
 ·exact ni ..
def Th.ab7(t:Th):zQ 0 t.sl=true:=by
 unfold Th.sl
 split
 ·rfl
 ·exact aP (ni ..) rfl
def jQ{α:Type}(f:Nat->Th->α)(l:List Th):Nat->List α:=List.rec (λ_=>[]) (λt _ g i=>f i t::g (i+1)) l
def rR{α:Type}{f:Nat->Th->α}(l:List Th):∀{i},(jQ f l i).length=l.length:=by
 induction l with
 | nil=>intro i;rfl
 | cons t l ih=>intro i;exact bl (· +1) ih
def Ih{α:Type}{f:Nat->Th->α}(l:List Th):∀{i j:Nat} {t},l[j]? =some t->(jQ f l i)[j]? =some (f (i+j) t):=by
 induction l with
 | nil=>exact nofun
 | cons t l ih=>
  intro i j u h
  induction j using nC with
  | zero=>obtain rfl:=oI h;rfl
  | succ j=>show(jQ f l (i+1))[j]? =_;rw[ih h,show i+1+j=i+(j+1) by omega]
def yC{α:Type}{f:Nat->Th->α}{t:Th}(l:List Th):∀{i},jQ f (l++[t]) i=jQ f l i++[f (i+l.length) t]:=by
 induction l with
 | nil=>intro i;rfl
 | cons u l ih=>intro i;show f i u::jQ f (l++[t]) (i+1)=f i u::(jQ f l (i+1)++_);rw[ih,show i+1+l.length=i+(u::l).length by rw[gq];lia]
def rQ{α:Type}{f:Nat->Th->α}{P:α->Prop}(l:List Th):∀{i},(∀i t,t∈l->P (f i t))->∀v∈jQ f l i,P v:=by
 induction l with
 | nil=>exact λ_ v h=>nomatch h
 | cons t l ih=>intro i h v hv;exact(dL.mp hv).elim (λe=>e▸h i t (.head _)) (ih (λi u hu=>h i u (.tail _ hu)) v)
def rX(i:Nat)(t:Th):V:=qk (iN i) (match t.sp with|true=>.int (-1)|false=>iN t.ex) t.sl (match t.sp with|true=>vT|false=>.none)
def aU(i:Nat):Nat:=13+3 * i
def pH(i:Nat)(t:Th):V:=.fin 1121 [(cc "addr",iN (aU i)),(cc "kind",iN t.ex),(cc "slots",.fls t.ts),(cc "gen",.int 0),(cc "size",.int 3),(cc "serial",iN i)]
def VF:V:=.str (Str.ofString "")
def G0(l:List Th):List V:=.none::jQ rX l 1
def G1(l:List Th):List V:=VF::jQ (λ_ t=>aM t.ex) l 1
def G2(l:List Th):List V:=.none::jQ (λ_ t=>t.hv) l 1
def G3(l:List Th):List V:=.none::jQ (λ_ t=>t.br) l 1
def G4(l:List Th):List V:=iN 0::jQ (λi _=>iN i) l 1
def G5(l:List Th):List V:=iN 0::jQ (λi _=>iN (aU i)) l 1
def G6(l:List Th):List V:=jQ pH l 1
def D0(l:List Th):Nat->Int->Option V:=List.rec (λ_ _=>.none) (λt _ g i x=>if .ofNat (aU i)=x then some (pH i t) else g (i+1) x) l
def xv(l:List Th):∀{i j:Nat} {t},l[j]? =some t->D0 l i (.ofNat (aU (i+j)))=some (pH (i+j) t):=by
 induction l with
 | nil=>exact nofun
 | cons u l ih=>
  intro i j t h
  show(if Int.ofNat (aU i)=.ofNat (aU (i+j)) then some (pH i u) else D0 l (i+1) _)=_
  induction j using nC with
  | zero=>obtain rfl:=oI h;exact if_pos rfl
  | succ j=>
   rw[if_neg (λe=>by have:=Int.ofNat.inj e;unfold aU at this;lia),show i+(j+1)=i+1+j by lia]
   exact ih h
def Pp{t:Th}(l:List Th):∀{i x},D0 (l++[t]) i x=if Int.ofNat (aU (i+l.length))=x then some (pH (i+l.length) t) else D0 l i x:=by
 induction l with
 | nil=>intro i x;rfl
 | cons u l ih=>
  intro i x
  show(if Int.ofNat (aU i)=x then some (pH i u) else D0 (l++[t]) (i+1) x)=if Int.ofNat (aU (i+(u::l).length))=x then _ else if Int.ofNat (aU i)=x then some (pH i u) else D0 l (i+1) x
  rw[ih,show i+(u::l).length=i+1+l.length by rw[gq];lia]
  by_cases h:Int.ofNat (aU i)=x
  ·rw[if_pos h,if_neg (λe=>by rw[<-h] at e;have:=Int.ofNat.inj e;unfold aU at this;lia),if_pos h]
  ·rw[if_neg h,if_neg h]
def Gf{P:V->Prop}(l:List Th):∀{i},(∀i t,t∈l->P (pH i t))->∀x v,D0 l i x=some v->P v:=by
 induction l with
 | nil=>exact λ_ x v h=>nomatch h
 | cons u l ih=>
  intro i h x v e
  have e:(if Int.ofNat (aU i)=x then some (pH i u) else D0 l (i+1) x)=some v:=e
  by_cases hx:Int.ofNat (aU i)=x
  ·rw[if_pos hx] at e;obtain rfl:=oI e;exact h i u (.head _)
  ·rw[if_neg hx] at e;exact ih (λi t ht=>h i t (.tail _ ht)) x v e
def Io(i:Nat)(t:Th):(rX i t).h_=true:=by
 have e:(V.fls t.sl).S_ 0=true:=(ji 0 t.sl).trans t.ab7
 unfold rX qk
 refine(ik 0 _ _).trans ?_
 cases t.sp <;> exact aP (a:=(V.fls t.sl).S_ 0) e rfl
def xK(i:Nat){t:Th}(h:Tk t):(pH i t).h_=true:=by
 have e:(V.fls t.ts).S_ 0=true:=(ji 0 t.ts).trans h.ts
 exact(ik 0 _ _).trans (aP (a:=(V.fls t.ts).S_ 0) e rfl)
structure Md where
 T:Nat
 M:Nat
 uE:Nat
 uF:Nat
 fl:Nat->Bool
 sc:List Int
 tl:List Th
 at_:Nat
 st:Nat
 es:List Nat
 vs:List V
 dl:Int->Option V
 zl:Nat
def R8(hi:Bool)(a:Int):Int:=match hi with
 | true=>a+ -4294967296
 | false=>a
def Bf(hi:Bool)(k:Nat)(a m e f:Int):V:=match k with
 | 22=>.tup [iN 5,iN 22,.tup [.tup [iN 1,.int a],.tup [iN 4,.int m],.tup [iN 5,iN 26,.tup [.tup [iN 1,.int e],.tup [iN 1,.int f]]]]]
 | 24=>.tup [iN 5,iN 24,.tup [.tup [iN 1,.int (R8 hi a)]]]
 | _=>.tup [iN 1,.int (R8 hi a)]
def Ki(k:Nat):V:=.tup [iN k,iN 0]
def Ba(ex:Nat)(br:V)(sp:Bool):Th:=⟨ex,0,0,0,0,br,[br],sp⟩
def qM:List Th:=[Ba 17 (Ki 4) false,Ba 18 (Ki 4) false,Ba 13 (.tup [iN 8,VF]) false,Ba 17 (Ki 4) true,Ba 30 (Ki 4) false,Ba 31 (Ki 4) false,Ba 33 (Ki 1) false,Ba 34 (Ki 1) false,Ba 32 (Ki 4) false]
def Th.m(t:Th):Int:=match t.b.toNat with
 | 0=>0
 | b=>.ofNat (aU b)
def qE(t:Th):Prop:=(am t.ex=false/\t.ex∈[1,4,7,8,20,21,22,24])/\t.sp=false/\∃hi,hi∈lP t.ex/\Py hi<=t.a/\t.a<=PB hi/\t.ts=[Bf hi t.ex t.a t.m t.c t.d]
def JW(tl:List Th):Prop:=∀j t,tl[j]? =some t->(j < 9->qM[j]? =some t)/\(9<=j->qE t)
def tm(i:Nat)(t:Th):Prop:=Tk t/\t.ex∈ma/\(t.sp=true->t.ex=17)/\t.br.fr=true/\Oi t.ts=true
structure aF(d:Md):Prop where
 hT:d.T∈TL
 hM:d.M∈ML
 hE:d.uE∈[7,4,8]
 hF:d.uF∈[7,4,8]
 sc:d.sc.length<=40
 th:∀t∈d.tl,tm 0 t
 ix:∀t∈d.tl,0<=t.b/\t.b<=d.tl.length
 n9:9<=d.tl.length
 tk:JW d.tl
 r0:∀t,d.tl[0]? =some t->am t.ex=true
 nn:d.tl.length<=800
 at_:d.at_<=990
 st:d.st<=3000
 es:d.es∈cj
 vs:∀v∈d.vs,v.h_=true/\v.fr=true
 v1:1<=d.vs.length
 v9:d.vs.length<=900
 z9:d.zl<=900
 d0:d.dl 0=.none
 dl:∀x v,d.dl x=some v->v.h_=true/\v.fr=true
structure Dp where
 d:Md
 kh:Nat
 b2:Bool
 k:Nat
 by_:Bool
 o1:Nat
 o2:Nat
 o3:Nat
 ka:Nat
 i:Nat
 bx:Option Bool
 a:Int
 b:Nat
 e:Int
 f:Int
 g:Int
 nm:Bool
 hv:V
 k45:Nat
 k47:Nat
 k48:Nat
 k49:Nat
 n52:Int
 n50:Int
 n53:Int
 n54:Int
 n55:Int
 n56:Int
 n57:Int
 kv:V
 da:Nat:=3
def Dp.o(x:Dp):Int:=jb (x.d.sc.map .int) x.d.at_
def Dp.x(x:Dp):Int:=jb (x.d.sc.map .int) (x.d.at_+1)
def Dp.y(x:Dp):Int:=jb (x.d.sc.map .int) (x.d.at_+2)
def Dp.nn(x:Dp):Nat:=x.d.tl.length+1
def Dp.ev(x:Dp):Nat->List Nat:=Yb x.d.es x.o1 x.o2 x.o3
noncomputable def up(b:Option Bool)(n:Nat):Nat:=match b with
 | some _=>n
 | .none=>0
def Dp.e2(x:Dp):List Nat:=ls x.d.es x.o1
def Dp.e4(x:Dp):List Nat:=ls x.e2 x.o2
def Dp.iz(x:Dp):Nat:=match x.i with
 | 0=>1
 | i=>i
def Dp.nu(x:Dp):List (Nat×Int):=[(5,.ofNat x.d.T),(6,.ofNat x.d.M),(7,.ofNat x.d.uE),(8,.ofNat x.d.uF),(9,.ofNat x.d.at_),(38,.ofNat (x.d.at_+x.da)),(10,.ofNat x.d.st),(39,.ofNat (x.d.st+1)),(14,.ofNat x.d.vs.length),
 (15,.ofNat (aU x.nn)),(16,.ofNat x.d.tl.length),(17,.ofNat (3 * x.d.tl.length)),(35,.ofNat (aU x.nn+up x.bx 3)),(36,.ofNat (x.d.tl.length+up x.bx 1)),(37,.ofNat (3 * x.d.tl.length+up x.bx 3)),
 (18,.ofNat x.d.sc.length),(19,.ofNat x.nn),(20,.ofNat x.iz),(59,.ofNat x.i),(24,.ofNat (aU x.iz)),(26,x.a),(27,.ofNat x.b),(28,x.e),(29,x.f),(51,x.g),(58,(match x.b with|0=>0|b=>.ofNat (aU b))),
 (21,.ofNat x.kh),(40,.ofNat x.k),(44,.ofNat x.ka),(30,PT x.d.es x.o1 x.kh),(32,PT x.e2 x.o2 x.k),(34,PT x.e4 x.o3 x.ka),(60,LL x.d.es x.o1),(61,LK x.d.es x.o1),(62,LL x.e2 x.o2),(63,LK x.e2 x.o2),(64,LL x.e4 x.o3),(65,LK x.e4 x.o3),
 (41,x.o),(42,x.x),(43,x.y),(50,x.n50),(53,x.n53),(52,x.n52),(54,x.n54),(55,x.n55),(56,x.n56),(57,x.n57),(71,5 * .ofNat x.d.at_),(72,5 * .ofNat (x.d.at_+1)),(73,5 * .ofNat (x.d.at_+2))]
def pJ(e:List Nat)(j:Nat):V:=match e[j]? with
 | some x=>dZ e x
 | .none=>.none
def Dp.e6(x:Dp):List Nat:=ls x.e4 x.o3
def Dp.om(x:Dp):List (Nat×V):=[(11,aM x.d.T),(12,aM x.d.M),(13,aM x.d.uE),(14,aM x.d.uF),(15,.str (Str.ofString "?" ++dI x.d.M)),(16,.str (dI x.d.T++Str.ofString "[]")),(22,.bool x.by_),(25,.bool x.b2),(23,aM x.kh),(21,x.hv),(24,x.hv),
 (40,aM x.k),(45,aM x.k45),(46,.bool x.nm),(47,aM x.k47),(48,aM x.k48),(49,aM x.k49),(70,pJ x.e6 0),(71,pJ x.e6 1),(72,pJ x.e6 2),(73,pJ x.e6 3)]
def ap{α:Type}(b:Option Bool)(l:List α)(v:Bool->α):List α:=match b with
 | some h=>l++[v h]
 | .none=>l
def vi{α:Type}(b:Bool)(l:List α)(v:α):List α:=match b with
 | true=>l++[v]
 | false=>l
def Dp.ga(x:Dp):List (Nat×List V):=[(0,G0 x.d.tl),(1,G1 x.d.tl),(2,G2 x.d.tl),(3,G3 x.d.tl),(4,G4 x.d.tl),(5,G5 x.d.tl),(6,G6 x.d.tl),(7,x.d.vs),(9,x.d.sc.map .int),(10,ap x.bx (G0 x.d.tl) λ_=>Be (az x.kh)),(11,ap x.bx (G1 x.d.tl) λ_=>aM (az x.kh)),
 (12,ap x.bx (G2 x.d.tl) λ_=>eW (az x.kh)),(13,ap x.bx (G3 x.d.tl) λ_=>.none),(14,ap x.bx (G4 x.d.tl) λ_=>dM),(15,ap x.bx (G5 x.d.tl) λ_=>s_ 15),(16,ap x.bx (G6 x.d.tl) λh=>lx h (az x.kh)),(17,vi x.nm x.d.vs (nL x.kv)),(40,cE),(41,ii 38 (iN 0))]
def yV(b:Option Bool)(a:Int)(v:Bool->V)(f:Int->Option V):Int->Option V:=match b with
 | some h=>λx=>if a=x then some (v h) else f x
 | .none=>f
def Dp.de(x:Dp):List (Nat×(Int->Option V)):=[(0,D0 x.d.tl 1),(1,x.d.dl),(10,yV x.bx (.ofNat (aU x.nn)) (λh=>lx h (az x.kh)) (D0 x.d.tl 1)),(11,yV (match x.nm with|true=>some true|false=>.none) (.ofNat x.d.vs.length) (λ_=>.any) x.d.dl)]
def Dp.ze(x:Dp):List (Nat×Nat):=[(0,x.d.tl.length),(1,x.d.zl),(10,x.d.tl.length+up x.bx 1),(11,x.d.zl+1)]
def xP(k:Nat):(eW k).h_=true:=by
 unfold eW;split <;> rfl
def B0(h:Bool)(k:Nat):(iK h k).h_=true:=by
 unfold iK;induction h using bC <;> split <;> rfl
def tq(h:Bool)(k:Nat):(lx h k).h_=true:=by
 have e:(V.fls [iK h k]).S_ 0=true:=(ji 0 _).trans (aP (B0 h k) rfl)
 exact(ik 0 _ _).trans (aP (a:=(V.fls [iK h k]).S_ 0) e rfl)
def Ij(k:Nat):(Be k).h_=true:=by
 have e:(V.fls [eW k]).S_ 0=true:=(ji 0 _).trans (aP (xP k) rfl)
 exact(ik 0 _ _).trans (aP (a:=(V.fls [eW k]).S_ 0) e rfl)
def jV{α:Type}{P:α->Prop}{b:Option Bool}{l:List α}{v:Bool->α}(h:∀x∈l,P x)(hv:∀h,P (v h)):∀x∈ap b l v,P x:=by
 unfold ap
 split
 ·exact bw h (af (hv _))
 ·exact h
def dJ{P:V->Prop}{v:V}{f:Nat->Th->V}{l:List Th}(h:P v)(h':∀i t,t∈l->P (f i t)):∀x∈v::jQ f l 1,P x:=aa h (rQ l h')
def sq{P:V->Prop}{b:Option Bool}{a:Int}{v:Bool->V}{f:Int->Option V}(hf:∀x w,f x=some w->P w)(hv:∀h,P (v h)):∀x w,yV b a v f x=some w->P w:=by
 intro x w
 unfold yV
 split
 ·intro h
  split at h
  ·obtain rfl:=oI h;exact hv _
  ·exact hf x w h
 ·exact hf x w
def wF(e:List Nat)(x:Nat):(dZ e x).h_=true:=by
 match x with
 | 0|1|2|3|n+4=>rfl
def Cq(e:List Nat)(j:Nat):(pJ e j).h_=true:=by
 unfold pJ
 split
 ·exact wF ..
 ·rfl
def BK{v:V}(h:v.h_=true):(nL v).h_=true:=(ik 0 _ _).trans (aP (a:=v.S_ 0) h rfl)
def Dp.raw(x:Dp)(h:aF x.d)(hv:x.hv.h_=true/\x.kv.h_=true):F8 where
 nu:=x.nu
 om:=x.om
 ga:=x.ga
 de:=x.de
 ze:=x.ze
 fl:=x.d.fl
 ev:=x.ev
 ho:=by
  refine aa rfl (aa rfl (aa rfl (aa rfl (aa rfl (aa rfl (aa rfl (aa rfl (aa rfl (aa hv.1 (aa hv.1 (aa rfl (aa rfl (aa rfl (aa rfl (aa rfl (aa rfl (aa ?_ (aa ?_ (aa ?_ (af ?_))))))))))))))))))))
  all_goals exact Cq ..
 hg:=by
  have c0:=dJ (P:=λv:V=>v.h_=true) (v:=.none) (f:=rX) (l:=x.d.tl) rfl λi t _=>Io i t
  have c1:=dJ (P:=λv:V=>v.h_=true) (v:=VF) (f:=λ_ t=>aM t.ex) (l:=x.d.tl) rfl λi t _=>rfl
  have c2:=dJ (P:=λv:V=>v.h_=true) (v:=.none) (f:=λ_ t=>t.hv) (l:=x.d.tl) rfl λi t _=>t.ac2
  have c3:=dJ (P:=λv:V=>v.h_=true) (v:=.none) (f:=λ_ t=>t.br) (l:=x.d.tl) rfl λi t ht=>(h.th t ht).1.br
  have c4:=dJ (P:=λv:V=>v.h_=true) (v:=iN 0) (f:=λi _=>iN i) (l:=x.d.tl) rfl λi t _=>rfl
  have c5:=dJ (P:=λv:V=>v.h_=true) (v:=iN 0) (f:=λi _=>iN (aU i)) (l:=x.d.tl) rfl λi t _=>rfl
  have c6:∀v∈G6 x.d.tl,v.h_=true:=rQ x.d.tl λi t ht=>xK i (h.th t ht).1
  have c7:∀v∈x.d.vs,v.h_=true:=λv hv=>(h.vs v hv).1
  refine aa c0 (aa c1 (aa c2 (aa c3 (aa c4 (aa c5 (aa c6 (aa c7 (aa ?_ (aa (jV c0 λ_=>Ij _) (aa (jV c1 λ_=>rfl) (aa (jV c2 λ_=>xP _) (aa (jV c3 λ_=>rfl) (aa (jV c4 λ_=>rfl) (aa (jV c5 λ_=>rfl) (aa (jV c6 λh=>tq h _) (aa ?_ (aa ?_ (af ?_))))))))))))))))))
  ·intro v hv
   refine aH (fw.mp hv) λi _ e=>?_
   rw[<-e];rfl
  ·show ∀v∈vi x.nm x.d.vs (nL x.kv),v.h_=true
   unfold vi
   split
   ·exact bw c7 (af (BK hv.2))
   ·exact c7
  ·exact q8 (m:=0) (l:=cE) (by decide +kernel)
  ·exact q8 (m:=0) (l:=ii 38 (iN 0)) (by decide +kernel)
 hd:=by
  have e0:=Gf (P:=λv:V=>v.h_=true) x.d.tl (i:=1) λi t ht=>xK i (h.th t ht).1
  have e1:∀a v,x.d.dl a=some v->v.h_=true:=λa v e=>(h.dl a v e).1
  exact aa e0 (aa e1 (aa (sq e0 λh=>tq h _) (af (sq e1 λ_=>rfl))))
structure aw(x:Dp):Prop where
 d:aF x.d
 hv:x.hv.h_=true/\x.kv.h_=true
 hf:x.hv.fr=true
 kh:x.kh∈KN
 k:x.k∈KN
 o1:x.o1=iO x.d.T x.d.M x.kh x.b2\/x.o1=4
 o2:x.o2=iO x.d.T x.d.M x.k x.by_\/x.o2=4
 kaN:x.ka∈KN/\az x.ka=az x.k
 o3:x.o3=iO x.d.T x.d.M x.ka x.by_\/x.o3=4
def Dp.s(x:Dp)(h:aw x)(c:Cx):Sg:=(x.raw h.d h.hv).s c
def Dp.cx(x:Dp)(h:aw x)(c:Cx):Cx:=c.sg (x.s h c)
variable{x:Dp}
def aw.W(h:aw x):Wd (x.cx h c).σ x.d.T x.d.M x.d.uE x.d.uF:=⟨h.d.hT,h.d.hM,h.d.hE,h.d.hF,rfl,rfl,rfl,rfl,rfl,rfl,rfl,rfl⟩
def wc{T M k:Nat}(hT:T∈TL)(hM:M∈ML)(hk:k∈KN)(b:Bool):iO T M k b < 5/\(iO T M k b=0->k=T)/\(iO T M k b=1->k=M)/\(iO T M k b=2->(M,k)∈[(20,27),(22,28),(7,25)])/\(iO T M k b=3->(T,k)∈[(17,30),(7,33),(12,32)]):=by
 rcases b with _|_
 ·exact⟨(show 4 < 5 by decide),(λh=>by cases h),(λh=>by cases h),(λh=>by cases h),(λh=>by cases h)⟩
 ·exact QX hT hM hk
def rJ{T M k:Nat}(hk:k∈KN)(b:Bool):gU T M k b∈KN/\az (gU T M k b)=az k:=by
 have h1:=Mx k hk
 have h2:∀k∈KN,az (az k)=az k:=by decide +kernel
 unfold gU
 split
 ·exact⟨hk,rfl⟩
 ·split
  ·exact⟨h1,h2 k hk⟩
  ·split
   ·exact⟨hk,rfl⟩
   ·split
    ·exact⟨hk,rfl⟩
    ·exact⟨h1,h2 k hk⟩
def sm{T M k:Nat}:4 < 5/\(4=0->k=T)/\(4=1->k=M)/\(4=2->(M,k)∈[(20,27),(22,28),(7,25)])/\(4=3->(T,k)∈[(17,30),(7,33),(12,32)]):=⟨by decide,(λh=>by lia),(λh=>by lia),(λh=>by lia),(λh=>by lia)⟩
def aw.l1(h:aw x):x.o1 < 5/\(x.o1=0->x.kh=x.d.T)/\(x.o1=1->x.kh=x.d.M)/\(x.o1=2->(x.d.M,x.kh)∈[(20,27),(22,28),(7,25)])/\(x.o1=3->(x.d.T,x.kh)∈[(17,30),(7,33),(12,32)]):=by
 refine h.o1.elim (λe=>?_) λe=>?_
 ·rw[e];exact wc h.d.hT h.d.hM h.kh x.b2
 ·rw[e];exact sm
def aw.l2(h:aw x):x.o2 < 5/\(x.o2=0->x.k=x.d.T)/\(x.o2=1->x.k=x.d.M)/\(x.o2=2->(x.d.M,x.k)∈[(20,27),(22,28),(7,25)])/\(x.o2=3->(x.d.T,x.k)∈[(17,30),(7,33),(12,32)]):=by
 refine h.o2.elim (λe=>?_) λe=>?_
 ·rw[e];exact wc h.d.hT h.d.hM h.k x.by_
 ·rw[e];exact sm
def aw.l3(h:aw x):x.o3 < 5/\(x.o3=0->x.ka=x.d.T)/\(x.o3=1->x.ka=x.d.M)/\(x.o3=2->(x.d.M,x.ka)∈[(20,27),(22,28),(7,25)])/\(x.o3=3->(x.d.T,x.ka)∈[(17,30),(7,33),(12,32)]):=by
 refine h.o3.elim (λe=>?_) λe=>?_
 ·rw[e];exact wc h.d.hT h.d.hM h.kaN.1 x.by_
 ·rw[e];exact sm
def aw.s2(h:aw x):x.e2∈cj:=(lq h.d.es h.l1.1).2
def aw.s4(h:aw x):x.e4∈cj:=(lq h.s2 h.l2.1).2
def aw.s6(h:aw x):x.e6∈cj:=(lq h.s4 h.l3.1).2
def Os{P:List Nat->Prop}(h0:P x.d.es)(h1:P (zw x.d.es x.o1))(h2:P x.e2)(h3:P (zw x.e2 x.o2))(h4:P x.e4)(h5:P (zw x.e4 x.o3))(h6:P x.e6):∀i,P (x.ev i):=λi=>match i with
 | 0=>h0
 | 1=>h1
 | 2=>h2
 | 3=>h3
 | 4=>h4
 | 5=>h5
 | n+6=>h6
theorem aw.ev(h:aw x)(i:Nat):x.ev i∈cj/\iM (x.ev i) x.e6:=by
 have p1:=j7 x.d.es x.o1 h.l1.1
 have q1:=j8 x.d.es x.o1 h.l1.1
 have p2:=j7 x.e2 x.o2 h.l2.1
 have q2:=j8 x.e2 x.o2 h.l2.1
 have p3:=j7 x.e4 x.o3 h.l3.1
 have q3:=j8 x.e4 x.o3 h.l3.1
 have r4:iM x.e4 x.e6:=tP p3 q3
 have r3:iM (zw x.e2 x.o2) x.e6:=tP q2 r4
 have r2:iM x.e2 x.e6:=tP p2 r3
 have r1:iM (zw x.d.es x.o1) x.e6:=tP q1 r2
 exact Os (P:=λe=>e∈cj/\iM e x.e6) ⟨h.d.es,tP p1 r1⟩ ⟨(lq h.d.es h.l1.1).1,r1⟩ ⟨h.s2,r2⟩ ⟨(lq h.s2 h.l2.1).1,r3⟩ ⟨h.s4,r4⟩ ⟨(lq h.s4 h.l3.1).1,q3⟩ ⟨h.s6,fY _⟩ i
def GO{e:List Nat}(h:e∈cj):e.length<=4:=by
 have:∀e∈cj,e.length<=4:=by decide +kernel
 exact this e h
theorem aw.kt(h:aw x):iP (x.cx h c) (c.sg (x.raw h.d h.hv).s0) x.ev:=by
 refine F8.kt (x.raw h.d h.hv) c (λi=>(h.ev i).1) rfl rfl λi j y e=>?_
 have e:(x.ev i)[j]? =some y:=e
 have hp:=(h.ev i).2
 have hs:=Cp (h.ev i).1 h.s6 hp e
 have hl:=(oD e).1
 have hj:j < 4:=vz hl (GO (h.ev i).1)
 have e6:x.e6[j]? =some y:=by refine bV hp λr er=>?_;rw[er,qI hl];exact e
 have er:pJ x.e6 j=dZ (x.ev i) y:=by unfold pJ;rw[e6];exact hs.symm
 clear hl e6 e
 revert hj er
 rcases j with _|_|_|_|j
 ·exact λ_ er=>er
 ·exact λ_ er=>er
 ·exact λ_ er=>er
 ·exact λ_ er=>er
 ·exact λh _=>absurd h (Nat.not_lt.mpr (Nat.le_add_left 4 j))
def qJ{σ:Sg}{es:Nat->List Nat}{v oc:Nat}(h:oc < 5):es (v+1)=zw (es v) oc->es (v+2)=ls (es v) oc->σ.ν (60+v)=LL (es v) oc->σ.ν (61+v)=LK (es v) oc->sM σ es v oc:=by
 refine UO h ?_ ?_ ?_ ?_ ?_
 ·exact λh1 h2 h3 h4=>⟨h1,by rw[h1];exact h3,by rw[h1,h2];rfl⟩
 ·exact λh1 h2 h3 h4=>⟨h1,by rw[h1];exact h3,by rw[h1,h2];rfl⟩
 ·exact λh1 h2 h3 h4=>⟨h1,by rw[h1];exact h3,by rw[h1,h2];rfl,by rw[h2];exact h4⟩
 ·exact λh1 h2 h3 h4=>⟨h1,by rw[h1];exact h3,by rw[h1,h2];rfl,by rw[h2];exact h4⟩
 ·exact λh1 h2 h3 h4=>h2
def aw.w0(h:aw x):sM (x.cx h c).σ x.ev 0 x.o1:=qJ h.l1.1 rfl rfl rfl rfl
def aw.w2(h:aw x):sM (x.cx h c).σ x.ev 2 x.o2:=qJ h.l2.1 rfl rfl rfl rfl
def aw.w4(h:aw x):sM (x.cx h c).σ x.ev 4 x.o3:=qJ h.l3.1 rfl rfl rfl rfl
def No:∀k∈KN,k < 37:=by decide
def aw.c30(h:aw x):A8 (x.ev 4) ((x.cx h c).σ.ν 30) ((x.cx h c).σ.ν 5) ((x.cx h c).σ.ν 6) x.kh:=EH h.d.es h.s4 (No _ h.kh) h.l1.1 (tP (j7 x.e2 x.o2 h.l2.1) (j8 x.e2 x.o2 h.l2.1)) h.l1.2.1 h.l1.2.2.1 h.l1.2.2.2.1 h.l1.2.2.2.2
def aw.c32(h:aw x):A8 (x.ev 4) ((x.cx h c).σ.ν 32) ((x.cx h c).σ.ν 5) ((x.cx h c).σ.ν 6) x.k:=EH h.s2 h.s4 (No _ h.k) h.l2.1 (fY _) h.l2.2.1 h.l2.2.2.1 h.l2.2.2.2.1 h.l2.2.2.2.2
def aw.c34(h:aw x):A8 (x.ev 6) ((x.cx h c).σ.ν 34) ((x.cx h c).σ.ν 5) ((x.cx h c).σ.ν 6) x.ka:=EH h.s4 h.s6 (No _ h.kaN.1) h.l3.1 (fY _) h.l3.2.1 h.l3.2.2.1 h.l3.2.2.2.1 h.l3.2.2.2.2
def nW{σ:Sg}{e:List Nat}{v k n oc:Nat}(h:oc < 5):σ.ν (60+v)=LL e oc->σ.ν (61+v)=LK e oc->σ.ν n=PT e oc k->ak σ (tI v k oc) (s_ n):=by
 refine UO h ?_ ?_ ?_ ?_ ?_
 ·exact λh1 h2 h3=>dH (a:=.at (60+v)) (b:=.at n) (h1.trans h3.symm)
 ·exact λh1 h2 h3=>dH (a:=.at (60+v)) (b:=.at n) (h1.trans h3.symm)
 ·exact λh1 h2 h3=>dH (a:=.at (61+v)) (b:=.at n) (h2.trans h3.symm)
 ·exact λh1 h2 h3=>dH (a:=.at (61+v)) (b:=.at n) (h2.trans h3.symm)
 ·exact λ_ _ h3=>dX h3
def aw.r0(h:aw x):ak (x.cx h c).σ (tI 0 x.kh x.o1) (s_ 30):=nW h.l1.1 rfl rfl rfl
def aw.r2(h:aw x):ak (x.cx h c).σ (tI 2 x.k x.o2) (s_ 32):=nW h.l2.1 rfl rfl rfl
def aw.r4(h:aw x):ak (x.cx h c).σ (tI 4 x.ka x.o3) (s_ 34):=nW h.l3.1 rfl rfl rfl
end
section
variable{c bj:Cx}{p q:Pt}{kx:Nat->Sy->Bool}{n:Nat}{x:Dp}{σ:Sg}
def zn{f:Nat->Th->V}{c0:V}{l:List Th}{j:Nat}{t:Th}(h:l[j]? =some t):(c0::jQ f l 1)[j+1]? =some (f (j+1) t):=by
 rw[s7,Ih l h,Nat.add_comm 1 j]
def lX{b:Option Bool}{l:List V}{v:Bool->V}{i:Nat}{u:V}(h:l[i]? =some u):(ap b l v)[i]? =some u:=by
 unfold ap
 split
 ·rw[qI (oD h).1];exact h
 ·exact h
def O8{hb:Bool}{l:List V}{v:Bool->V}{i:Nat}(h:l.length=i):(ap (some hb) l v)[i]? =some (v hb):=by
 show(l++[v hb])[i]? =_
 rw[<-h];exact vC
def je{f:Nat->Th->V}{c0:V}(l:List Th):(c0::jQ f l 1).length=l.length+1:=by rw[gq,rR]
def Dp.af2(x:Dp)(t:Th):Prop:=am t.ex=false->x.a=t.a/\(x.b:Int)=t.b/\x.e=t.c/\x.f=t.d
inductive Dp.W_(x:Dp):Nat->Bool->Prop
 | old {j t}:x.bx=.none->x.iz=j+1->x.d.tl[j]? =some t->x.af2 t->W_ x t.ex t.sp
 | new {hb}:x.bx=some hb->x.iz=x.nn->W_ x (az x.kh) false
def At.nat{g:Nat}{i:Nat}{u v:V}(h:(σ.γ g)[i]? =some u)(k:ak σ u v):At σ g (.ofNat i) v:=⟨nI i,u,h,k⟩
def Dp.W_.at{ex:Nat}{sp:Bool}(T:x.W_ ex sp)(h:aw x){g:Nat}{f:Nat->Th->V}{c0:V}{w:Bool->V}{v:V}(hg:(x.cx h c).σ.γ g=ap x.bx (c0::jQ f x.d.tl 1) w)
  (ho:∀j t,x.bx=.none->x.iz=j+1->x.d.tl[j]? =some t->x.af2 t->t.ex=ex->t.sp=sp->ak (x.cx h c).σ (f (j+1) t) v) (hn:∀hb,x.bx=some hb->x.iz=x.nn->az x.kh=ex->sp=false->ak (x.cx h c).σ (w hb) v):At (x.cx h c).σ g ((x.cx h c).σ.ν 20) v:=by
 cases T with
 | old h1 h2 h3 a=>exact At.nat (i:=x.iz) (by rw[hg,h2];exact lX (zn h3)) (ho _ _ h1 h2 h3 a rfl rfl)
 | new h1 h2=>exact At.nat (i:=x.iz) (by rw[hg,h1];exact O8 (by rw[je,h2];rfl)) (hn _ h1 h2 rfl rfl)
def bu{i:Int}{n:Nat}(h:σ.ν n=i):ak σ (.int i) (s_ n):=dX h
def Dp.W_.a11{ex sp}(T:x.W_ ex sp)(h:aw x):At (x.cx h c).σ 11 ((x.cx h c).σ.ν 20) (aM ex):=T.at h rfl (λj t _ _ _ _ e _=>e▸ak.refl _) λhb _ _ e _=>e▸ak.refl _
def Dp.W_.a14{ex sp}(T:x.W_ ex sp)(h:aw x):At (x.cx h c).σ 14 ((x.cx h c).σ.ν 20) dM:=T.at h rfl (λj t _ e _ _ _ _=>bu (bl Int.ofNat e)) λhb _ _ _ _=>ak.refl _
def Dp.W_.a15{ex sp}(T:x.W_ ex sp)(h:aw x):At (x.cx h c).σ 15 ((x.cx h c).σ.ν 20) vE:=T.at h rfl (λj t _ e _ _ _ _=>bu (bl (λi=>Int.ofNat (aU i)) e)) λhb _ e _ _=>dH (a:=.at 15) (b:=.at 24) (bl (λi=>Int.ofNat (aU i)) e.symm)
def iC(σ:Sg)(l l':List (Nat×V)):Prop:=∀⦃c:Cx⦄ ⦃p:Pt⦄ ⦃es:List DictEntry⦄,c.σ=σ->RA c p l es->RA c p l' es
def iC.nil:iC σ [] []:=λ_ _ _ _ h=>h
theorem iC.cons{k:Nat}{v v' l l'}(h:ak σ v v')(i:iC σ l l'):iC σ ((k,v)::l) ((k,v')::l'):=λc p es hc r=>by
 refine li r.inv λy t u Zk e1 e2 r1 r2=>?_
 have e1:k=code y:=e1
 rw[e2,e1]
 exact .cons (h hc r1) (i hc r2)
theorem iC.fin{C l l'}(h:iC σ l l'):ak σ (.fin C l) (.fin C l'):=λc p u hc r=>by
 refine li r.inv λa d es n e h1 h2 h3=>?_
 rw[e];exact .fin h1 h2 (h hc h3)
theorem ax.fls{l l'}(h:ax σ l l'):ak σ (.fls l) (.fls l'):=λc p u hc r=>by
 refine mE r.inv λa items n e h1 h2=>?_
 rw[e];exact .fls h1 (h hc h2)
def aD{v:V}:ak σ v .any:=λ_ _ _ _ r=>.any r.handed
def fM{k:Nat}{a b e f:Int}(h1:σ.ν 26=a)(h2:σ.ν 27=b)(h3:σ.ν 28=e)(h4:σ.ν 29=f):ak σ (pE k a b e f) (eW k):=by
 by_cases e1:k=22
 ·rw[e1];exact ax.tup (.cons (bu h1) (.cons (bu h2) (.one (ax.tup (.cons (bu h3) (.one (bu h4)))))))
 ·by_cases e2:k=24
  ·rw[e2];exact ax.tup (.one (bu h1))
  ·rw[show pE k a b e f=.int a by unfold pE;split <;> first|contradiction|rfl,show eW k=s_ 26 by unfold eW;split <;> first|contradiction|rfl]
   exact bu h1
def Dp.W_.a12{ex sp}(T:x.W_ ex sp)(h:aw x)(hr:am ex=false):At (x.cx h c).σ 12 ((x.cx h c).σ.ν 20) (eW ex):=T.at h rfl (λj t _ _ _ s q _=>by
  refine Gk (s (q▸hr)) λa b e f=>?_
  show ak _ t.hv _
  unfold Th.hv
  rw[q,hr]
  exact fM a b e f) λhb _ _ e _=>e▸ak.refl _
def Dp.W_.a10{ex sp}(T:x.W_ ex sp)(h:aw x):At (x.cx h c).σ 10 ((x.cx h c).σ.ν 20) (yy sp ex):=T.at h rfl (λj t _ i _ _ q s=>by
  show ak _ (rX (j+1) t) _
  unfold rX yy
  rw[q,s]
  have hi:ak (x.cx h c).σ (iN (j+1)) dM:=bu (bl Int.ofNat i)
  induction sp using bC with
  | true=>exact iC.fin (.cons hi (.cons (ak.refl _) (.cons aD (.cons aD (.cons aD (.cons aD (.cons (ak.refl _) .nil)))))))
  | false=>exact iC.fin (.cons hi (.cons (ak.refl _) (.cons aD (.cons aD (.cons aD (.cons aD (.cons (ak.refl _) .nil)))))))) λhb _ _ q s=>by
  rw[<-q,s]
  exact iC.fin (.cons (ak.refl _) (.cons (ak.refl _) (.cons aD (.cons aD (.cons aD (.cons aD (.cons (ak.refl _) .nil)))))))
def Dp.W_.ah7{ex}(T:x.W_ ex false)(h:aw x)(hr:am ex=false):At (x.cx h c).σ 10 ((x.cx h c).σ.ν 20) (.fin 470 [(cc "number",dM),(cc "kind",iN ex),(cc "slots",.fls [eW ex]),(cc "text",.any),(cc "rows",.any),(cc "version",.any),(cc "special",.none)]):=T.at h rfl (λj t _ i _ ss q s=>by
  refine Gk (ss (q▸hr)) λa b e f=>?_
  show ak _ (rX (j+1) t) _
  unfold rX
  rw[q,s]
  have hi:ak (x.cx h c).σ (iN (j+1)) dM:=bu (bl Int.ofNat i)
  have hs:ak (x.cx h c).σ (.fls t.sl) (.fls [eW ex]):=by
   unfold Th.sl
   rw[q,hr]
   exact ax.fls (.one (fM a b e f))
  exact iC.fin (.cons hi (.cons (ak.refl _) (.cons hs (.cons aD (.cons aD (.cons aD (.cons (ak.refl _) .nil)))))))) λhb _ _ q s=>by
  rw[<-q]
  exact iC.fin (.cons (ak.refl _) (.cons (ak.refl _) (.cons (ak.refl _) (.cons aD (.cons aD (.cons aD (.cons (ak.refl _) .nil)))))))
def Dp.W_.own{k sp}(T:x.W_ (az k) sp)(h:aw x)(hr:am (az k)=false)(hs:sp=false):A2 (x.cx h c).σ k:=⟨T.a11 h,T.a12 h hr,(hs▸T).ah7 h hr⟩
def Dp.W_.da{ex sp}(T:x.W_ ex sp)(h:aw x):Tz (x.cx h c).σ 10 ((x.cx h c).σ.ν 24) (vP (iN ex) .any):=by
 cases T with
 | @old j t h1 h2 h3 a=>
  refine⟨pH (j+1) t,?_,?_⟩
  ·show yV x.bx _ _ (D0 x.d.tl 1) (.ofNat (aU x.iz))=_
   rw[h1,h2,Nat.add_comm j 1]
   exact xv x.d.tl h3
  ·exact iC.fin (.cons (bu (bl (λi=>Int.ofNat (aU i)) h2)) (.cons (ak.refl _) (.cons aD (.cons aD (.cons aD (.cons aD .nil))))))
 | @new hb h1 h2=>
  refine⟨lx hb (az x.kh),?_,?_⟩
  ·show yV x.bx _ _ (D0 x.d.tl 1) (.ofNat (aU x.iz))=_
   rw[h1,h2]
   exact if_pos rfl
  ·exact iC.fin (.cons (dH (a:=.at 15) (b:=.at 24) (bl (λi=>Int.ofNat (aU i)) h2.symm)) (.cons (ak.refl _) (.cons aD (.cons aD (.cons aD (.cons aD .nil))))))
def q6{f:Nat->Th->V}{c0:V}{l:List Th}{i:Nat}(h:i<=l.length):(i=0/\(c0::jQ f l 1)[i]? =some c0)\/∃t,i≠0/\(c0::jQ f l 1)[i]? =some (f i t):=by
 induction i using nC with
 | zero=>exact .inl ⟨rfl,rfl⟩
 | succ j=>exact .inr ⟨l[j],nofun,zn (vr h)⟩
structure jA(x:Dp):Prop where
 b:x.b<=x.d.tl.length
 i:(x.i=0/\x.bx=.none)\/x.i=x.iz
def VZ(h:aw x)(X:jA x):At (x.cx h c).σ 4 ((x.cx h c).σ.ν 27) (s_ 27):=
 (q6 (f:=λi _=>iN i) (c0:=iN 0) X.b).elim (λe=>At.nat (i:=x.b) e.2 (bu (bl Int.ofNat e.1))) λe=>e.elim λt e=>At.nat (i:=x.b) e.2 (bu rfl)
def V0(h:aw x)(X:jA x):At (x.cx h c).σ 14 ((x.cx h c).σ.ν 27) (s_ 27):=
 (q6 (f:=λi _=>iN i) (c0:=iN 0) X.b).elim (λe=>At.nat (i:=x.b) (lX e.2) (bu (bl Int.ofNat e.1))) λe=>e.elim λt e=>At.nat (i:=x.b) (lX e.2) (bu rfl)
def Xa(h:aw x)(X:jA x):At (x.cx h c).σ 5 ((x.cx h c).σ.ν 27) (s_ 58):=
 (q6 (f:=λi _=>iN (aU i)) (c0:=iN 0) X.b).elim (λe=>At.nat (i:=x.b) e.2 (bu (by show(match x.b with|0=>(0:Int)|b=>.ofNat (aU b))=_;rw[e.1];rfl))) λe=>e.elim λt e=>At.nat (i:=x.b) e.2 (bu (by show(match x.b with|0=>(0:Int)|b=>.ofNat (aU b))=_;induction hb:x.b using nC with|zero=>exact absurd hb e.1|succ=>rfl))
def rN:1<=x.iz:=by
 unfold Dp.iz
 split
 ·exact fG _
 ·rename_i h;exact Nat.pos_of_ne_zero h
def Dp.W_.YX{ex sp}(T:x.W_ ex sp)(h:aw x)(X:jA x):dT (x.cx h c).σ where
 h20:=gM.mpr rN
 h24:=gM.mpr (by have:=rN (x:=x);unfold aU;lia:16<=aU x.iz)
 h10:=nI _
 ae7:=gM.mpr h.d.st
 h14:=gM.mpr h.d.v1
 h39:=rfl
 len7:=rfl
 i20:=T.a14 h
 a20:=T.a15 h
 a0:=At.nat (i:=0) (lX rfl) (ak.refl _)
 i0:=At.nat (i:=0) (lX rfl) (ak.refl _)
 i27:=V0 h X
 d1:=h.d.d0
def Ry:Bool:=aB (λT=>aB (λM=>aB (λk=>bb (bt (gU T M k true) (ZJ k)) (bt (gU T M k false) (ZJ k))) KN) ML) TL
def NB:Ry=true:=by kernel_rfl
theorem aw.ZJ(h:aw x)(K:x.ka=gU x.d.T x.d.M x.k x.by_):x.ka∈ZJ x.k:=by
 have h1:bb (bt (gU x.d.T x.d.M x.k true) (Z1.ZJ x.k)) (bt (gU x.d.T x.d.M x.k false) (Z1.ZJ x.k))=true:=ai (ai (ai NB _ h.d.hT) _ h.d.hM) _ h.k
 rw[K]
 rcases x.by_ with _|_
 ·exact kF (al.mp h1).2
 ·exact kF (al.mp h1).1
def R7:Bool:=aB (λex=>aB (λk=>bi (am k) true (Option.rec (bi (jT ex k) (bb (Nat.beq ex (az k)) (bb (am (az k)).not (bt k zx))) true) (λ_=>false) (lA ex (az k) PK 0))) KN) ma
def N8:R7=true:=by kernel_rfl
def uG{β:Nat->Bool}{ex k:Nat}(hex:ex∈ma)(hk:k∈KN)(hr:am k=false)(hg:cr β ex k=true):ex=az k/\am (az k)=false/\k∈zx:=by
 have h1:bi (am k) true (Option.rec (bi (jT ex k) (bb (Nat.beq ex (az k)) (bb (am (az k)).not (bt k zx))) true) (λ_=>false) (lA ex (az k) PK 0))=true:=ai (ai N8 ex hex) k hk
 rw[hr] at h1
 unfold cr at hg
 rcases e:lA ex (az k) PK 0 with _|j
 ·rw[e] at h1 hg
  have hg:jT ex k=true:=hg
  have h1:bi (jT ex k) (bb (Nat.beq ex (az k)) (bb (am (az k)).not (bt k zx))) true=true:=h1
  rw[hg] at h1
  refine ag h1 λe1 h1=>ag h1 λe2 e3=>⟨cf e1,?_,kF e3⟩
  rcases e:am (az k) with _|_
  ·rfl
  ·rw[e] at e2;exact bT e2
 ·rw[e] at h1;exact bT h1
def Ad{β:Nat->Bool}{ex a b:Nat}(h:az a=az b):cr β ex a=cr β ex b:=by
 unfold cr jT;rw[h]
variable{ex:Nat}{sp:Bool}
def aw.wr(h:aw x)(K:x.o2=iO x.d.T x.d.M x.k x.by_)(G:bJ (x.cx h c)){nm by_:V}(k_:ak (x.cx h c).σ nm (aM x.k))(A_:ak (x.cx h c).σ by_ (.bool x.by_)):ah kx (x.cx h c) 24 1668 (bg (vo 2) [⟨[.ref 0,nm,by_],s_ 32,[(P.y_,.t_ 4)]⟩]):=
 jM G h.kt h.W Gv h.k (K▸h.w2) k_ A_ (by rw[<-K];exact h.r2)
def aw.ask(h:aw x)(K:x.ka=gU x.d.T x.d.M x.k x.by_)(K3:x.o3=iO x.d.T x.d.M x.ka x.by_)(G:bJ (x.cx h c)){nm by_:V}(k_:ak (x.cx h c).σ nm (aM x.k))(A_:ak (x.cx h c).σ by_ (.bool x.by_)):ah kx (x.cx h c) 24 1675 (bg (vo 4) [⟨[.ref 0,nm,by_],s_ 34,[(P.y_,.t_ 6)]⟩]):=by
 have w:=h.w4 (c:=c)
 have r:=h.r4 (c:=c)
 rw[K3] at w r
 rw[K] at w r
 exact FJ G h.kt h.W h.k w k_ A_ r
theorem aw.cl(h:aw x)(G:bJ (x.cx h c)){kv ZB:V}(H_:ak (x.cx h c).σ (iN x.k) kv)(hka:ak (x.cx h c).σ (iN x.ka) ZB):ah kx (x.cx h c) 20 238 (mI fB [Bh 4 (s_ 30) (s_ 21),Bh 4 (s_ 32) kv,Bh 6 (s_ 34) ZB]):=
 uW G h.kt (cl:=[(4,30,x.kh,s_ 21),(4,32,x.k,kv),(6,34,x.ka,ZB)]) (aa ⟨h.c30,bu rfl⟩ (aa ⟨h.c32,H_⟩ (af ⟨h.c34,hka⟩)))
structure AZ(x:Dp)(ex:Nat)(sp:Bool)(z:Kd):Prop where
 T:x.W_ ex sp
 hex:ex∈ma
 hsp:sp=true->ex=17
 X:jA x
 z:z≠.nul->z.b=cr x.d.fl ex x.k
 ka:x.ka=gU x.d.T x.d.M x.k x.by_
 o3:x.o3=iO x.d.T x.d.M x.ka x.by_
 o2:x.o2=iO x.d.T x.d.M x.k x.by_
def aw.ag7(h:aw x)(G:bJ (x.cx h c)){z:Kd}(Z:AZ x ex sp z)(hz:z≠.nul){nm:V}(k_:ak (x.cx h c).σ nm (aM x.k)):ah kx (x.cx h c) 4 1647 (bg LC [⟨[.ref 0,dM,nm],.bool z.b,[]⟩]):=by
 rw[Z.z hz];exact yI G Z.hex h.k (Z.T.YX h Z.X).h20 (Z.T.a11 h) k_
def aw.item(h:aw x)(G:bJ (x.cx h c)){z:Kd}(Z:AZ x ex sp z)(hz:z≠.nul){kv:V}(H_:ak (x.cx h c).σ kv (iN x.k)):ah kx (x.cx h c) 16 866 (bg Pj [⟨[.ref P.I_,dM,kv],.bool z.b,[]⟩]):=by
 rw[Z.z hz];exact yD G h.kt Z.hex Z.hsp h.k (Z.T.YX h Z.X).h20 (Z.T.a10 h) H_
def aw.of(h:aw x)(G:bJ (x.cx h c)){z:Kd}(Z:AZ x ex sp z)(hz:z≠.nul){k:Nat}(hk:k∈KN)(hi:az k=az x.k){kv:V}(H_:ak (x.cx h c).σ kv (iN k)):ah kx (x.cx h c) 6 1502 (bg LB [⟨[.ref P.m_,.tup [iN 4,vE],kv],.bool z.b,[]⟩]):=by
 rw[Z.z hz,<-Ad hi];exact Ks G Z.hex hk (Z.T.YX h Z.X).h20 (Z.T.YX h Z.X).h24 (Z.T.da h) H_
def aw.val(h:aw x)(G:bJ (x.cx h c)){k:Nat}(hk:k∈KN)(hr:am k=true){kv:V}(H_:ak (x.cx h c).σ kv (iN k)):ah kx (x.cx h c) 6 224 (mI fB [⟨[kv],.bool false,.none⟩]):=
 uc G h.kt oE (Kx _ hk) H_ (by rw[x7 k hk hr];exact ak.refl _)
def aw.tc(h:aw x)(G:bJ (x.cx h c)){z:Kd}(Z:AZ x ex sp z)(D:jf (x.cx h c).σ x.kh z){nm kv ZB by_:V}(k_:ak (x.cx h c).σ nm (aM x.k))(A_:ak (x.cx h c).σ by_ (.bool x.by_))(h1:ak (x.cx h c).σ (iN x.k) kv)(h2:ak (x.cx h c).σ kv (iN x.k))
  (h3:ak (x.cx h c).σ (iN x.ka) ZB) (h4:ak (x.cx h c).σ ZB (iN x.ka)) {df:Option V} (hdf:∀d,df=some d->ah aq (x.cx h c) 30 1005 (bg pU [⟨[.ref P.I_,kv],d,[]⟩])) {ref:Bool} (hr:ref=true->am x.k=true):l5 (x.cx h c) z nm kv ZB df by_ ref where
 cl:=h.cl G h1 h3
 wr:=h.wr Z.o2 G k_ A_
 ask:=h.ask Z.ka Z.o3 G k_ A_
 box:=OY G h.kt h.W (Z.T.YX h Z.X).h20 D
 go hz:=⟨h.ag7 G Z hz k_,h.item G Z hz h2,h.of G Z hz h.kaN.1 h.kaN.2 h4⟩
 df:=hdf
 ref e:=⟨jh G h.k k_ (hr e),h.val G h.k (hr e) h2⟩
 kt:=dW G h.kt
def iZ(h:aw x){z:Kd}(hz:(z=.nul/\x.i=0)\/(z≠.nul/\x.i=x.iz)):ak (x.cx h c).σ iL (cp z):=
 hz.elim (λe=>by rw[e.1];exact qQ (e:=.at 59) (show Int.ofNat x.i=0 by rw[e.2];rfl)) λe=>by
  induction z using Kd.casesOn with
  | nul=>exact absurd rfl e.1
  | no=>exact dH (a:=.at 59) (b:=.at 20) (bl Int.ofNat e.2)
  | yes=>exact dH (a:=.at 59) (b:=.at 20) (bl Int.ofNat e.2)
def aw.vars(h:aw x)(hn:x.nm=true):F3 (x.cx h c).σ x.kv:=⟨show vi x.nm x.d.vs (nL x.kv)=x.d.vs++[nL x.kv] by rw[hn];rfl,λa=>by
 show yV (match x.nm with|true=>some true|false=>.none) _ _ x.d.dl a=if Int.ofNat x.d.vs.length=a then _ else x.d.dl a
 rw[hn];rfl,fG _⟩
def Dp.ZR(x:Dp)(z:Kd):V:=match z.b with
 | true=>match am x.k with
  | true=>kL
  | false=>iN x.k
 | false=>kL
def aw.is(h:aw x)(G:bJ (x.cx h c)){z:Kd}(Z:AZ x ex sp z)(D:jf (x.cx h c).σ x.kh z)(hi:(z=.nul/\x.i=0)\/(z≠.nul/\x.i=x.iz))(H_:x.nm=true->x.kv=x.ZR z){av bv nd:V}(ha:ak (x.cx h c).σ av (aM x.k))(hb:ak (x.cx h c).σ bv eY)(hnd:ak (x.cx h c).σ nd (.bool x.nm)):
  ah kx (x.cx h c) 54 1696 (jC x.nm iL av bv nd):=by
 have t:=Z.T.YX (c:=c) h Z.X
 have A_:ak (x.cx h c).σ eY (.bool x.by_):=aL rfl
 have hL:ak (x.cx h c).σ (aM x.k) pD:=bO rfl
 have hL':ak (x.cx h c).σ pD (aM x.k):=aL rfl
 have ab6 (hr:z.b=true->am x.k=true) (hk:x.nm=true->x.kv=kL):ah kx (x.cx h c) 54 1696 (jC x.nm iL av bv nd):=
  NJ G h.W t h.k rfl rfl (h.tc G Z D hL' A_ (bu rfl) (aW rfl) (bu rfl) (aW rfl) (df:=.none) (λd e=>nomatch e) hr) (iZ h hi) (ha.trans hL) hb hnd λhn=>hk hn▸h.vars hn
 induction z using Kd.casesOn with
 | nul=>exact ab6 nofun λhn=>H_ hn
 | no=>exact ab6 nofun λhn=>H_ hn
 | yes=>
  rcases hr:am x.k with _|_
  ·refine nJ (uG Z.hex h.k hr ((Z.z nofun).symm:cr x.d.fl ex x.k=true)) λe1 e2 e3=>?_
   have hs:sp=false:=by
    rcases hs:sp with _|_
    ·rfl
    ·have:=Z.hsp hs;rw[this] at e1;rw[<-e1] at e2;exact bF e2
   have T:=Z.T
   rw[e1] at T
   exact NK G h.W t e3 (h.ZJ Z.ka) (T.own h e2 hs) (h.tc G Z D (ak.refl _) A_ (ak.refl _) (ak.refl _) (ak.refl _) (ak.refl _) (df:=.none) (λd e=>nomatch e) nofun) (iZ h hi) ha hb hnd λhn=>((H_ hn).trans (by unfold Dp.ZR;rw[hr];rfl:x.ZR .yes=iN x.k))▸h.vars hn
  ·exact ab6 (λ_=>hr) λhn=>(H_ hn).trans (by unfold Dp.ZR;rw[hr];rfl)
def Yw{a b d:Bool}(h:bi d a b=true)(hd:d=true):a=true:=by rw[hd] at h;exact h
def K0(k:Nat):Bool:=bi (am k) (dk (tx Od (eD mZ) 12 1005) [] [] i8 pU [] [.ref P.I_,iN k] (.int 0)) true
def I3:aB K0 KN=true:=by kernel_rfl
def Oz(G:bJ c){es:Nat->List Nat}(Tt:iP c bj es)(W:Wd c.σ T M uE uF)(t:dT c.σ){k:Nat}(hk:k∈KN)(hr:am k=true){kv:V}(H_:ak c.σ kv (iN k)):ah kx c 30 1005 (bg pU [⟨[.ref P.I_,kv],.int 0,[]⟩]):=by
 have h1:dk (tx Od (eD mZ) 12 1005) [] [] i8 pU [] [.ref P.I_,iN k] (.int 0)=true:=Yw (ai (f:=K0) I3 k hk) hr
 exact a8 (af ⟨_,[],_,_,_,_,dB (n:=6) (m:=12) G (nk G t W ae ae) (bQ G _ (dW G Tt)),ax.cons (ak.refl _) (ax.one H_),ak.refl _,ae,aV,h1⟩)
def aw.asR(h:aw x)(G:bJ (x.cx h c)){z:Kd}(Z:AZ x ex sp z)(D:jf (x.cx h c).σ x.kh z)(hi:(z=.nul/\x.i=0)\/(z≠.nul/\x.i=x.iz))(hr:am x.k=true){av bv:V}(ha:ak (x.cx h c).σ av (aM x.k))(hb:ak (x.cx h c).σ bv eY):
  ah kx (x.cx h c) 54 1703 (ja iL av bv):=by
 have hdf:∀d,some (V.int 0)=some d->ah aq (x.cx h c) 30 1005 (bg pU [⟨[.ref P.I_,kL],d,[]⟩]):=λd e=>by obtain rfl:=oI e;exact Oz G h.kt h.W (Z.T.YX (c:=c) h Z.X) h.k hr (aW rfl)
 exact O4 G h.W (Z.T.YX (c:=c) h Z.X) h.k rfl rfl (h.tc G Z D (aL rfl) (aL rfl) (bu rfl) (aW rfl) (bu rfl) (aW rfl) hdf λ_=>hr) (iZ h hi) (ha.trans (bO rfl)) hb
def aw.asQ(h:aw x)(G:bJ (x.cx h c)){z:Kd}(Z:AZ x ex sp z)(D:jf (x.cx h c).σ x.kh z)(hi:(z=.nul/\x.i=0)\/(z≠.nul/\x.i=x.iz))(hq:bM x.k=true){av bv:V}(ha:ak (x.cx h c).σ av (aM x.k))(hb:ak (x.cx h c).σ bv eY):
  ah kx (x.cx h c) 54 1703 (ja iL av bv):=by
 have q1:∀k∈KN,bM k=true->k∈x8/\am k=false:=by decide +kernel
 refine bS (q1 _ h.k hq) λhk hr=>?_
 have t:=Z.T.YX (c:=c) h Z.X
 refine O5 G h.W t hk (h.ZJ Z.ka) (λhz=>?_) (h.tc G Z D (ak.refl _) (aL rfl) (ak.refl _) (ak.refl _) (ak.refl _) (ak.refl _) (λd e=>by obtain rfl:=oI e;exact KZ G h.kt h.W t hk (ak.refl _)) nofun) (iZ h hi) ha hb
 obtain⟨e1,e2,e3⟩:=uG Z.hex h.k hr (by rw[<-Z.z (by rw[hz];exact nofun),hz];rfl)
 have hs:sp=false:=by
  rcases hs:sp with _|_
  ·rfl
  ·have:=Z.hsp hs;rw[this] at e1;rw[<-e1] at e2;exact bF e2
 have T:=Z.T
 rw[e1] at T
 exact T.own h e2 hs
end
section
variable{c bj:Cx}{p q:Pt}{kx:Nat->Sy->Bool}{n:Nat}{x:Dp}{σ:Sg}
def aw.any(h:aw x)(Zj:x.da=3)(G:bJ (x.cx h c)):∀j < 3,ah kx (x.cx h c) 6 1598 (vj j):=λj hj=>by
 refine Pa G (A:=x.d.at_) rfl h.d.at_ ?_ ?_ ?_ (by show Int.ofNat (x.d.at_+x.da)=_;rw[Zj];rfl) hj ?_ ?_
 ·show((x.d.sc.map V.int).length:Int)=x.d.sc.length
  rw[gE]
 ·show(x.d.sc.map V.int).length<=40
  rw[gE];exact h.d.sc
 ·intro v hv
  refine aH (fw.mp (show v∈x.d.sc.map V.int from hv)) λi _ e=>?_
  rw[<-e];rfl
 ·match j,hj with
  | 0,_|1,_|2,_=>rfl
  | n+3,h=>lia
 ·match j,hj with
  | 0,_|1,_|2,_=>rfl
  | n+3,h=>lia
def aw.wr0(h:aw x)(K:x.o1=iO x.d.T x.d.M x.kh x.b2)(G:bJ (x.cx h c)){nm by_:V}(k_:ak (x.cx h c).σ nm (aM x.kh))(A_:ak (x.cx h c).σ by_ (.bool x.b2)):ah kx (x.cx h c) 24 1668 (bg (vo 0) [⟨[.ref 0,nm,by_],s_ 30,[(P.y_,.t_ 2)]⟩]):=
 jM G h.kt h.W Gw h.kh (K▸h.w0) k_ A_ (by rw[<-K];exact h.r0)
structure A7(x:Dp)(a_:Bool)(m:Nv):Prop where
 by_:x.by_=((x.o.fdiv 6).fmod 2 == 1)
 b2:x.b2=(((x.o.fdiv 6).fdiv 2).fmod 2 == 1)
 nm:x.nm=(((x.o.fdiv 6).fdiv 16).fmod 2 == 0)
 k47:x.k47=cP [x.d.T,x.d.M] (x.y.fmod 2).toNat
 k48:x.k48=tJ x.d.T x.d.M ((x.x.fdiv 2).fmod 6).toNat
 k49:x.k49=te (x.x.fmod 12).toNat
 n52:x.n52=x.x.fdiv 36+x.y.fdiv 4
 n57:0<=x.n57/\x.n57<=2
 fo:((x.o.fdiv 6).fdiv 4).fmod 4=match a_ with|true=>3|false=>x.n57
 n56:0<=x.n56/\x.n56<=1
 x3:match m with| .v1=>(x.x.fdiv 12).fmod 3=x.n56| .v2=>(x.x.fdiv 12).fmod 3=2| .v3=>(x.x.fdiv 12).fmod 3=2|_=>True
def aw.drw(h:aw x){a_:Bool}{m:Nv}(d:A7 x a_ m):Pn (x.cx h c).σ x.d.T x.d.M (x.o.fmod 6) a_ m where
 c_:=rfl
 f_:=by
  have:=d.fo
  rcases a_ with _|_
  ·exact this
  ·exact this
 r57:=d.n57
 r56:=d.n56
 n52:=d.n52
 x_:=by
  have:=d.x3
  induction m using Nv.casesOn with
  | r1=>exact ae
  | r2=>exact ae
  | v1=>exact af this
  | v2=>exact af this
  | v3=>exact af this
 w22:=bl V.bool d.by_
 w25:=bl V.bool d.b2
 w46:=bl V.bool d.nm
 w48:=bl aM d.k48
 w49:=bl aM d.k49
 w47:=bl aM d.k47
def cX(G:bJ c){k:Nat}(hk:k∈KN){nm:V}(k_:ak c.σ nm (aM k)){b:Bool}(hb:am k=b):qC c 54 1605 [] ⟨[nm],.bool b,[]⟩:=by
 have run:dk (tx jo aE 2 1605) [] [] ⟨[],[],[],[]⟩ [] [] [aM k] (.bool (am k))=true:=ai (f:=pW) nX k hk
 rw[hb] at run
 exact⟨_,[],_,_,_,_,(cy (m:=2) G (cq G)).le (by decide),.one k_,ak.refl _,ae,aV,run⟩
structure A4(x:Dp)(m:Nv):Prop where
 k48:x.k48∈KN
 r:match m with| .r1=>am x.k48=true| .r2=>am x.k48=false| .v2=>am x.d.M=true| .v3=>am x.d.M=false| .v1=>True
theorem aw.N_(h:aw x)(G:bJ (x.cx h c)){m:Nv}(N:A4 x m){more:List sT}(hm:∀r∈more,qC (x.cx h c) 54 1605 [] r):ah kx (x.cx h c) 54 1605 (N_ m more):=by
 have c48:ak (x.cx h c).σ (.b_ 48) (aM x.k48):=aL rfl
 have c12:ak (x.cx h c).σ (.b_ 12) (aM x.d.M):=aL rfl
 have hM:=lD h.d.hM
 have r:=N.r
 have base:∀r∈Hf m,qC (x.cx h c) 54 1605 [] r:=by
  induction m using Nv.casesOn with
  | r1=>exact af (cX G N.k48 c48 r)
  | r2=>exact af (cX G N.k48 c48 r)
  | v1=>exact ae
  | v2=>exact af (cX G hM c12 r)
  | v3=>exact af (cX G hM c12 r)
 have one:ah kx (x.cx h c) 54 1605 (bg [] (more++Hf m)):=a8 (bw hm base)
 have or:ah kx (x.cx h c) 54 1605 (CV (bg [] [⟨[.b_ 48],.bool true,[]⟩]) (bg [] [⟨[.b_ 48],.bool false,[]⟩])):=CU (by
  rcases e:am x.k48 with _|_
  ·exact .inr (a8 (af (cX G N.k48 c48 e)))
  ·exact .inl (a8 (af (cX G N.k48 c48 e))))
 unfold Z1.N_
 induction m using Nv.casesOn with
 | r1=>exact one
 | r2=>exact one
 | v1=>exact kz one or
 | v2=>exact kz one or
 | v3=>exact kz one or
structure qF(x:Dp)(z:Kd)(exO:Option Nat):Prop where
 hz:z=.nul↔exO=.none
 ex:∀k,exO=some k->k∈ma/\∃sp,x.W_ k sp
 k45:x.k45=jI x.d.uE x.d.uF exO x.y
def aw.aim(h:aw x)(G:bJ (x.cx h c)){z:Kd}{exO:Option Nat}(A:qF x z exO)(hi:(z=.nul/\x.i=0)\/(z≠.nul/\x.i=x.iz)):ah kx (x.cx h c) 8 1731 (bg (mw 11) [⟨[.ref 0,iL,.sym yL],.b_ 45,[]⟩]):=
 Pc G h.W A.hz (λk e=>⟨(A.ex k e).1,(A.ex k e).2.elim λsp T=>T.a11 h⟩) (At.nat (i:=0) (lX rfl) (ak.refl _)) (gM.mpr rN) (bl aM A.k45) (iZ h hi)
def xF{k:Nat}{a b e f:Int}(h1:σ.ν 26=a)(h2:σ.ν 27=b)(h3:σ.ν 28=e)(h4:σ.ν 29=f):ak σ (eW k) (pE k a b e f):=by
 by_cases e1:k=22
 ·rw[e1];exact ax.tup (.cons (aW h1) (.cons (aW h2) (.one (ax.tup (.cons (aW h3) (.one (aW h4)))))))
 ·by_cases e2:k=24
  ·rw[e2];exact ax.tup (.one (aW h1))
  ·rw[show pE k a b e f=.int a by unfold pE;split <;> first|contradiction|rfl,show eW k=s_ 26 by unfold eW;split <;> first|contradiction|rfl]
   exact aW h1
def Af(kh:Nat)(g a b e f:Int):V:=match bM kh with
 | true=>.tup [.int g,pE (az kh) a b e f]
 | false=>pE kh a b e f
def uA{k:Nat}(h:bM k=false):az k=k:=by
 unfold az
 unfold bM at h
 split
 ·rename_i e;rw[e] at h;dsimp only at h;rw[h]
 ·rfl
structure jd(x:Dp):Prop where
 o1:x.o1=iO x.d.T x.d.M x.kh x.b2
 kh:x.kh∈pq
 hv:x.hv=Af x.kh x.g x.a x.b x.e x.f
def jd.to(H:jd x)(h:aw x):ak (x.cx h c).σ (D3 x.kh) x.hv:=by
 rw[H.hv]
 unfold D3 Af
 rcases e:bM x.kh with _|_
 ·exact xF rfl rfl rfl rfl
 ·exact ax.tup (.cons (aW rfl) (.one (xF rfl rfl rfl rfl)))
def jd.of(H:jd x)(h:aw x):ak (x.cx h c).σ x.hv (D3 x.kh):=by
 rw[H.hv]
 unfold D3 Af
 rcases e:bM x.kh with _|_
 ·exact fM rfl rfl rfl rfl
 ·exact ax.tup (.cons (bu rfl) (.one (fM rfl rfl rfl rfl)))
def Bc(x:Dp)(m:Nv):Nat:=match m with
 | .r1=>x.k48
 | .r2=>12
 | .v1=>x.k49
 | .v2=>x.k49
 | .v3=>x.d.M
def jP(h:aw x){m:Nv}(e:Bc x m=x.kh):ak (x.cx h c).σ (kC m) (aM x.kh):=by
 rw[<-e]
 induction m using Nv.casesOn with
 | r1=>exact aL rfl
 | r2=>exact ak.refl _
 | v1=>exact aL rfl
 | v2=>exact aL rfl
 | v3=>exact aL rfl
def aw.ae9(h:aw x)(hb:x.bx=.none):Gd (x.cx h c).σ where
 g11:=by show ap x.bx _ _=_;rw[hb];rfl
 g12:=by show ap x.bx _ _=_;rw[hb];rfl
 g13:=by show ap x.bx _ _=_;rw[hb];rfl
 g14:=by show ap x.bx _ _=_;rw[hb];rfl
 g15:=by show ap x.bx _ _=_;rw[hb];rfl
 g16:=by show ap x.bx _ _=_;rw[hb];rfl
 d10:=by show yV x.bx _ _ _=_;rw[hb];rfl
 z10:=j2 _ _
 n35:=by show Int.ofNat (aU x.nn+up x.bx 3)=_;rw[hb];rfl
 n36:=by show Int.ofNat (x.d.tl.length+up x.bx 1)=_;rw[hb];rfl
 n37:=by show Int.ofNat (3 * x.d.tl.length+up x.bx 3)=_;rw[hb];rfl
def aw.ah1(h:aw x){hi:Bool}(hb:x.bx=some hi):J2 (x.cx h c).σ hi (az x.kh) where
 g11:=by show ap x.bx _ _=_;rw[hb];rfl
 g12:=by show ap x.bx _ _=_;rw[hb];rfl
 g13:=by show ap x.bx _ _=_;rw[hb];rfl
 g14:=by show ap x.bx _ _=_;rw[hb];rfl
 g15:=by show ap x.bx _ _=_;rw[hb];rfl
 g16:=by show ap x.bx _ _=_;rw[hb];rfl
 d10:=λa=>by show yV x.bx _ _ _ a=_;rw[hb];rfl
 z10:=by show x.d.tl.length+1<=x.d.tl.length+up x.bx 1;rw[hb];exact fG _
 n35:=by show Int.ofNat (aU x.nn+up x.bx 3)=_;rw[hb];rfl
 n36:=by show Int.ofNat (x.d.tl.length+up x.bx 1)=_;rw[hb];rfl
 n37:=by show Int.ofNat (3 * x.d.tl.length+up x.bx 3)=_;rw[hb];rfl
def KT(h:aw x)(hb:x.bx=.none):(x.cx h c).σ.γ 10=(x.cx h c).σ.γ 0:=by show ap x.bx _ _=_;rw[hb];rfl
def Sd(h:aw x){hi:Bool}(hb:x.bx=some hi):(x.cx h c).σ.γ 10=(x.cx h c).σ.γ 0++[Be (az x.kh)]:=by show ap x.bx _ _=_;rw[hb];rfl
structure l8(x:Dp)(z:Kd):Prop where
 o1:x.o1=iO x.d.T x.d.M x.kh x.b2
 hr:am x.kh=true
 bx:x.bx=.none
 hv:x.hv=.int (.ofNat x.i)
 iz:x.iz<=x.d.tl.length
 zi:(z=.nul/\x.i=0)\/(z≠.nul/\x.i=x.iz)
def l8.src{z:Kd}(H:l8 x z)(h:aw x):ak (x.cx h c).σ (cp z) x.hv:=by
 rw[H.hv]
 refine H.zi.elim (λe=>by rw[e.1,e.2];exact ak.refl _) λe=>?_
 rw[e.2]
 induction z using Kd.casesOn with
 | nul=>exact absurd rfl e.1
 | no=>exact aW (n:=20) rfl
 | yes=>exact aW (n:=20) rfl
def l8.crs{z:Kd}(H:l8 x z)(h:aw x):ak (x.cx h c).σ x.hv (cp z):=by
 rw[H.hv]
 refine H.zi.elim (λe=>by rw[e.1,e.2];exact ak.refl _) λe=>?_
 rw[e.2]
 induction z using Kd.casesOn with
 | nul=>exact absurd rfl e.1
 | no=>exact bu rfl
 | yes=>exact bu rfl
def l8.box{z:Kd}(H:l8 x z)(h:aw x):jf (x.cx h c).σ x.kh z:=.ref H.hr h.kh rfl ((aL rfl).trans (H.crs h)) (KT h H.bx)
def U9(h:aw x)(hi:x.iz<=x.d.tl.length):At (x.cx h c).σ 4 ((x.cx h c).σ.ν 20) dM:=
 (q6 (f:=λi _=>iN i) (c0:=iN 0) hi).elim (λe=>At.nat (i:=x.iz) e.2 (bu (bl Int.ofNat e.1))) λe=>e.elim λt e=>At.nat (i:=x.iz) e.2 (bu rfl)
def l8.held{z:Kd}(H:l8 x z)(h:aw x)(G:bJ (x.cx h c)){m:Nv}(e:Bc x m=x.kh)(hm:m.Y5=true):ah kx (x.cx h c) 36 1689 (bg J1 [⟨[.ref 0,kC m,dU m,AL],eV,[(P.y_,.t_ 2)]⟩]):=by
 have hn:ak (x.cx h c).σ (kC m) (.b_ 23):=(jP h e).trans (bO rfl)
 have hvn:dU m=iL:=by unfold dU;rw[hm]
 rw[hvn]
 exact D5 G h.kh H.hr rfl (h.wr0 H.o1 G (aL rfl) (aL rfl)) (gM.mpr rN) (U9 h H.iz) (At.nat (i:=0) rfl (ak.refl _)) hn (iZ h H.zi) (ak.refl _) ((H.src h).trans (bO rfl))
def l8.boxed{z:Kd}(H:l8 x z)(h:aw x)(G:bJ (x.cx h c)){m:Nv}(e:Bc x m=x.kh)(hm:m.Y5=true):ah kx (x.cx h c) 22 1661 (bg Bj [⟨[.ref 0,kC m,dU m],iL,hV⟩]):=by
 have hvn:dU m=iL:=by unfold dU;rw[hm]
 rw[hvn]
 refine AN G h.kh H.hr rfl (h.ae9 H.bx) (z:=z) ?_ ((jP h e).trans (bO rfl)) (iZ h H.zi)
 refine H.zi.elim (λe=>by rw[e.1];exact bu (by show Int.ofNat x.i=0;rw[e.2];rfl)) λe=>?_
 induction z using Kd.casesOn with
 | nul=>exact absurd rfl e.1
 | no=>exact dH (a:=.at 20) (b:=.at 59) (bl Int.ofNat e.2.symm)
 | yes=>exact dH (a:=.at 20) (b:=.at 59) (bl Int.ofNat e.2.symm)
structure pu(x:Dp):Prop where
 i:Int.ofNat x.i=zN x.x (.ofNat x.nn)
 n19:11<=x.nn
 n54:x.n54=(x.x.fdiv 4).fmod (.ofNat x.nn+ -10)
 n55:x.n55=if x.x.fmod 4=3 then 0 else x.x.fmod 4
theorem pu.ref(R:pu x)(h:aw x)(G:bJ (x.cx h c)):ah kx (x.cx h c) 6 1724 (bg (JZ 1) [⟨[.ref 0,.sym xL],iL,[]⟩]):=by
 refine km G (fam:=1) (by simp) ?_ (gM.mpr R.n19) (gM.mpr (by have:=h.d.nn;unfold Dp.nn;lia:x.nn<=900)) R.n54 R.n55 (bu R.i)
 show((G1 x.d.tl).length:Int)=x.nn
 unfold G1
 rw[je];rfl
def pu.ad4(R:pu x)(h:aw x)(hb:x.bx=.none)(G:bJ (x.cx h c)):ah kx (x.cx h c) 6 1724 (bg (JZ 11) [⟨[.ref 0,.sym xL],iL,[]⟩]):=by
 refine km G (fam:=11) (by simp) ?_ (gM.mpr R.n19) (gM.mpr (by have:=h.d.nn;unfold Dp.nn;omega:x.nn<=900)) R.n54 R.n55 (bu R.i)
 show((ap x.bx (G1 x.d.tl) λ_=>aM (az x.kh)).length:Int)=x.nn
 rw[hb]
 show((G1 x.d.tl).length:Int)=x.nn
 unfold G1
 rw[je];rfl
def iQ(kh:Nat)(z:Int):Int:=match bM kh with
 | true=>z.fdiv 2
 | false=>z
def dr(k:Nat)(e:Int):Int:=(jN k).1+(e+ -(jN k).1).fmod (jN k).2
def T2(om k:Nat)(e:Int):Int:=match k with
 | 22=>dr 7 e
 | 24=>dr 8 e
 | k=>dr (HA om k) e
structure sP(x:Dp):Prop where
 H:jd x
 n50:x.n50=cG (iQ x.kh x.n52)
 n53:x.n53=cG (((iQ x.kh x.n52).fdiv 5).fdiv 2)
 g:bM x.kh=true->x.g=x.n52.fmod 2
 a:x.a=T2 (ju x.d.uE x.d.uF x.kh) (az x.kh) x.n50
 b:Int.ofNat x.b=((iQ x.kh x.n52).fdiv 3).fmod (.ofNat x.nn)
 e:x.e=((iQ x.kh x.n52).fdiv 5).fmod 2
 f:x.f=dr 4 x.n53
def vD(k:Nat)(h:aw x):(Gi k).ev (x.cx h c).σ.ν=iQ k x.n52:=by
 unfold Gi iQ
 cases bM k <;> rfl
def kW(k n:Nat)(ν:Nat->Int):(oZ k (.at n)).ev ν=dr k (ν n):=by
 unfold oZ dr
 rw[gB]
 show(jN k).1+((lY (.at n) (.lit (-(jN k).1))).ev ν).fmod (jN k).2=_
 rw[gB];rfl
def sP.draw(N:sP x)(h:aw x):Tx (x.cx h c).σ x.kh where
 n50:=by rw[vD];exact N.n50
 n53:=by
  show x.n53=cG ((((Gi x.kh).ev (x.cx h c).σ.ν).fdiv 5).fdiv 2)
  rw[vD];exact N.n53
 n27:=by
  show Int.ofNat x.b=(((Gi x.kh).ev (x.cx h c).σ.ν).fdiv 3).fmod (.ofNat x.nn)
  rw[vD];exact N.b
 n19:=gM.mpr (j3 (fv _))
 l1:=by
  show((G1 x.d.tl).length:Int)=x.nn
  unfold G1
  rw[je];rfl
def xG(N:sP x)(h:aw x){z:SE}(hz:z.ev (x.cx h c).σ.ν=iQ x.kh x.n52):ak (x.cx h c).σ (BM (ju x.d.uE x.d.uF x.kh) (az x.kh) z) (pE (az x.kh) x.a x.b x.e x.f):=by
 have ha:=N.a
 generalize hk:az x.kh=k at ha ⊢
 by_cases e1:k=22
 ·rw[e1] at ha ⊢
  refine ax.tup (.cons (qQ ((kW 7 50 _).trans ha.symm)) (.cons (aW rfl) (.one (ax.tup (.cons (qQ ?_) (.one (qQ ((kW 4 53 _).trans N.f.symm))))))))
  show((z.ev (x.cx h c).σ.ν).fdiv 5).fmod 2=x.e
  rw[hz];exact N.e.symm
 ·by_cases e2:k=24
  ·rw[e2] at ha ⊢
   exact ax.tup (.one (qQ ((kW 8 50 _).trans ha.symm)))
  ·have h1:T2 (ju x.d.uE x.d.uF x.kh) k x.n50=dr (HA (ju x.d.uE x.d.uF x.kh) k) x.n50:=by unfold T2;split <;> first|contradiction|rfl
   rw[show pE k x.a x.b x.e x.f=.int x.a by unfold pE;split <;> first|contradiction|rfl,show BM (ju x.d.uE x.d.uF x.kh) k z=.sym (oZ (HA (ju x.d.uE x.d.uF x.kh) k) (.at 50)) by unfold BM;split <;> first|contradiction|rfl]
   exact qQ ((kW _ 50 _).trans (h1.symm.trans ha.symm))
def sP.val(N:sP x)(h:aw x):ak (x.cx h c).σ (BN (ju x.d.uE x.d.uF x.kh) x.kh) x.hv:=by
 rw[N.H.hv]
 unfold BN Af
 rcases e:bM x.kh with _|_
 ·have:=xG (c:=c) N h (z:=zL) (by unfold iQ;rw[e];rfl)
  rw[uA e] at this
  exact this
 ·exact ax.tup (.cons (qQ (N.g e).symm) (.one (xG N h (by unfold iQ;rw[e];rfl))))
def sP.value(N:sP x)(h:aw x)(G:bJ (x.cx h c)){m:Nv}(e:Bc x m=x.kh):ah kx (x.cx h c) 16 1619 (bg Tv [⟨[.ref 0,kC m,s_ 52],.b_ 24,[]⟩]):=
 BL G h.W N.H.kh (N.draw h) (jP h e) (ak.refl _) ((N.val h).trans (bO rfl))
def jd.held(H:jd x)(h:aw x)(X:jA x)(G:bJ (x.cx h c)){m:Nv}(e:Bc x m=x.kh)(hm:m.Y5=false):ah kx (x.cx h c) 36 1689 (bg J1 [⟨[.ref 0,kC m,dU m,AL],eV,[(P.y_,.t_ 2)]⟩]):=by
 have hvn:dU m=.b_ 24:=by unfold dU;rw[hm]
 rw[hvn]
 exact uC G H.kh (h.wr0 H.o1 G (ak.refl _) (aL rfl)) (VZ h X) (jP h e) ((aL rfl).trans (H.of h)) (ak.refl _) ((H.to h).trans (bO rfl))
structure xy(x:Dp)(hi:Bool):Prop where
 bx:x.bx=some hi
 i:x.i=x.nn
 iz:x.iz=x.nn
 g:bM x.kh=true->x.g=1
 ok:hi∈lP x.kh
 lo:Py hi<=x.a
 up:x.a<=PB hi
def kq:∀k∈pq,(bM k=true->k∈x8)/\(bM k=false->k∈TH):=by decide +kernel
def jd.box{hi:Bool}(H:jd x)(B:xy x hi)(h:aw x){z:Kd}(hz:z≠.nul):jf (x.cx h c).σ x.kh z:=by
 have hi1:cp z=dM:=by induction z using Kd.casesOn with
  | nul=>exact absurd rfl hz
  | no=>rfl
  | yes=>rfl
 have l0:(((x.cx h c).σ.γ 0).length:Int)=(x.cx h c).σ.ν 20:=by
  show((G0 x.d.tl).length:Int)=Int.ofNat x.iz
  unfold G0
  rw[je,B.iz];rfl
 have g:=Sd (c:=c) h B.bx
 have of:=(aL rfl:ak (x.cx h c).σ (.b_ 21) x.hv).trans (H.of h)
 rcases e:bM x.kh with _|_
 ·rw[uA e] at g
  refine .val ((kq _ H.kh).2 e) rfl ?_ l0 g hi1
  unfold D3 at of
  rw[e] at of
  exact of
 ·refine .que ((kq _ H.kh).1 e) rfl ?_ l0 g hi1
  refine(aL rfl:ak (x.cx h c).σ (.b_ 21) x.hv).trans ?_
  rw[H.hv]
  unfold Af
  rw[e,B.g e]
  exact ax.tup (.cons (ak.refl _) (.one (fM rfl rfl rfl rfl)))
def jd.boxed{hi:Bool}(H:jd x)(B:xy x hi)(h:aw x)(X:jA x)(G:bJ (x.cx h c)){m:Nv}(e:Bc x m=x.kh)(hm:m.Y5=false):ah kx (x.cx h c) 22 1661 (bg Bj [⟨[.ref 0,kC m,dU m],iL,hV⟩]):=by
 have hvn:dU m=.b_ 24:=by unfold dU;rw[hm]
 rw[hvn]
 have n20:(x.cx h c).σ.ν 20=Int.ofNat x.nn:=bl Int.ofNat B.iz
 have lg:∀{f:Nat->Th->V} {c0:V},((c0::jQ f x.d.tl 1).length:Int)=(x.cx h c).σ.ν 20:=λ{f c0}=>by rw[je,n20];rfl
 refine AP G h.kt h.W H.kh B.ok (h.ah1 B.bx) (by rw[n20];exact gM.mpr (by have:=h.d.n9;unfold Dp.nn;lia:10<=x.nn)) (by rw[n20];exact gM.mpr (by have:=h.d.nn;unfold Dp.nn;lia:x.nn<=900)) B.lo B.up lg lg (Xa h X)
  (dH (a:=.at 20) (b:=.at 59) (show Int.ofNat x.iz=Int.ofNat x.i by rw[B.iz,B.i])) (jP h e) ((aL rfl:ak (x.cx h c).σ (.b_ 24) x.hv).trans ?_)
 rw[H.hv]
 unfold Af TQ
 rcases e:bM x.kh with _|_
 ·exact fM rfl rfl rfl rfl
 ·rw[B.g e];exact ax.tup (.cons (ak.refl _) (.one (fM rfl rfl rfl rfl)))
structure Gg(x:Dp):Prop where
 bx:x.bx=.none
 i:x.i=0
 q:bM x.kh=true
 g:x.g=0
def jd.ah5(H:jd x)(B:Gg x)(h:aw x):jf (x.cx h c).σ x.kh .nul:=by
 refine .non ((kq _ H.kh).1 B.q) rfl ?_ (KT h B.bx)
 refine(aL rfl:ak (x.cx h c).σ (.b_ 21) x.hv).trans ?_
 rw[H.hv]
 unfold Af
 rw[B.q,B.g]
 exact ax.tup (.cons (ak.refl _) (.one aD))
def jd.Zo(H:jd x)(B:Gg x)(h:aw x)(G:bJ (x.cx h c)){m:Nv}(e:Bc x m=x.kh)(hm:m.Y5=false):ah kx (x.cx h c) 22 1661 (bg Bj [⟨[.ref 0,kC m,dU m],iL,hV⟩]):=by
 have hvn:dU m=.b_ 24:=by unfold dU;rw[hm]
 rw[hvn]
 refine AQ G ((kq _ H.kh).1 B.q) (h.ae9 B.bx) (bu (by show Int.ofNat x.i=0;rw[B.i];rfl)) (jP h e) ((aL rfl:ak (x.cx h c).σ (.b_ 24) x.hv).trans ?_)
 rw[H.hv]
 unfold Af
 rw[B.q,B.g]
 exact ax.tup (.cons (ak.refl _) (.one aD))
variable{ex:Nat}{sp:Bool}{z:Kd}
def OC(h:aw x)(G:bJ (x.cx h c)){m:Nv}(hm:m.Y5=true)(e:Bc x m=x.kh)(H:l8 x z)(R:pu x){exO:Option Nat}(A:qF x z exO)(Zj:x.da=3):gj (x.cx h c) m where
 any:=h.any Zj G
 held:=H.held h G e hm
 boxed:=H.boxed h G e hm
 aim:=h.aim G A H.zi
 ref _:=R.ref h G
 val e':=by rw[hm] at e';exact bF e'
def OB(h:aw x)(G:bJ (x.cx h c)){m:Nv}(hm:m.Y5=false)(e:Bc x m=x.kh)(N:sP x)(X:jA x)(hb:(∃hi,xy x hi)\/Gg x){exO:Option Nat}(A:qF x z exO)(zi:(z=.nul/\x.i=0)\/(z≠.nul/\x.i=x.iz))(Zj:x.da=3):gj (x.cx h c) m where
 any:=h.any Zj G
 held:=N.H.held h X G e hm
 boxed:=hb.elim (λB=>B.elim λhi B=>N.H.boxed B h X G e hm) λB=>N.H.Zo B h G e hm
 aim:=h.aim G A zi
 ref e':=by rw[hm] at e';exact bT e'
 val _:=N.value h G e
def mS(x:Dp)(a_:Bool):Nat:=match a_ with
 | true=>x.k47
 | false=>x.k45
def sL(h:aw x)(a_:Bool):ak (x.cx h c).σ (jH a_) (aM (mS x a_)):=by
 rcases a_ with _|_
 ·exact aL rfl
 ·exact aL rfl
def yW(h:aw x)(G:bJ (x.cx h c)){a_:Bool}{m:Nv}(hc:(x.o.fmod 6,m)∈oH)(d:A7 x a_ m)(N:A4 x m)(cs:gj (x.cx h c) m)(Z:AZ x ex sp z)(D:jf (x.cx h c).σ x.kh z)(hi:(z=.nul/\x.i=0)\/(z≠.nul/\x.i=x.iz))(H_:x.nm=true->x.kv=x.ZR z)(hk:x.k=mS x a_):
  ah kx (x.cx h c) 62 1738 (bg (H9 Hc++v8 x.nm) [⟨[.ref 0],.bool true,Ax x.nm⟩]):=
 Aq G h.W hc (h.drw d) cs (h.N_ G N ae) (h.is G Z D hi H_ (hk▸sL h a_) (ak.refl _) (aL rfl))
def uQ(h:aw x)(G:bJ (x.cx h c)){a_:Bool}{m:Nv}(hc:(x.o.fmod 6,m)∈jU)(d:A7 x a_ m)(N:A4 x m)(cs:gj (x.cx h c) m)(Z:AZ x ex sp z)(D:jf (x.cx h c).σ x.kh z)(hi:(z=.nul/\x.i=0)\/(z≠.nul/\x.i=x.iz))(hk:x.k=mS x a_)(hr:am x.k=true):
  ah kx (x.cx h c) 62 1738 (bg (H9 Hc++v8 false) [⟨[.ref 0],.bool true,Ax false⟩]):=
 wL G h.W hc (h.drw d) cs (h.N_ G N (af (cX G h.k (hk▸sL h a_) hr))) (h.asR G Z D hi hr (hk▸sL h a_) (ak.refl _))
def uR(h:aw x)(G:bJ (x.cx h c)){a_:Bool}{m:Nv}(hc:(x.o.fmod 6,m)∈jU)(d:A7 x a_ m)(N:A4 x m)(cs:gj (x.cx h c) m)(Z:AZ x ex sp z)(D:jf (x.cx h c).σ x.kh z)(hi:(z=.nul/\x.i=0)\/(z≠.nul/\x.i=x.iz)){k0:Nat}(h0:mS x a_=k0)(hk0:k0∈eG)(hk:x.k=gA k0):
  ah kx (x.cx h c) 62 1738 (bg (H9 Hc++v8 false) [⟨[.ref 0],.bool true,Ax false⟩]):=by
 have hv:∀k∈eG,k∈KN/\am k=false/\(bM (gA k)=true\/am (gA k)=true):=by decide +kernel
 refine nJ (hv k0 hk0) λh1 h2 h3=>?_
 have hc0:ak (x.cx h c).σ (aM (gA k0)) (aM x.k):=by rw[hk];exact ak.refl _
 refine wM G h.W hc (h.drw d) cs hk0 ?_ (h.N_ G N (af (cX G h1 (ak.refl _) h2))) (h3.elim (λe=>h.asQ G Z D hi (hk▸e) hc0 (ak.refl _)) λe=>h.asR G Z D hi (hk▸e) hc0 (ak.refl _))
 rw[<-h0]
 rcases a_ with _|_
 ·rfl
 ·rfl
def aw.wr4(h:aw x)(K3:x.o3=iO x.d.T x.d.M x.ka x.by_)(G:bJ (x.cx h c))(hka:x.ka=x.k){nm by_:V}(k_:ak (x.cx h c).σ nm (aM x.k))(A_:ak (x.cx h c).σ by_ (.bool x.by_)):ah kx (x.cx h c) 24 1668 (bg (vo 4) [⟨[.ref 0,nm,by_],s_ 34,[(P.y_,.t_ 6)]⟩]):=by
 have w:=h.w4 (c:=c)
 have r:=h.r4 (c:=c)
 rw[K3] at w r
 rw[hka] at w r
 exact jM G h.kt h.W Gu h.k w k_ A_ r
structure Wk(x:Dp)(z:Kd)(exO:Option Nat):Prop where
 bx:x.bx=.none
 zi:(z=.nul/\x.i=0)\/(z≠.nul/\x.i=x.iz)
 o1:x.o1=4
 o2:x.o2=4
 ka:x.ka=x.k
 o3:x.o3=match am x.k with|true=>iO x.d.T x.d.M x.ka x.by_|false=>4
 R:pu x
 A:qF x z exO
 kk:x.k=x.k45
 by_:x.by_=((x.o.fdiv 6).fmod 2 == 1)
 b2:x.b2=(((x.o.fdiv 6).fdiv 2).fmod 2 == 1)
 nm:x.nm=(((x.o.fdiv 6).fdiv 16).fmod 2 == 0)
 c5:x.o.fmod 6=5
 X:jA x
 T:∃ex sp,x.W_ ex sp/\ex∈ma/\(sp=true->ex=17)/\(z≠.nul->z.b=cr x.d.fl ex x.k)
def lt:∀k∈KN,am k=false->k∈eG:=by decide +kernel
def NH(T:x.W_ ex sp)(h:aw x):At (x.cx h c).σ 10 ((x.cx h c).σ.ν 20) (um sp ex):=T.at h rfl (λj t _ i _ ss q s=>by
  show ak _ (rX (j+1) t) _
  unfold rX um
  rw[q,s]
  have hi:ak (x.cx h c).σ (iN (j+1)) dM:=bu (bl Int.ofNat i)
  induction sp using bC with
  | true=>exact iC.fin (.cons hi (.cons (ak.refl _) (.cons aD (.cons aD (.cons aD (.cons aD (.cons (ak.refl _) .nil)))))))
  | false=>
   have hs:ak (x.cx h c).σ (.fls t.sl) (match am ex with|true=>.any|false=>.fls [eW ex]):=by
    unfold Th.sl
    rcases hr:am ex with _|_
    ·refine Gk (ss (q▸hr)) λa b e f=>?_
     rw[q,hr]
     exact ax.fls (.one (fM a b e f))
    ·exact aD
   exact iC.fin (.cons hi (.cons (ak.refl _) (.cons hs (.cons aD (.cons aD (.cons aD (.cons (ak.refl _) .nil)))))))) λhb _ _ q s=>by
  rw[<-q,s]
  have hs:ak (x.cx h c).σ (.fls [eW (az x.kh)]) (match am (az x.kh) with|true=>.any|false=>.fls [eW (az x.kh)]):=by
   rcases am (az x.kh) with _|_
   ·exact ak.refl _
   ·exact aD
  exact iC.fin (.cons (ak.refl _) (.cons (ak.refl _) (.cons hs (.cons aD (.cons aD (.cons aD (.cons (ak.refl _) .nil)))))))
def Ap{exO:Option Nat}(h:aw x)(Zj:x.da=3)(G:bJ (x.cx h c))(C:Wk x z exO):ah kx (x.cx h c) 92 1738 (bg (H9 (Hd 4 10)++oO 3 43) [⟨[.ref 0],.bool true,[(P.w_,A9 (.at 38)),(P.y_,.t_ 6)]⟩]):=by
 refine Gs C.T λex sp T hex hsp hz=>?_
 have t:=T.YX (c:=c) h C.X
 have D_:=iZ (c:=c) h C.zi
 have h45:ak (x.cx h c).σ (.b_ 45) (aM x.k):=by rw[C.kk];exact aL rfl
 refine uS G h.W C.c5 (bl V.bool C.by_) (bl V.bool C.b2) (bl V.bool C.nm) (h.any Zj G) (C.R.ad4 h C.bx G) (h.aim G C.A C.zi) ?_
 rcases hr:am x.k with _|_
 ·have o3:x.o3=4:=by rw[C.o3,hr]
  have h46:x.ev 4=x.ev 6:=by
   show x.e4=ls x.e4 x.o3
   rw[o3];rfl
  have hv:=lt _ h.k hr
  refine C.zi.elim (λe=>?_) λe=>?_
  ·rw[e.1] at D_
   exact EI G h.kt h46 h.W t hv ⟨zz G h.kt h.W t hv,nofun,nofun,nofun,dW G h.kt⟩ D_ h45 (ak.refl _)
  ·have hy:ak (x.cx h c).σ iL dM:=by
    induction z using Kd.casesOn with
    | nul=>exact absurd rfl e.1
    | no=>exact D_
    | yes=>exact D_
   exact EK G h.kt h46 h.W t hex hv (T.a11 h) (λhr=>T.a12 h hr) ⟨zD G h.kt h.W t hex hsp hv (NH T h),nofun,nofun,nofun,dW G h.kt⟩ hy h45 (ak.refl _)
 ·have o3:x.o3=iO x.d.T x.d.M x.ka x.by_:=by rw[C.o3,hr]
  have hL':ak (x.cx h c).σ pD (aM x.k):=aL rfl
  have cl:ah aq (x.cx h c) 20 238 (mI fB [Bh 6 (s_ 34) kL]):=uW G h.kt (cl:=[(6,34,x.ka,kL)]) (af ⟨h.c34,by rw[C.ka];exact bu rfl⟩)
  have go:z≠.nul->ah aq (x.cx h c) 4 1647 (bg LC [⟨[.ref 0,dM,pD],.bool z.b,[]⟩])/\ah aq (x.cx h c) 6 1502 (bg LB [⟨[.ref P.m_,.tup [iN 4,vE],kL],.bool z.b,[]⟩]):=λe=>by
   rw[hz e]
   exact⟨yI G hex h.k t.h20 (T.a11 h) hL',Ks G hex h.k t.h20 t.h24 (T.da h) (aW rfl)⟩
  have tr:=zB (kx:=aq) G h.kt h.W t h.k rfl rfl (z:=z) (h.val G h.k hr (aW rfl)) λe=>by rw[hz e];exact yD G h.kt hex hsp h.k t.h20 (T.a10 h) (aW rfl)
  exact EJ G h.W t (z:=z) ⟨tr,λ_=>⟨h.wr4 o3 G C.ka hL' (aL rfl),cl⟩,λ_ e=>go e,λ_=>jh G h.k hL' hr,dW G h.kt⟩ D_ (h45.trans (bO rfl)) (ak.refl _)
variable{σ':Sg}
structure pA(c:Cx):Prop where
 cfg:∀(σ:Sg) {ft:FT},aI σ ft->bY (c.sg σ) (cfg ft)
 src:vq c.K src
def O9{α:Type}{b:Option Bool}{l:List α}{v:Bool->α}:(ap b l v).length<=l.length+1:=by
 unfold ap
 split
 ·rw[nE];exact fG _
 ·exact lm _
def aw.E_(h:aw x)(G:pA c):bJ (x.cx h c) where
 cfg F:=G.cfg _ F
 src:=G.src
 z g:=by
  have h1:=h.d.nn
  have h2:=h.d.z9
  refine jk (P:=λn:Nat=>n<=1000000) (d:=0) (n:=g) x.ze ?_ (fv _)
  exact aa (by show x.d.tl.length<=_;lia) (aa (by show x.d.zl<=_;lia) (aa (by show x.d.tl.length+up x.bx 1<=_;unfold up;split <;> lia) (af (by show x.d.zl+1<=_;lia))))
 big g:=by
  have h1:=h.d.nn
  have h2:=h.d.v9
  have h3:=h.d.sc
  refine jk (P:=λl:List V=>l.length<=1000000) (d:=[]) (n:=g) x.ga ?_ (fv _)
  have g:∀{f:Nat->Th->V} {c0:V},(c0::jQ f x.d.tl 1).length<=900:=λ{f c0}=>by rw[je];lia
  have g6:(G6 x.d.tl).length<=900:=by unfold G6;rw[rR];lia
  have a:∀{l:List V} {v:Bool->V},l.length<=900->(ap x.bx l v).length<=1000000:=λ{l v} h=>dK O9 (by lia)
  have k:∀{l:List V},l.length<=900->l.length<=1000000:=λh=>by lia
  refine aa (k g) (aa (k g) (aa (k g) (aa (k g) (aa (k g) (aa (k g) (aa (k g6) (aa (k h2) (aa ?_ (aa (a g) (aa (a g) (aa (a g) (aa (a g) (aa (a g) (aa (a g) (aa (a g6) (aa ?_ (aa ?_ (af ?_))))))))))))))))))
  ·show(x.d.sc.map V.int).length<=_;rw[gE];lia
  ·show(vi x.nm x.d.vs (nL x.kv)).length<=_
   unfold vi
   split
   ·rw[nE];show _+1<=_;lia
   ·lia
  ·show cE.length<=_;decide
  ·show(ii 38 (iN 0)).length<=_;decide
def I1(d:Md):Dp where
 d:=d
 kh:=12
 b2:=false
 k:=12
 by_:=false
 o1:=4
 o2:=4
 o3:=4
 ka:=12
 i:=0
 bx:=.none
 a:=0
 b:=0
 e:=0
 f:=0
 g:=0
 nm:=false
 hv:=.none
 k45:=12
 k47:=12
 k48:=12
 k49:=12
 n52:=0
 n50:=0
 n53:=0
 n54:=0
 n55:=0
 n56:=0
 n57:=0
 kv:=.none
def sv{d:Md}(h:aF d):aw (I1 d):=⟨h,⟨rfl,rfl⟩,rfl,(by decide:12∈KN),(by decide:12∈KN),.inr rfl,.inr rfl,⟨(by decide:12∈KN),rfl⟩,.inr rfl⟩
def sB(d:Md)(h:aF d)(c:Cx):Sg:=(I1 d).s (sv h) c
def aR{l:List V}(h:∀v∈l,v.fr=true){us}(r:bG c p l us):bG (c.sg σ') p l us:=bG.imp l (λv hv u r=>oR r (h v hv)) r
def gh{f:Int->Option V}(h:∀x v,f x=some v->v.fr=true){k y}(r:au c p (f k) y):au (c.sg σ') p (f k) y:=fQ r (λv u e r=>⟨v,e,oR r (h k v e)⟩) λe=>e
def qO(hω:∀n,(c.σ.ω n).fr=true){l:List V}(h:∀v∈l,v.fr=true){v v':V}(hg:v.gk=true)(e:v.E_ c.σ=v'){us}(r:bG c p (l++[v]) us):bG (c.sg σ') p (l++[v']) us:=by
 refine eC (jg _ r) λu1 u2 e' r1 r2=>?_
 rw[e']
 refine eO ?_ _ (aR h r1)
 refine eC r2.inv λu Za e2 r3 r4=>?_
 rw[e2,r4.inv,<-e]
 exact .cons (D8 hω r3 hg) .nil
def uP(hω:∀n,(c.σ.ω n).fr=true){f:Int->Option V}(h:∀x v,f x=some v->v.fr=true){v v':V}{a:Int}(hg:v.gk=true)(e:v.E_ c.σ=v'){k y}(r:au c p (if a=k then some v else f k) y):au (c.sg σ') p (if a=k then some v' else f k) y:=by
 by_cases hk:a=k
 ·rw[if_pos hk] at r ⊢
  exact fQ r (λw u e' r=>⟨v',rfl,by obtain rfl:=oI e';rw[<-e];exact D8 hω r hg⟩) nofun
 ·rw[if_neg hk] at r ⊢
  exact gh h r
def rK:l6:=⟨[(.at 5,.at 5)],[],[],[],[]⟩
def Mu:aB (λes=>rH rK (gp es) (gp es)) cj=true:=by kernel_rfl
def ub{r r':F8}(h5:Bd 0 5 r.nu=Bd 0 5 r'.nu)(hf:r'.fl=r.fl){es:List Nat}(he:es∈cj){ρ I k x}(h:gD (c.sg r.s0) (gp es) ρ I k x):gD (c.sg r'.s0) (gp es) ρ I k x:=by
 refine Gs h λ Zw p₀ h1 h2 h3 h4=>?_
 have R:cH (c.sg r.s0) r'.s0 rK:=⟨af h5,ae,ae,ae,ae,hf⟩
 exact⟨Zw,p₀,h1,h2,h3,λ τ=>Kn R (gp es) (ai (f:=λes=>rH rK (gp es) (gp es)) Mu es he) (h4 τ)⟩
def GZ(e:List Nat)(j:Nat):(pJ e j).fr=true:=by
 unfold pJ
 split
 ·rename_i x _
  match x with
  | 0|1|2|3|n+4=>rfl
 ·rfl
theorem aw.om(h:aw x):∀n,((x.cx h c).σ.ω n).fr=true:=λn=>by
 refine jk (P:=λv:V=>v.fr=true) (d:=V.none) (n:=n) x.om ?_ rfl
 refine aa rfl (aa rfl (aa rfl (aa rfl (aa rfl (aa rfl (aa rfl (aa rfl (aa rfl (aa h.hf (aa h.hf (aa rfl (aa rfl (aa rfl (aa rfl (aa rfl (aa rfl (aa ?_ (aa ?_ (aa ?_ (af ?_))))))))))))))))))))
 all_goals exact GZ ..
def sb(k:Nat)(a b e f:Int):(pE k a b e f).fr=true:=by
 unfold pE
 split <;> rfl
def Th.ae4(t:Th):t.hv.fr=true:=by
 unfold Th.hv
 split
 ·rfl
 ·exact sb ..
def Th.ac9(t:Th):Oi t.sl=true:=by
 unfold Th.sl
 split
 ·rfl
 ·exact aP (sb ..) rfl
def NI(i:Nat)(t:Th):(rX i t).fr=true:=by
 have e:(V.fls t.sl).fr=true:=(wC t.sl).trans t.ac9
 unfold rX qk
 refine(wD _ _).trans ?_
 cases t.sp <;> exact aP (a:=(V.fls t.sl).fr) e rfl
def BZ(i:Nat){t:Th}(h:Oi t.ts=true):(pH i t).fr=true:=by
 have e:(V.fls t.ts).fr=true:=(wC t.ts).trans h
 exact(wD _ _).trans (aP (a:=(V.fls t.ts).fr) e rfl)
def aF.f0{d:Md}(h:aF d):∀v∈G0 d.tl,v.fr=true:=dJ rfl λi t _=>NI i t
def aF.f1{d:Md}(h:aF d):∀v∈G1 d.tl,v.fr=true:=dJ rfl λi t _=>rfl
def aF.f2{d:Md}(h:aF d):∀v∈G2 d.tl,v.fr=true:=dJ rfl λi t _=>t.ae4
def aF.f3{d:Md}(h:aF d):∀v∈G3 d.tl,v.fr=true:=dJ rfl λi t ht=>(h.th t ht).2.2.2.1
def aF.f4{d:Md}(h:aF d):∀v∈G4 d.tl,v.fr=true:=dJ rfl λi t _=>rfl
def aF.f5{d:Md}(h:aF d):∀v∈G5 d.tl,v.fr=true:=dJ rfl λi t _=>rfl
def aF.f6{d:Md}(h:aF d):∀v∈G6 d.tl,v.fr=true:=rQ d.tl λi t ht=>BZ i (h.th t ht).2.2.2.2
def aF.f7{d:Md}(h:aF d):∀v∈d.vs,v.fr=true:=λv hv=>(h.vs v hv).2
def aF.f9{d:Md}(h:aF d):∀v∈d.sc.map V.int,v.fr=true:=λv hv=>by
 refine aH (fw.mp hv) λi _ e=>?_
 rw[<-e];rfl
def aF.fd{d:Md}(h:aF d):∀x v,D0 d.tl 1 x=some v->v.fr=true:=Gf d.tl λi t ht=>BZ i (h.th t ht).2.2.2.2
def aF.fl_{d:Md}(h:aF d):∀x v,d.dl x=some v->v.fr=true:=λx v e=>(h.dl x v e).2
def Dp.n58(x:Dp):Int:=match x.b with|0=>0|b=>.ofNat (aU b)
def IB(hi:Bool)(k:Nat):(iK hi k).E_ σ=Bf hi k (σ.ν 26) (σ.ν 58) (σ.ν 28) (σ.ν 29):=by
 by_cases e1:k=22
 ·rw[e1];rfl
 ·by_cases e2:k=24
  ·rw[e2];induction hi using bC <;> rfl
  ·rw[show iK hi k=.tup [iN 1,tY hi] by unfold iK;split <;> first|contradiction|rfl,show Bf hi k (σ.ν 26) (σ.ν 58) (σ.ν 28) (σ.ν 29)=.tup [iN 1,.int (R8 hi (σ.ν 26))] by unfold Bf;split <;> first|contradiction|rfl]
   induction hi using bC <;> rfl
def yH(k:Nat):(eW k).E_ σ=pE k (σ.ν 26) (σ.ν 27) (σ.ν 28) (σ.ν 29):=by
 by_cases e1:k=22
 ·rw[e1];rfl
 ·by_cases e2:k=24
  ·rw[e2];rfl
  ·rw[show pE k (σ.ν 26) (σ.ν 27) (σ.ν 28) (σ.ν 29)=.int (σ.ν 26) by unfold pE;split <;> first|contradiction|rfl,show eW k=s_ 26 by unfold eW;split <;> first|contradiction|rfl]
   rfl
def Cb(k:Nat):(eW k).gk=true:=by unfold eW;split <;> rfl
def GH(hi:Bool)(k:Nat):(iK hi k).gk=true:=by unfold iK;induction hi using bC <;> split <;> rfl
def NG(k:Nat):(Be k).gk=true:=by
 have e:(V.fls [eW k]).gk=true:=(ww _).trans (aP (Cb k) rfl)
 exact(wx _ _).trans (aP (a:=(V.fls [eW k]).gk) e rfl)
def xJ(hi:Bool)(k:Nat):(lx hi k).gk=true:=by
 have e:(V.fls [iK hi k]).gk=true:=(ww _).trans (aP (GH hi k) rfl)
 exact(wx _ _).trans (aP (a:=(V.fls [iK hi k]).gk) e rfl)
def N3(hi:Bool)(k:Nat)(a m e f:Int):(Bf hi k a m e f).fr=true/\(Bf hi k a m e f).h_=true:=by
 unfold Bf
 split <;> exact⟨rfl,rfl⟩
def cQ(x:Dp)(hi:Bool):Th:=⟨az x.kh,x.a,x.b,x.e,x.f,.none,[Bf hi (az x.kh) x.a x.n58 x.e x.f],false⟩
def Uq(l k:Nat):V:=.fin 388 [(cc "lid",iN l),(cc "name",.str (Str.ofString "v")),(cc "kind",iN k),(cc "flags",.int 0),(cc "owner",.int 1),(cc "arg",.int (-1)),(cc "block",.int 0)]
def Wz(b:Bool):Option Bool:=match b with
 | true=>some true
 | false=>.none
def Dp.nx(x:Dp)(nm:Bool)(st at':Nat):Md:={x.d with tl:=ap x.bx x.d.tl (cQ x),at_:=at',st:=st,es:=x.e6,vs:=vi nm x.d.vs (Uq x.d.vs.length x.k),dl:=yV (Wz nm) (.ofNat x.d.vs.length) (λ_=>.any) x.d.dl,zl:=x.d.zl+1}
structure vn(x:Dp)(hf:aw x):Prop where
 iz:∀hi,x.bx=some hi->x.iz=x.nn
 r:∀hi,x.bx=some hi->am (az x.kh)=false
def Ii(h:aw x)(N:vn x h){hi:Bool}(hb:x.bx=some hi):(Be (az x.kh)).E_ (x.cx h c).σ=rX x.nn (cQ x hi):=by
 unfold Be qk
 rw[se]
 show V.fin 470 [(cc "number",.int (.ofNat x.iz)),(cc "kind",iN (az x.kh)),(cc "slots",(V.fls [eW (az x.kh)]).E_ _),(cc "text",.none),(cc "rows",.fls []),(cc "version",.int 0),(cc "special",.none)]=_
 rw[sd,N.iz hi hb]
 show V.fin 470 [(cc "number",.int (.ofNat x.nn)),(cc "kind",iN (az x.kh)),(cc "slots",.fls [(eW (az x.kh)).E_ _]),(cc "text",.none),(cc "rows",.fls []),(cc "version",.int 0),(cc "special",.none)]=_
 rw[yH]
 unfold rX qk Th.sl
 rw[show am (cQ x hi).ex=false from N.r hi hb]
 rfl
def xI(h:aw x)(hi:Bool):(lx hi (az x.kh)).E_ (x.cx h c).σ=pH x.nn (cQ x hi):=by
 unfold lx
 rw[se]
 show V.fin 1121 [(cc "addr",iN (aU x.nn)),(cc "kind",iN (az x.kh)),(cc "slots",(V.fls [iK hi (az x.kh)]).E_ _),(cc "gen",.int 0),(cc "size",.int 3),(cc "serial",iN x.nn)]=_
 rw[sd]
 show V.fin 1121 [(cc "addr",iN (aU x.nn)),(cc "kind",iN (az x.kh)),(cc "slots",.fls [(iK hi (az x.kh)).E_ _]),(cc "gen",.int 0),(cc "size",.int 3),(cc "serial",iN x.nn)]=_
 rw[IB]
 rfl
def lW(h:aw x){f:Nat->Th->V}{c0:V}{w:Bool->V}(ZF:∀v∈c0::jQ f x.d.tl 1,v.fr=true)(hw:∀hi,x.bx=some hi->(w hi).gk=true/\(w hi).E_ (x.cx h c).σ=f x.nn (cQ x hi)){us}(r:bG (x.cx h c) p (ap x.bx (c0::jQ f x.d.tl 1) w) us):bG (c.sg σ') p (c0::jQ f (ap x.bx x.d.tl (cQ x)) 1) us:=by
 rcases hb:x.bx with _|hi
 ·rw[hb] at r;exact aR (c:=x.cx h c) (σ':=σ') ZF r
 ·rw[hb] at r
  refine bS (hw hi hb) λh1 h2=>?_
  show bG _ p (c0::jQ f (x.d.tl++[cQ x hi]) 1) us
  rw[yC,<-List.cons_append,Nat.add_comm 1]
  exact qO (c:=x.cx h c) (σ':=σ') h.om ZF h1 h2 r
def gV(nm:Bool):Nat:=match nm with
 | true=>17
 | false=>7
noncomputable def dV(nm:Bool):Nat:=match nm with
 | true=>11
 | false=>1
def QC(nm:Bool):l6:=⟨[(.at 5,.at 5),(.at 6,.at 6),(.at 7,.at 7),(.at 8,.at 8),(.at 38,.at 9),(.at 39,.at 10),(.at 35,.at 15),(.at 36,.at 16),(.at 37,.at 17)],[(11,11),(12,12),(13,13),(14,14)],[(6,0)],
 [(10,0),(11,1),(12,2),(13,3),(14,4),(15,5),(16,6),(9,9),(gV nm,7)],[(10,0),(dV nm,1)]⟩
noncomputable def QB:l6:=⟨[(.at 5,.at 5),(.at 6,.at 6),(.at 7,.at 7),(.at 8,.at 8),(.at 38,.at 9),(.at 10,.at 10),(.at 35,.at 15),(.at 36,.at 16),(.at 37,.at 17)],[(11,11),(12,12),(13,13),(14,14)],[(6,0)],
 [(10,0),(11,1),(12,2),(13,3),(14,4),(15,5),(16,6),(9,9),(7,7)],[(10,0),(1,1)]⟩
def ip(nm:Bool)(st at':Nat):(x.nx nm st at').tl.length=x.d.tl.length+up x.bx 1:=by
 show(ap x.bx x.d.tl (cQ x)).length=_
 rcases x.bx with _|hi
 ·rfl
 ·exact nE ..
def rd(h:aw x)(N:vn x h){nm:Bool}{st at':Nat}(hm:nm=true->x.nm=true)(H_:nm=true->x.kv=s_ 40\/x.kv=iN x.k)(hN:aF (x.nx nm st at')){e9 e10:Nat}(h9:(x.cx h c).σ.ν e9=.ofNat at')(h10:(x.cx h c).σ.ν e10=.ofNat st){r:l6}
  (hr:r=⟨[(.at 5,.at 5),(.at 6,.at 6),(.at 7,.at 7),(.at 8,.at 8),(.at e9,.at 9),(.at e10,.at 10),(.at 35,.at 15),(.at 36,.at 16),(.at 37,.at 17)],[(11,11),(12,12),(13,13),(14,14)],[(6,0)],
 [(10,0),(11,1),(12,2),(13,3),(14,4),(15,5),(16,6),(9,9),(gV nm,7)],[(10,0),(dV nm,1)]⟩):cH (x.cx h c) (sB (x.nx nm st at') hN c) r:=by
 rw[hr]
 have d:=h.d
 refine⟨?_,?_,?_,?_,?_,rfl⟩
 ·refine aa rfl (aa rfl (aa rfl (aa rfl (aa h9 (aa h10 (aa ?_ (aa ?_ (af ?_))))))))
  ·show Int.ofNat (aU x.nn+up x.bx 3)=Int.ofNat (aU ((x.nx nm st at').tl.length+1))
   rw[ip]
   unfold aU Dp.nn up
   split <;> congr 1 <;> omega
  ·show Int.ofNat (x.d.tl.length+up x.bx 1)=Int.ofNat (x.nx nm st at').tl.length
   rw[ip]
  ·show Int.ofNat (3 * x.d.tl.length+up x.bx 3)=Int.ofNat (3 * (x.nx nm st at').tl.length)
   rw[ip]
   unfold up
   split <;> congr 1 <;> omega
 ·exact aa ⟨rfl,rfl⟩ (aa ⟨rfl,rfl⟩ (aa ⟨rfl,rfl⟩ (af ⟨rfl,rfl⟩)))
 ·exact af λ ρ I k y a=>ub (r:=x.raw h.d h.hv) (r':=(I1 (x.nx nm st at')).raw hN ⟨rfl,rfl⟩) rfl rfl h.s6 a
 ·refine aa (λp us=>lW h d.f0 λhi hb=>⟨NG _,Ii h N hb⟩) (aa (λp us=>lW h d.f1 λhi hb=>⟨rfl,rfl⟩) (aa (λp us=>lW h d.f2 λhi hb=>⟨Cb _,?_⟩) (aa (λp us=>lW h d.f3 λhi hb=>⟨rfl,rfl⟩) (aa (λp us=>lW (c:=c) (w:=λ_=>dM) h d.f4 λhi hb=>⟨rfl,bl (λi=>V.int (.ofNat i)) (N.iz hi hb)⟩) (aa (λp us=>lW h d.f5 λhi hb=>⟨rfl,rfl⟩) (aa (λp us r=>?_) (aa (λp us r=>aR (c:=x.cx h c) d.f9 r) (af λp us r=>?_))))))))
  ·rw[yH]
   show _=(cQ x hi).hv
   unfold Th.hv
   rw[show am (cQ x hi).ex=false from N.r hi hb]
   rfl
  ·have r:bG (x.cx h c) p (ap x.bx (G6 x.d.tl) λh=>lx h (az x.kh)) us:=r
   show bG _ p (G6 (ap x.bx x.d.tl (cQ x))) us
   rcases hb:x.bx with _|hi
   ·rw[hb] at r;exact aR (c:=x.cx h c) d.f6 r
   ·rw[hb] at r
    show bG _ p (jQ pH (x.d.tl++[cQ x hi]) 1) us
    rw[yC,Nat.add_comm 1]
    exact qO (c:=x.cx h c) h.om d.f6 (xJ hi _) (xI h hi) r
  ·clear hr
   rcases nm with _|_
   ·exact aR (c:=x.cx h c) d.f7 r
   ·have k_:true=true:=rfl
    have r:bG (x.cx h c) p (vi x.nm x.d.vs (nL x.kv)) us:=r
    rw[hm k_] at r
    refine qO (c:=x.cx h c) h.om d.f7 ?_ ?_ r
    ·exact(H_ k_).elim (λe=>by rw[e];rfl) λe=>by rw[e];rfl
    ·exact(H_ k_).elim (λe=>by rw[e];rfl) λe=>by rw[e];rfl
 ·refine aa ⟨λp k y r=>?_,jL (ip nm st at').symm⟩ (af ⟨λp k y r=>?_,?_⟩)
  ·have r:au (x.cx h c) p (yV x.bx (.ofNat (aU x.nn)) (λh=>lx h (az x.kh)) (D0 x.d.tl 1) k) y:=r
   show au _ p (D0 (ap x.bx x.d.tl (cQ x)) 1 k) y
   rcases hb:x.bx with _|hi
   ·rw[hb] at r;exact gh (c:=x.cx h c) d.fd r
   ·rw[hb] at r
    show au _ p (D0 (x.d.tl++[cQ x hi]) 1 k) y
    rw[Pp,Nat.add_comm 1]
    exact uP (c:=x.cx h c) h.om d.fd (xJ hi _) (xI h hi) r
  ·clear hr
   rcases nm with _|_
   ·exact gh (c:=x.cx h c) d.fl_ r
   ·have k_:true=true:=rfl
    have r:au (x.cx h c) p (yV (match x.nm with|true=>some true|false=>.none) (.ofNat x.d.vs.length) (λ_=>.any) x.d.dl k) y:=r
    rw[hm k_] at r
    exact uP (c:=x.cx h c) h.om d.fl_ rfl rfl r
  ·rcases nm with _|_
   ·exact lm _
   ·exact fG _
noncomputable def TJ:List (SE×SE):=[(.at 5,.at 5),(.at 6,.at 6),(.at 7,.at 7),(.at 8,.at 8),(.at 9,.at 9),(.at 10,.at 10)]
def TI:List (Nat×Nat):=[(11,11),(12,12),(13,13),(14,14)]
def Gl:l6:=⟨(.at 15,.at 15)::(.at 16,.at 16)::(.at 17,.at 17)::TJ,TI,[(0,0)],[(0,0),(1,1),(2,2),(3,3),(4,4),(5,5),(6,6),(7,7),(9,9)],[(0,0),(1,1)]⟩
def QF:l6:=⟨(.at 15,.at 35)::(.at 16,.at 36)::(.at 17,.at 37)::TJ,TI,[(0,4)],[(0,10),(1,11),(2,12),(3,13),(4,14),(5,15),(6,16),(7,7),(9,9)],[(0,10),(1,1)]⟩
def MR(h:aw x):∀z∈TJ,z.1.ev (sB x.d h.d c).ν=z.2.ev (x.s h c).ν:=aa rfl (aa rfl (aa rfl (aa rfl (aa rfl (af rfl)))))
def MO(h:aw x):∀z∈TI,(x.s h c).ω z.2=(sB x.d h.d c).ω z.1/\((sB x.d h.d c).ω z.1).fr=true:=aa ⟨rfl,rfl⟩ (aa ⟨rfl,rfl⟩ (aa ⟨rfl,rfl⟩ (af ⟨rfl,rfl⟩)))
def ql(h:aw x):cH (c.sg (sB x.d h.d c)) (x.s h c) Gl where
 n:=aa rfl (aa rfl (aa rfl (MR h)))
 o:=MO h
 a:=af λ ρ I k y a=>ub (r:=(I1 x.d).raw h.d ⟨rfl,rfl⟩) (r':=x.raw h.d h.hv) rfl rfl h.d.es a
 g:=aa (λp us r=>aR (c:=c.sg (sB x.d h.d c)) h.d.f0 r) (aa (λp us r=>aR (c:=c.sg (sB x.d h.d c)) h.d.f1 r) (aa (λp us r=>aR (c:=c.sg (sB x.d h.d c)) h.d.f2 r) (aa (λp us r=>aR (c:=c.sg (sB x.d h.d c)) h.d.f3 r) (aa (λp us r=>aR (c:=c.sg (sB x.d h.d c)) h.d.f4 r) (aa (λp us r=>aR (c:=c.sg (sB x.d h.d c)) h.d.f5 r)
  (aa (λp us r=>aR (c:=c.sg (sB x.d h.d c)) h.d.f6 r) (aa (λp us r=>aR (c:=c.sg (sB x.d h.d c)) h.d.f7 r) (af λp us r=>aR (c:=c.sg (sB x.d h.d c)) h.d.f9 r))))))))
 d:=aa ⟨λp k y r=>gh (c:=c.sg (sB x.d h.d c)) h.d.fd r,fG _⟩ (af ⟨λp k y r=>gh (c:=c.sg (sB x.d h.d c)) h.d.fl_ r,fG _⟩)
 b:=rfl
def NS(h:aw x)(hb:x.bx=.none)(h1:x.o1=4)(h2:x.o2=4):cH (c.sg (sB x.d h.d c)) (x.s h c) QF:=by
 have a0:∀{l:List V} {w:Bool->V},ap x.bx l w=l:=λ{l w}=>by rw[hb];rfl
 have e4:x.e4=x.d.es:=by unfold Dp.e4 Dp.e2;rw[h1,h2];rfl
 refine⟨aa ?_ (aa ?_ (aa ?_ (MR h))),MO h,af λ ρ I k y a=>?_,?_,aa ⟨λp k y r=>?_,?_⟩ (af ⟨λp k y r=>gh (c:=c.sg (sB x.d h.d c)) h.d.fl_ r,fG _⟩),rfl⟩
 ·show Int.ofNat (aU (x.d.tl.length+1))=Int.ofNat (aU x.nn+up x.bx 3);rw[hb];rfl
 ·show Int.ofNat x.d.tl.length=Int.ofNat (x.d.tl.length+up x.bx 1);rw[hb];rfl
 ·show Int.ofNat (3 * x.d.tl.length)=Int.ofNat (3 * x.d.tl.length+up x.bx 3);rw[hb];rfl
 ·show gD (c.sg (x.raw h.d h.hv).s0) (gp x.e4) ρ I k y
  rw[e4]
  exact ub (r:=(I1 x.d).raw h.d ⟨rfl,rfl⟩) (r':=x.raw h.d h.hv) rfl rfl h.d.es a
 ·refine aa (λp us r=>?_) (aa (λp us r=>?_) (aa (λp us r=>?_) (aa (λp us r=>?_) (aa (λp us r=>?_) (aa (λp us r=>?_)
  (aa (λp us r=>?_) (aa (λp us r=>aR (c:=c.sg (sB x.d h.d c)) h.d.f7 r) (af λp us r=>aR (c:=c.sg (sB x.d h.d c)) h.d.f9 r))))))))
  ·show bG _ p (ap x.bx (G0 x.d.tl) _) us;rw[a0];exact aR (c:=c.sg (sB x.d h.d c)) h.d.f0 r
  ·show bG _ p (ap x.bx (G1 x.d.tl) _) us;rw[a0];exact aR (c:=c.sg (sB x.d h.d c)) h.d.f1 r
  ·show bG _ p (ap x.bx (G2 x.d.tl) _) us;rw[a0];exact aR (c:=c.sg (sB x.d h.d c)) h.d.f2 r
  ·show bG _ p (ap x.bx (G3 x.d.tl) _) us;rw[a0];exact aR (c:=c.sg (sB x.d h.d c)) h.d.f3 r
  ·show bG _ p (ap x.bx (G4 x.d.tl) _) us;rw[a0];exact aR (c:=c.sg (sB x.d h.d c)) h.d.f4 r
  ·show bG _ p (ap x.bx (G5 x.d.tl) _) us;rw[a0];exact aR (c:=c.sg (sB x.d h.d c)) h.d.f5 r
  ·show bG _ p (ap x.bx (G6 x.d.tl) _) us;rw[a0];exact aR (c:=c.sg (sB x.d h.d c)) h.d.f6 r
 ·show au _ p (yV x.bx _ _ (D0 x.d.tl 1) k) y
  rw[hb]
  exact gh (c:=c.sg (sB x.d h.d c)) h.d.fd r
 ·exact j2 _ _
def HL:Hp:=H9 Hc++F_ 3
def Yt:List (Nat×AO):=[(P.w_,A9 (.at 38)),(P.y_,.t_ 6)]
def Xd(m:Nat):Hp:=match m with
 | 2=>H9 (Hd 4 10)++F_ 3
 | _=>HL
def Uz(m:Nat):l6:=match m with
 | 2=>QF
 | _=>Gl
def Pu(m:Nat):l6:=match m with
 | 0=>QC true
 | 1=>QC false
 | _=>QB
def TU(m:Nat):FS:=match m with
 | 0=>bg (H9 Hc++v8 true) [⟨[.ref 0],.bool true,Ax true⟩]
 | 1=>bg (H9 Hc++v8 false) [⟨[.ref 0],.bool true,Ax false⟩]
 | _=>bg (H9 (Hd 4 10)++oO 3 43) [⟨[.ref 0],.bool true,Yt⟩]
structure pT(d:Md)(N:Nat):Prop where
 t:d.tl.length<=20+N
 a:d.at_<=20+3 * N
 s:d.st<=20+N
 v:d.vs.length<=20+N
 z:d.zl<=20+N
def Kb(b:Option Bool):up b 1<=1:=by
 unfold up;split <;> lia
def zf{α:Type}{b:Bool}{l:List α}{v:α}:(vi b l v).length<=l.length+1:=by
 unfold vi
 split
 ·rw[nE];exact fG _
 ·exact lm _
def O7{α:Type}{b:Bool}{l:List α}{v:α}:l.length<=(vi b l v).length:=by
 unfold vi
 split
 ·rw[nE];exact j2 _ _
 ·exact fG _
def MP{N:Nat}{nm:Bool}{st at':Nat}(b:pT x.d N)(hs:st<=x.d.st+1)(ha:at'<=x.d.at_+3):pT (x.nx nm st at') (N+1):=by
 obtain⟨b1,b2,b3,b4,b5⟩:=b
 refine⟨?_,?_,?_,?_,?_⟩
 ·rw[ip];have:=Kb x.bx;lia
 ·show at'<=_;lia
 ·show st<=_;lia
 ·show(vi nm x.d.vs _).length<=_;exact dK zf (by lia)
 ·show x.d.zl+1<=_;lia
def C8(hx:∀hi,x.bx=some hi->az x.kh∈ma){hi:Bool}(hb:x.bx=some hi):tm 0 (cQ x hi):=by
 refine bS (N3 hi (az x.kh) x.a x.n58 x.e x.f) λf g=>?_
 exact⟨⟨rfl,aP g rfl⟩,hx hi hb,nofun,rfl,aP f rfl⟩
def LV{tl:List Th}{t:Th}(h:JW tl)(h9:9<=tl.length)(ht:qE t):JW (tl++[t]):=λj u e=>by
 by_cases hj:j < tl.length
 ·rw[qI hj] at e
  exact h j u e
 ·have hl:j < (tl++[t]).length:=(oD e).1
  rw[nE] at hl
  have hl:j < tl.length+1:=hl
  have ej:j=tl.length:=by lia
  rw[ej,vC] at e
  obtain rfl:=oI e
  exact⟨λh=>by lia,λ_=>ht⟩
def yn{N:Nat}{nm:Bool}{st at':Nat}(h:aw x)(b:pT x.d N)(hN:N<=100)(hs:st<=x.d.st+1)(ha:at'<=x.d.at_+3)(hx:∀hi,x.bx=some hi->az x.kh∈ma)(hw:∀hi,x.bx=some hi->qE (cQ x hi))(X:jA x):aF (x.nx nm st at'):=by
 obtain⟨b1,b2,b3,b4,b5⟩:=b
 have d:=h.d
 have hl:=ip (x:=x) nm st at'
 have hu:=Kb x.bx
 refine⟨d.hT,d.hM,d.hE,d.hF,d.sc,?_,?_,?_,?_,?_,?_,?_,?_,h.s6,?_,?_,?_,?_,?_,?_⟩
 ·show ∀t∈ap x.bx x.d.tl (cQ x),tm 0 t
  rcases hb:x.bx with _|hi
  ·exact d.th
  ·exact bw d.th (af (C8 hx hb))
 ·rw[hl]
  show ∀t∈ap x.bx x.d.tl (cQ x),0<=t.b/\t.b<=(x.d.tl.length+up x.bx 1:Nat)
  have old:∀t∈x.d.tl,0<=t.b/\t.b<=(x.d.tl.length+up x.bx 1:Nat):=λt ht=>⟨(d.ix t ht).1,Int.le_trans (d.ix t ht).2 (gM.mpr (j2 _ _))⟩
  rcases hb:x.bx with _|hi
  ·rw[hb] at old;exact old
  ·rw[hb] at old
   refine bw old (af ⟨nI _,gM.mpr (dK X.b (j2 _ _))⟩)
 ·rw[hl];have:=d.n9;lia
 ·show JW (ap x.bx x.d.tl (cQ x))
  rcases hb:x.bx with _|hi
  ·exact d.tk
  ·exact LV d.tk d.n9 (hw hi hb)
 ·intro t ht
  have ZU:0 < x.d.tl.length:=by have:=d.n9;lia
  have ht:(ap x.bx x.d.tl (cQ x))[0]? =some t:=ht
  refine d.r0 t ?_
  rcases hb:x.bx with _|hi
  ·rw[hb] at ht;exact ht
  ·rw[hb] at ht;rw[<-ht];exact(qI ZU).symm
 ·rw[hl];lia
 ·show at'<=990;lia
 ·show st<=3000;lia
 ·show ∀v∈vi nm x.d.vs _,_
  unfold vi
  split
  ·exact bw d.vs (af ⟨rfl,rfl⟩)
  ·exact d.vs
 ·show 1<=(vi nm x.d.vs _).length
  exact dK d.v1 O7
 ·show(vi nm x.d.vs _).length<=900
  exact dK zf (by lia)
 ·show x.d.zl+1<=900;lia
 ·show yV (Wz nm) (.ofNat x.d.vs.length) (λ_=>.any) x.d.dl 0=.none
  rcases nm with _|_
  ·exact d.d0
  ·show(if Int.ofNat x.d.vs.length=0 then some _ else x.d.dl 0)=_
   rw[if_neg (λe=>by have h1:=d.v1;have h2:x.d.vs.length=0:=Int.ofNat.inj e;lia)]
   exact d.d0
 ·exact sq (P:=λv:V=>v.h_=true/\v.fr=true) d.dl λ_=>⟨rfl,rfl⟩
def Uf(c:Cx)(d d':Md):Prop:=∃(h:aF d) (h':aF d') (Z8:Sg) (m:Nat),m < 3/\ah aq (c.sg Z8) 92 1738 (TU m)/\bJ (c.sg Z8)/\cH (c.sg (sB d h c)) Z8 (Uz m)/\cH (c.sg Z8) (sB d' h' c) (Pu m)
def SC(h:aw x)(Zj:x.da=3)(N:vn x h)(G:pA c){nm:Bool}(hm:nm=true->x.nm=true)(H_:nm=true->x.kv=s_ 40\/x.kv=iN x.k)(hN:aF (x.nx nm (x.d.st+1) (x.d.at_+3)))
  (hc:ah aq (x.cx h c) 92 1738 (bg (H9 Hc++v8 nm) [⟨[.ref 0],.bool true,Ax nm⟩])):Uf c x.d (x.nx nm (x.d.st+1) (x.d.at_+3)):=by
 have GG:=h.E_ G
 rcases nm with _|_
 ·exact⟨h.d,hN,x.s h c,1,by decide,hc,GG,ql h,rd h N hm H_ hN (e9:=38) (by show Int.ofNat (x.d.at_+x.da)=_;rw[Zj]) (e10:=39) rfl rfl⟩
 ·exact⟨h.d,hN,x.s h c,0,by decide,hc,GG,ql h,rd h N hm H_ hN (e9:=38) (by show Int.ofNat (x.d.at_+x.da)=_;rw[Zj]) (e10:=39) rfl rfl⟩
def SD(h:aw x)(Zj:x.da=3)(N:vn x h)(G:pA c)(hb:x.bx=.none)(ho1:x.o1=4)(ho2:x.o2=4)(hN:aF (x.nx false x.d.st (x.d.at_+3)))
  (hc:ah aq (x.cx h c) 92 1738 (bg (H9 (Hd 4 10)++oO 3 43) [⟨[.ref 0],.bool true,[(P.w_,A9 (.at 38)),(P.y_,.t_ 6)]⟩])):Uf c x.d (x.nx false x.d.st (x.d.at_+3)):=by
 have GG:=h.E_ G
 exact⟨h.d,hN,x.s h c,2,by decide,hc,GG,NS h hb ho1 ho2,rd h N (nm:=false) nofun nofun hN (e9:=38) (by show Int.ofNat (x.d.at_+x.da)=_;rw[Zj]) (e10:=10) rfl rfl⟩
variable{d:Md}
def Md.o(d:Md):Int:=jb (d.sc.map .int) d.at_
def Md.xx(d:Md):Int:=jb (d.sc.map .int) (d.at_+1)
def Md.y(d:Md):Int:=jb (d.sc.map .int) (d.at_+2)
def Md.u(d:Md):Int:=d.o.fdiv 6
def Md.by_(d:Md):Bool:=d.u.fmod 2 == 1
def Md.b2(d:Md):Bool:=(d.u.fdiv 2).fmod 2 == 1
def Md.nm(d:Md):Bool:=(d.u.fdiv 16).fmod 2 == 0
def Md.fo(d:Md):Bool:=decide ((d.u.fdiv 4).fmod 4=3)
def Md.k47(d:Md):Nat:=cP [d.T,d.M] (d.y.fmod 2).toNat
def Md.k48(d:Md):Nat:=tJ d.T d.M ((d.xx.fdiv 2).fmod 6).toNat
def Md.k49(d:Md):Nat:=te (d.xx.fmod 12).toNat
def Md.nn(d:Md):Nat:=d.tl.length+1
def Md.n52(d:Md):Int:=d.xx.fdiv 36+d.y.fdiv 4
def Md.n54(d:Md):Int:=(d.xx.fdiv 4).fmod (.ofNat d.nn+ -10)
def Md.n55(d:Md):Int:=if d.xx.fmod 4=3 then 0 else d.xx.fmod 4
def Md.n56(d:Md):Int:=if(d.xx.fdiv 12).fmod 3=2 then 0 else(d.xx.fdiv 12).fmod 3
def Md.n57(d:Md):Int:=if(d.u.fdiv 4).fmod 4=3 then 0 else(d.u.fdiv 4).fmod 4
def Xw:Th:=⟨17,0,0,0,0,.none,[],false⟩
def Md.B_(d:Md)(i:Nat):Th:=match d.tl[i - 1]? with
 | some t=>t
 | .none=>Xw
def Md.exO(d:Md)(i:Nat):Option Nat:=match i with
 | 0=>.none
 | i+1=>some (d.B_ (i+1)).ex
def Gj(b:Bool):Kd:=match b with
 | true=>.yes
 | false=>.no
def Md.Z2(d:Md)(ex k i:Nat):Kd:=match i with
 | 0=>.nul
 | _+1=>Gj (cr d.fl ex k)
def mD(d:Md)(kh k ka o1 o2 o3 i k45:Nat)(kv:V):Dp where
 d:=d
 kh:=kh
 b2:=d.b2
 k:=k
 by_:=d.by_
 o1:=o1
 o2:=o2
 o3:=o3
 ka:=ka
 i:=i
 bx:=.none
 a:=(d.B_ i).a
 b:=(d.B_ i).b.toNat
 e:=(d.B_ i).c
 f:=(d.B_ i).d
 g:=0
 nm:=d.nm
 hv:=.int (.ofNat i)
 k45:=k45
 k47:=d.k47
 k48:=d.k48
 k49:=d.k49
 n52:=d.n52
 n50:=0
 n53:=0
 n54:=d.n54
 n55:=d.n55
 n56:=d.n56
 n57:=d.n57
 kv:=kv
def kb{i:Nat}(h:aF d)(hi:i<=d.tl.length):d.tl[i - 1]? =some (d.B_ i)/\d.B_ i∈d.tl:=by
 have hl:i - 1 < d.tl.length:=by have:=h.n9;lia
 have e:d.tl[i - 1]? =some d.tl[i - 1]:=vr hl
 unfold Md.B_
 rw[e]
 exact⟨rfl,List.getElem_mem hl⟩
def oF(x:Dp):x.iz=(x.i - 1)+1:=by
 unfold Dp.iz
 induction x.i using nC with
 | zero=>rfl
 | succ i=>rfl
def qZ{kh k ka o1 o2 o3 i k45:Nat}{kv:V}(h:aF d)(hi:i<=d.tl.length):(mD d kh k ka o1 o2 o3 i k45 kv).W_ (d.B_ i).ex (d.B_ i).sp:=by
 refine bS (kb h hi) λe m=>?_
 exact .old rfl (oF _) e λ_=>⟨rfl,pF (h.ix _ m).1,rfl,rfl⟩
def jO{kh k ka o1 o2 o3 i k45:Nat}{kv:V}(h:aF d)(hi:i<=d.tl.length):jA (mD d kh k ka o1 o2 o3 i k45 kv):=by
 refine bS (kb h hi) λe m=>?_
 refine⟨?_,?_⟩
 ·show(d.B_ i).b.toNat<=d.tl.length
  have:=(h.ix _ m).2
  have:=(h.ix _ m).1
  lia
 ·induction i using nC with
  | zero=>exact .inl ⟨rfl,rfl⟩
  | succ i=>exact .inr rfl
def oq{kh k ka o1 o2 o3 i k45:Nat}{kv:V}{ex k':Nat}:(d.Z2 ex k' i=.nul/\(mD d kh k ka o1 o2 o3 i k45 kv).i=0)\/(d.Z2 ex k' i≠.nul/\(mD d kh k ka o1 o2 o3 i k45 kv).i=(mD d kh k ka o1 o2 o3 i k45 kv).iz):=by
 induction i using nC with
 | zero=>exact .inl ⟨rfl,rfl⟩
 | succ i=>
  refine .inr ⟨?_,rfl⟩
  show Gj _≠.nul
  rcases cr d.fl ex k' with _|_
  ·exact nofun
  ·exact nofun
def J4{i ex k:Nat}(h:d.Z2 ex k i≠.nul):(d.Z2 ex k i).b=cr d.fl ex k:=by
 induction i using nC with
 | zero=>exact absurd rfl h
 | succ i=>
  show(Gj _).b=_
  rcases cr d.fl ex k with _|_
  ·rfl
  ·rfl
def yj{kh k ka o1 o2 o3 i k45 k':Nat}{kv:V}(h:aF d)(hi:i<=d.tl.length)(e:k45=jI d.uE d.uF (d.exO i) d.y):qF (mD d kh k ka o1 o2 o3 i k45 kv) (d.Z2 (d.B_ i).ex k' i) (d.exO i):=by
 refine bS (kb h hi) λ_ m=>?_
 induction i using nC with
 | zero=>exact⟨⟨λ_=>rfl,λ_=>rfl⟩,(λk e=>nomatch e),e⟩
 | succ i=>
  refine⟨⟨λq=>?_,nofun⟩,λk q=>?_,e⟩
  ·have q:Gj (cr d.fl (d.B_ (i+1)).ex k')=.nul:=q
   rcases hg:cr d.fl (d.B_ (i+1)).ex k' with _|_
   ·rw[hg] at q;cases q
   ·rw[hg] at q;cases q
  ·obtain rfl:=oI q
   exact⟨(h.th _ m).2.1,_,qZ h hi⟩
def fm{z:Int}{m:Nat}(hm:0 < m):(z.fmod (m:Int)).toNat < m:=by
 refine bS (a9 z (m:=(m:Int)) (by omega)) λh0 h1=>?_
 omega
def rL(h:aF d):d.k48∈KN:=by
 have hT:=oy h.hT
 have hM:=lD h.hM
 have hj:((d.xx.fdiv 2).fmod 6).toNat < 6:=fm (z:=d.xx.fdiv 2) (m:=6) (by decide)
 unfold Md.k48 tJ
 generalize ((d.xx.fdiv 2).fmod 6).toNat=j at hj ⊢
 have hj:j < 6:=hj
 match j,hj with
 | 0,_=>exact(by decide:12∈KN)
 | 1,_=>exact(by decide:17∈KN)
 | 2,_=>exact(by decide:19∈KN)
 | 3,_=>exact(by decide:16∈KN)
 | 4,_=>exact hT
 | 5,_=>exact hM
 | m+6,h=>lia
def NF(h:aF d):d.k47∈KN:=by
 have hj:(d.y.fmod 2).toNat < 2:=fm (z:=d.y) (m:=2) (by decide)
 unfold Md.k47
 generalize (d.y.fmod 2).toNat=j at hj ⊢
 have hj:j < 2:=hj
 match j,hj with
 | 0,_=>exact oy h.hT
 | 1,_=>exact lD h.hM
 | m+2,h=>lia
def DN(d:Md):d.k49∈pq:=by
 have hj:(d.xx.fmod 12).toNat < 12:=fm (z:=d.xx) (m:=12) (by decide)
 unfold Md.k49 te
 generalize (d.xx.fmod 12).toNat=j at hj ⊢
 have hj:j < 12:=hj
 have:∀j < 12,cP [7,20,22,8,21,25,27,28,24,26,1,29] j∈pq:=by decide +kernel
 exact this j hj
def FV(h:aF d){exO:Option Nat}(he:∀k,exO=some k->k∈ma)(y:Int):jI d.uE d.uF exO y∈KN:=by
 have hE:d.uE∈KN:=by
  have:∀k∈[7,4,8],k∈KN:=by decide
  exact this _ h.hE
 have hF:d.uF∈KN:=by
  have:∀k∈[7,4,8],k∈KN:=by decide
  exact this _ h.hF
 have n25:cP qf ((y.fdiv 4).fmod 25).toNat∈KN:=by
  have hj:((y.fdiv 4).fmod 25).toNat < 25:=fm (z:=y.fdiv 4) (m:=25) (by decide)
  have:∀j < 25,cP qf j∈KN:=by decide +kernel
  exact this _ hj
 unfold jI
 split
 ·exact n25
 ·rename_i ex
  have hx:=he ex rfl
  have q1:∀ex∈ma,Hm ex∈KN/\w7 ex∈KN/\ex∈KN:=by decide +kernel
  refine nJ (q1 ex hx) λa b e=>?_
  split
  ·exact n25
  ·unfold qB
   split
   ·exact a
   ·split
    ·split
     ·exact hE
     ·exact hF
     ·exact b
    ·exact(by decide:16∈KN)
    ·exact b
   ·exact e
def IW{i:Nat}(h:aF d)(hi:i<=d.tl.length):∀k,d.exO i=some k->k∈ma:=by
 induction i using nC with
 | zero=>exact λk e=>nomatch e
 | succ i=>intro k e;obtain rfl:=oI e;exact(h.th _ (kb h hi).2).2.1
def Md.ri(d:Md):Nat:=(zN d.xx (.ofNat d.nn)).toNat
def fW(h10:10<=d.tl.length):Int.ofNat d.ri=zN d.xx (.ofNat d.nn)/\d.ri<=d.tl.length:=by
 have hn:(d.nn:Int)=d.tl.length+1:=rfl
 unfold Md.ri zN
 split
 ·refine bS (a9 (d.xx.fdiv 4) (m:=10) (by decide)) λh0 h1=>?_
  constructor
  ·exact pF h0
  ·omega
 ·obtain⟨h0,h1⟩:=a9 (d.xx.fdiv 4) (m:=Int.ofNat d.nn - 10) (by show(0:Int) < (d.nn:Int) - 10;omega)
  have h1:(d.xx.fdiv 4).fmod (Int.ofNat d.nn - 10) < (d.nn:Int) - 10:=h1
  constructor
  ·exact pF (by omega)
  ·omega
def yi{kh k ka o1 o2 o3 k45:Nat}{kv:V}(h10:10<=d.tl.length):pu (mD d kh k ka o1 o2 o3 d.ri k45 kv):=⟨(fW h10).1,j3 h10,rfl,rfl⟩
def q5{kh k ka o1 o2 o3 i k45:Nat}{kv:V}(hf:aw (mD d kh k ka o1 o2 o3 i k45 kv)):vn (mD d kh k ka o1 o2 o3 i k45 kv) hf:=⟨(λhi e=>nomatch e),(λhi e=>nomatch e)⟩
end
section
variable{c bj:Cx}{p q:Pt}{kx:Nat->Sy->Bool}{x:Dp}{d:Md}{σ σ':Sg}{ex:Nat}{sp:Bool}{z:Kd}{kh k k45:Nat}{kv:V}
def DF(k:Nat)(z:Kd):V:=match z.b with
 | true=>match am k with
  | true=>kL
  | false=>iN k
 | false=>kL
def ry(k:Nat)(z:Kd):(DF k z).h_=true:=by
 unfold DF
 split
 ·split <;> rfl
 ·rfl
def wl(k:Nat)(z:Kd):DF k z=s_ 40\/DF k z=iN k:=by
 unfold DF
 split
 ·split
  ·exact .inl rfl
  ·exact .inr rfl
 ·exact .inl rfl
def xT(d:Md)(kh k i k45:Nat)(kv:V):Dp:=mD d kh k (gU d.T d.M k d.by_) (iO d.T d.M kh d.b2) (iO d.T d.M k d.by_) (iO d.T d.M (gU d.T d.M k d.by_) d.by_) i k45 kv
def BA{i:Nat}(h:aF d)(h1:kh∈KN)(h2:k∈KN)(H_:kv.h_=true):aw (xT d kh k i k45 kv):=⟨h,⟨rfl,H_⟩,rfl,h1,h2,.inl rfl,.inl rfl,rJ h2 d.by_,.inl rfl⟩
def LI{i:Nat}(h:aF d)(hi:i<=d.tl.length):AZ (xT d kh k i k45 kv) (d.B_ i).ex (d.B_ i).sp (d.Z2 (d.B_ i).ex k i):=
 ⟨qZ h hi,(h.th _ (kb h hi).2).2.1,(h.th _ (kb h hi).2).2.2.1,jO h hi,λe=>J4 e,rfl,rfl,rfl⟩
def PN{i:Nat}(h:aF d)(hi:i<=d.tl.length)(hr:am kh=true):l8 (xT d kh k i k45 kv) (d.Z2 (d.B_ i).ex k i):=by
 refine⟨rfl,hr,rfl,rfl,?_,oq⟩
 rw[oF]
 show(i - 1)+1<=d.tl.length
 have:=h.n9
 omega
def re(d:Md):(0<=d.n57/\d.n57<=2)/\(d.u.fdiv 4).fmod 4=match d.fo with|true=>3|false=>d.n57:=by
 refine bS (a9 (d.u.fdiv 4) (m:=4) (by decide)) λh0 h1=>?_
 unfold Md.n57 Md.fo
 by_cases e:(d.u.fdiv 4).fmod 4=3
 ·rw[if_pos e,gJ e];exact⟨⟨by decide,by decide⟩,e⟩
 ·rw[if_neg e,jZ e];exact⟨⟨h0,by omega⟩,rfl⟩
def C9(d:Md):0<=d.n56/\d.n56<=1:=by
 refine bS (a9 (d.xx.fdiv 12) (m:=3) (by decide)) λh0 h1=>?_
 unfold Md.n56
 split
 ·exact⟨by decide,by decide⟩
 ·exact⟨h0,by omega⟩
def BB{i:Nat}{m:Nv}(hm:m.Y5=true):A7 (xT d kh k i k45 kv) d.fo m where
 by_:=rfl
 b2:=rfl
 nm:=rfl
 k47:=rfl
 k48:=rfl
 k49:=rfl
 n52:=rfl
 n57:=(re d).1
 fo:=(re d).2
 n56:=C9 d
 x3:=by induction m using Nv.casesOn with
  | r1=>trivial
  | r2=>trivial
  | v1=>exact bT hm
  | v2=>exact bT hm
  | v3=>exact bT hm
def Md.mR(d:Md):Nv:=match am d.k48 with
 | true=>.r1
 | false=>.r2
def Md.YZ(d:Md):Nat:=match am d.k48 with
 | true=>d.k48
 | false=>12
def iW(h:aF d):d.mR.Y5=true/\d.YZ∈KN/\am d.YZ=true:=by
 unfold Md.mR Md.YZ
 rcases e:am d.k48 with _|_
 ·exact⟨rfl,(by decide:12∈KN),rfl⟩
 ·exact⟨rfl,rL h,e⟩
def yu{i:Nat}(h:aF d):A4 (xT d d.YZ k i k45 kv) d.mR/\Bc (xT d d.YZ k i k45 kv) d.mR=d.YZ:=by
 unfold Md.mR Md.YZ
 rcases e:am d.k48 with _|_
 ·exact⟨⟨rL h,e⟩,rfl⟩
 ·exact⟨⟨rL h,e⟩,rfl⟩
structure jY(d d':Md)(N:Nat):Prop where
 ok:aF d'
 b:pT d' (N+1)
 l:d.tl.length<=d'.tl.length
 st:∀(c:Cx),pA c->Uf c d d'
def qb{N:Nat}(h:aw x)(Zj:x.da=3)(N':vn x h)(X:jA x)(b:pT x.d N)(hN:N<=100)(hx:∀hi,x.bx=some hi->az x.kh∈ma)(hw:∀hi,x.bx=some hi->qE (cQ x hi)){nm:Bool}(hm:nm=true->x.nm=true)(H_:nm=true->x.kv=s_ 40\/x.kv=iN x.k)
  (hc:∀(c:Cx),pA c->ah aq (x.cx h c) 92 1738 (bg (H9 Hc++v8 nm) [⟨[.ref 0],.bool true,Ax nm⟩])):jY x.d (x.nx nm (x.d.st+1) (x.d.at_+3)) N where
 ok:=yn h b hN (fG _) (fG _) hx hw X
 b:=MP b (fG _) (fG _)
 l:=by rw[ip];exact j2 _ _
 st c G:=SC h Zj N' G hm H_ (yn h b hN (fG _) (fG _) hx hw X) (hc c G)
def Md.kA(d:Md)(k45:Nat):Nat:=match d.fo with
 | true=>d.k47
 | false=>k45
def NP{m:Nv}(hm:m.Y5=true){o:Int}(ho:o=0\/o=2):(o,m)∈oH:=by
 induction m using Nv.casesOn with
 | r1=>rcases ho with rfl|rfl <;> simp[oH]
 | r2=>rcases ho with rfl|rfl <;> simp[oH]
 | v1=>exact bT hm
 | v2=>exact bT hm
 | v3=>exact bT hm
def O6{m:Nv}(hm:m.Y5=true):((4:Int),m)∈jU:=by
 induction m using Nv.casesOn with
 | r1=>simp[jU]
 | r2=>simp[jU]
 | v1=>exact bT hm
 | v2=>exact bT hm
 | v3=>exact bT hm
def Md.i_(d:Md):Nat:=jI d.uE d.uF (d.exO d.ri) d.y
def rM(h:aF d)(h10:10<=d.tl.length):d.i_∈KN:=FV h (IW h (fW h10).2) d.y
def yA(h:aF d)(hk:k45∈KN):d.kA k45∈KN:=by
 unfold Md.kA
 split
 ·exact NF h
 ·exact hk
def BC(h:aF d)(h10:10<=d.tl.length)(hf:aw (xT d d.YZ k d.ri d.i_ kv))(G:bJ ((xT d d.YZ k d.ri d.i_ kv).cx hf c)):gj ((xT d d.YZ k d.ri d.i_ kv).cx hf c) d.mR:=
 OC hf G (iW h).1 (yu h).2 (PN h (fW h10).2 (iW h).2.2) (yi h10) (yj (k':=k) h (fW h10).2 rfl) rfl
def vH(h:aF d)(h10:10<=d.tl.length)(hf:aw (xT d d.YZ k d.ri d.i_ kv)):jf ((xT d d.YZ k d.ri d.i_ kv).cx hf c).σ d.YZ (d.Z2 (d.B_ d.ri).ex k d.ri):=
 (PN h (fW h10).2 (iW h).2.2:l8 (xT d d.YZ k d.ri d.i_ kv) _).box hf
def RI{N:Nat}(h:aF d)(b:pT d N)(hN:N<=100)(h10:10<=d.tl.length)(ho:d.o.fmod 6=0\/d.o.fmod 6=2):∃d',jY d d' N:=by
 have hk:=yA h (rM h h10)
 let z:=d.Z2 (d.B_ d.ri).ex (d.kA d.i_) d.ri
 have hf:aw (xT d d.YZ (d.kA d.i_) d.ri d.i_ (DF (d.kA d.i_) z)):=BA h (iW h).2.1 hk (ry ..)
 refine⟨_,qb (x:=xT d d.YZ (d.kA d.i_) d.ri d.i_ (DF (d.kA d.i_) z)) hf rfl (q5 hf) (jO h (fW h10).2) b hN (λhi e=>nomatch e) (λhi e=>nomatch e) (nm:=d.nm) id (λ_=>wl _ _) λc G=>?_⟩
 have GG:=hf.E_ G
 exact(yW hf GG (NP (iW h).1 ho) (BB (iW h).1) (yu h).1 (BC h h10 hf GG) (LI h (fW h10).2) (vH h h10 hf) oq (λ_=>rfl) (by show d.kA d.i_=mS _ d.fo;unfold Md.kA mS;cases d.fo <;> rfl)).le (by decide)
def V2{N:Nat}(h:aF d)(b:pT d N)(hN:N<=100)(h10:10<=d.tl.length)(ho:d.o.fmod 6=4):∃d',jY d d' N:=by
 have hk:=yA h (rM h h10)
 have hD:∀{x:Dp},x.k47=d.k47->x.k45=d.i_->mS x d.fo=d.kA d.i_:=λ{x} e1 e2=>by
  unfold Md.kA mS
  rw[e1,e2]
  try (cases d.fo <;> rfl)
 have hc:(d.o.fmod 6,d.mR)∈jU:=by rw[ho];exact O6 (iW h).1
 rcases hr:am (d.kA d.i_) with _|_
 ·have hv:=lt _ hk hr
  have q:∀k∈eG,gA k∈KN:=by decide +kernel
  have hf:aw (xT d d.YZ (gA (d.kA d.i_)) d.ri d.i_ .none):=BA h (iW h).2.1 (q _ hv) rfl
  refine⟨_,qb (x:=xT d d.YZ (gA (d.kA d.i_)) d.ri d.i_ .none) hf rfl (q5 hf) (jO h (fW h10).2) b hN (λhi e=>nomatch e) (λhi e=>nomatch e) (nm:=false) nofun nofun λc G=>?_⟩
  have GG:=hf.E_ G
  exact(uR hf GG hc (BB (iW h).1) (yu h).1 (BC h h10 hf GG) (LI h (fW h10).2) (vH h h10 hf) oq (hD rfl rfl) hv rfl).le (by decide)
 ·have hf:aw (xT d d.YZ (d.kA d.i_) d.ri d.i_ .none):=BA h (iW h).2.1 hk rfl
  refine⟨_,qb (x:=xT d d.YZ (d.kA d.i_) d.ri d.i_ .none) hf rfl (q5 hf) (jO h (fW h10).2) b hN (λhi e=>nomatch e) (λhi e=>nomatch e) (nm:=false) nofun nofun λc G=>?_⟩
  have GG:=hf.E_ G
  exact(uQ hf GG hc (BB (iW h).1) (yu h).1 (BC h h10 hf GG) (LI h (fW h10).2) (vH h h10 hf) oq (hD rfl rfl).symm hr).le (by decide)
def xC(d:Md):Dp:=mD d 12 d.i_ d.i_ 4 4 (match am d.i_ with|true=>iO d.T d.M d.i_ d.by_|false=>4) d.ri d.i_ .none
def OK{N:Nat}(h:aF d)(b:pT d N)(hN:N<=100)(h10:10<=d.tl.length)(ho:d.o.fmod 6=5):∃d',jY d d' N:=by
 have hk:=rM h h10
 have hf:aw (xC d):=⟨h,⟨rfl,rfl⟩,rfl,(by decide:12∈KN),hk,.inr rfl,.inr rfl,⟨hk,rfl⟩,by
  show(match am d.i_ with|true=>iO d.T d.M d.i_ d.by_|false=>4)=_\/(match am d.i_ with|true=>iO d.T d.M d.i_ d.by_|false=>4)=4
  rcases am d.i_ with _|_
  ·exact .inr rfl
  ·exact .inl rfl⟩
 have X:jA (xC d):=jO h (fW h10).2
 have hx:∀hi,(xC d).bx=some hi->az (xC d).kh∈ma:=λhi e=>nomatch e
 have ok:aF ((xC d).nx false d.st (d.at_+3)):=yn hf b hN (lm _) (fG _) hx (λhi e=>nomatch e) X
 refine⟨(xC d).nx false d.st (d.at_+3),ok,MP b (lm _) (fG _),by rw[ip];exact j2 _ _,λc G=>?_⟩
 refine SD (x:=xC d) hf rfl (q5 hf) G rfl rfl rfl ok ?_
 have m:=(kb h (fW h10).2).2
 exact Ap (z:=d.Z2 (d.B_ d.ri).ex d.i_ d.ri) (exO:=d.exO d.ri) hf rfl (hf.E_ G) ⟨rfl,oq,rfl,rfl,rfl,rfl,yi h10,yj h (fW h10).2 rfl,rfl,rfl,rfl,rfl,ho,X,_,_,qZ h (fW h10).2,(h.th _ m).2.1,(h.th _ m).2.2.1,λe=>J4 e⟩
def Md.full(d:Md)(kh:Nat):Bool:=match bM kh with
 | true=>decide (d.n52.fmod 2=1)
 | false=>true
def Md.va(d:Md)(kh:Nat):Int:=T2 (ju d.uE d.uF kh) (az kh) (cG (iQ kh d.n52))
def Md.exV(d:Md)(kh:Nat):Option Nat:=match d.full kh with
 | true=>some (az kh)
 | false=>.none
def Md.zV(d:Md)(kh k:Nat):Kd:=match d.full kh with
 | true=>Gj (cr d.fl (az kh) k)
 | false=>.nul
def Ui(d:Md)(kh k ka o1 o2 o3 k45:Nat)(kv:V):Dp where
 d:=d
 kh:=kh
 b2:=d.b2
 k:=k
 by_:=d.by_
 o1:=o1
 o2:=o2
 o3:=o3
 ka:=ka
 i:=match d.full kh with|true=>d.nn|false=>0
 bx:=match d.full kh with|true=>some (decide (2147483648<=d.va kh))|false=>.none
 a:=d.va kh
 b:=(((iQ kh d.n52).fdiv 3).fmod (.ofNat d.nn)).toNat
 e:=((iQ kh d.n52).fdiv 5).fmod 2
 f:=dr 4 (cG (((iQ kh d.n52).fdiv 5).fdiv 2))
 g:=match bM kh with|true=>d.n52.fmod 2|false=>0
 nm:=d.nm
 hv:=Af kh (match bM kh with|true=>d.n52.fmod 2|false=>0) (d.va kh) (((iQ kh d.n52).fdiv 3).fmod (.ofNat d.nn)).toNat (((iQ kh d.n52).fdiv 5).fmod 2) (dr 4 (cG (((iQ kh d.n52).fdiv 5).fdiv 2)))
 k45:=k45
 k47:=d.k47
 k48:=d.k48
 k49:=d.k49
 n52:=d.n52
 n50:=cG (iQ kh d.n52)
 n53:=cG (((iQ kh d.n52).fdiv 5).fdiv 2)
 n54:=d.n54
 n55:=d.n55
 n56:=d.n56
 n57:=d.n57
 kv:=kv
def xV(d:Md)(kh k k45:Nat)(kv:V):Dp:=Ui d kh k (gU d.T d.M k d.by_) (iO d.T d.M kh d.b2) (iO d.T d.M k d.by_) (iO d.T d.M (gU d.T d.M k d.by_) d.by_) k45 kv
def fZ:∀k∈pq,k∈KN/\az k∈ma/\am (az k)=false/\az k∈[1,4,7,8,20,21,22,24]:=by decide +kernel
def si(kh:Nat)(g a b e f:Int):(Af kh g a b e f).h_=true/\(Af kh g a b e f).fr=true:=by
 unfold Af
 rcases bM kh with _|_
 ·exact⟨ni ..,sb ..⟩
 ·have h1:=ni (az kh) a b e f
  have h2:=sb (az kh) a b e f
  exact⟨(q7 0 _).trans (aP (a:=(pE (az kh) a b e f).h_) h1 rfl),(wB _).trans (aP (a:=(pE (az kh) a b e f).fr) h2 rfl)⟩
def Bv(h:aF d)(h1:kh∈pq)(h2:k∈KN)(H_:kv.h_=true):aw (xV d kh k k45 kv):=⟨h,⟨(si ..).1,H_⟩,(si ..).2,(fZ _ h1).1,h2,.inl rfl,.inl rfl,rJ h2 d.by_,.inl rfl⟩
def J7(h1:kh∈pq):sP (xV d kh k k45 kv):=by
 refine⟨⟨rfl,h1,rfl⟩,rfl,rfl,λe=>?_,rfl,?_,rfl,rfl⟩
 ·show(match bM kh with|true=>d.n52.fmod 2|false=>0)=d.n52.fmod 2
  have e:bM kh=true:=e
  rw[e]
 ·exact pF (a9 _ (m:=Int.ofNat d.nn) (Int.natCast_pos.mpr (qG _))).1
def Uh:(xV d kh k k45 kv).b<=d.tl.length:=by
 refine bS (a9 ((iQ kh d.n52).fdiv 3) (m:=Int.ofNat d.nn) (Int.natCast_pos.mpr (qG _))) λh0 h1=>?_
 have h1:((iQ kh d.n52).fdiv 3).fmod (Int.ofNat d.nn) < (d.tl.length:Int)+1:=h1
 show(((iQ kh d.n52).fdiv 3).fmod (Int.ofNat d.nn)).toNat<=d.tl.length
 omega
def dG(hf:d.full kh=true):(xV d kh k k45 kv).bx=some (decide (2147483648<=d.va kh))/\(xV d kh k k45 kv).i=d.nn/\(xV d kh k k45 kv).iz=d.nn:=by
 have h2:(xV d kh k k45 kv).i=d.nn:=by
  show(match d.full kh with|true=>d.nn|false=>0)=_
  rw[hf]
 refine⟨?_,h2,?_⟩
 ·show(match d.full kh with|true=>some (decide (2147483648<=d.va kh))|false=>.none)=_
  rw[hf]
 ·rw[oF,h2];rfl
def fJ(hf:d.full kh=false):(xV d kh k k45 kv).bx=.none/\(xV d kh k k45 kv).i=0/\(xV d kh k k45 kv).iz=1:=by
 have h2:(xV d kh k k45 kv).i=0:=by
  show(match d.full kh with|true=>d.nn|false=>0)=_
  rw[hf]
 refine⟨?_,h2,?_⟩
 ·show(match d.full kh with|true=>some (decide (2147483648<=d.va kh))|false=>.none)=_
  rw[hf]
 ·rw[oF,h2]
def ta:jA (xV d kh k k45 kv):=⟨Uh,by
 rcases hf:d.full kh with _|_
 ·exact .inl ⟨(fJ hf).2.1,(fJ hf).1⟩
 ·exact .inr ((dG hf).2.1.trans (dG hf).2.2.symm)⟩
def LG(h:aF d)(h1:kh∈pq):∃ex sp,(xV d kh k k45 kv).W_ ex sp/\ex∈ma/\(sp=true->ex=17)/\(d.full kh=true->ex=az kh):=by
 rcases hf:d.full kh with _|_
 ·obtain⟨e,m⟩:=kb h (i:=1) (by have:=h.n9;lia)
  exact⟨_,_,.old (x:=xV d kh k k45 kv) (fJ hf).1 (fJ hf).2.2 e (λhr=>(by rw[h.r0 _ e] at hr;exact bF hr)),(h.th _ m).2.1,(h.th _ m).2.2.1,nofun⟩
 ·exact⟨_,_,.new (dG hf).1 (dG hf).2.2,(fZ _ h1).2.1,nofun,λ_=>rfl⟩
def xD{k':Nat}:(d.zV kh k'=.nul/\(xV d kh k k45 kv).i=0)\/(d.zV kh k'≠.nul/\(xV d kh k k45 kv).i=(xV d kh k k45 kv).iz):=by
 unfold Md.zV
 rcases hf:d.full kh with _|_
 ·exact .inl ⟨rfl,(fJ hf).2.1⟩
 ·refine .inr ⟨?_,(dG hf).2.1.trans (dG hf).2.2.symm⟩
  rcases cr d.fl (az kh) k' with _|_
  ·exact nofun
  ·exact nofun
def J6(h:d.zV kh k≠.nul):d.full kh=true/\(d.zV kh k).b=cr d.fl (az kh) k:=by
 unfold Md.zV at h ⊢
 rcases hf:d.full kh with _|_
 ·rw[hf] at h;exact absurd rfl h
 ·refine⟨rfl,?_⟩
  show(Gj _).b=_
  rcases cr d.fl (az kh) k with _|_
  ·rfl
  ·rfl
def LF(h:aF d)(h1:kh∈pq):∃ex sp,AZ (xV d kh k k45 kv) ex sp (d.zV kh k):=by
 refine Gs (LG (k:=k) (k45:=k45) (kv:=kv) h h1) λex sp T hx hs he=>?_
 exact⟨ex,sp,T,hx,hs,ta,(λe=>by rw[he (J6 e).1];exact(J6 e).2),rfl,rfl,rfl⟩
def LH{k':Nat}(h:aF d)(h1:kh∈pq)(e:k45=jI d.uE d.uF (d.exV kh) d.y):qF (xV d kh k k45 kv) (d.zV kh k') (d.exV kh):=by
 refine⟨?_,λk q=>?_,e⟩
 ·unfold Md.zV Md.exV
  rcases hf:d.full kh with _|_
  ·exact⟨λ_=>rfl,λ_=>rfl⟩
  ·refine⟨λq=>?_,nofun⟩
   have q:Gj (cr d.fl (az kh) k')=.nul:=q
   rcases hg:cr d.fl (az kh) k' with _|_
   ·rw[hg] at q;cases q
   ·rw[hg] at q;cases q
 ·unfold Md.exV at q
  rcases hf:d.full kh with _|_
  ·rw[hf] at q;exact oN q
  ·rw[hf] at q;obtain rfl:=oI q;exact⟨(fZ _ h1).2.1,_,.new (dG hf).1 (dG hf).2.2⟩
def sr(k:Nat)(e:Int):(jN k).1<=dr k e/\dr k e < (jN k).1+(jN k).2:=by
 have hs:0 < (jN k).2:=by
  unfold jN
  split <;> decide
 refine bS (a9 (e+ -(jN k).1) hs) λh0 h1=>?_
 unfold dr
 omega
def LQ(h:aF d)(h1:kh∈pq):(-2147483648<=d.va kh/\d.va kh<=4294967295)/\(bt (az kh) [8,20,21,24]=false->d.va kh<=2147483647):=by
 have m:=(fZ _ h1).2.2.2
 have g7:=sr 7 (cG (iQ kh d.n52))
 have g4:=sr 4 (cG (iQ kh d.n52))
 have g8:=sr 8 (cG (iQ kh d.n52))
 have g1:=sr 1 (cG (iQ kh d.n52))
 have g7:-2147483648<=dr 7 (cG (iQ kh d.n52))/\dr 7 (cG (iQ kh d.n52)) < -2147483648+4294967296:=g7
 have g4:0<=dr 4 (cG (iQ kh d.n52))/\dr 4 (cG (iQ kh d.n52)) < 0+256:=g4
 have g8:0<=dr 8 (cG (iQ kh d.n52))/\dr 8 (cG (iQ kh d.n52)) < 0+4294967296:=g8
 have g1:0<=dr 1 (cG (iQ kh d.n52))/\dr 1 (cG (iQ kh d.n52)) < 0+2:=g1
 have af0:∀om,om∈[7,4,8]->-2147483648<=dr om (cG (iQ kh d.n52))/\dr om (cG (iQ kh d.n52))<=4294967295:=by
  intro om ho
  simp only [dL,List.not_mem_nil,or_false] at ho
  rcases ho with rfl|rfl|rfl <;> lia
 unfold Md.va ju
 generalize az kh=k at m ⊢
 simp only [dL,List.not_mem_nil,or_false] at m
 rcases m with rfl|rfl|rfl|rfl|rfl|rfl|rfl|rfl
 ·exact⟨(by show -2147483648<=dr 1 _/\dr 1 _<=4294967295;lia),λ_=>(by show dr 1 _<=2147483647;lia)⟩
 ·exact⟨(by show -2147483648<=dr 4 _/\dr 4 _<=4294967295;lia),λ_=>(by show dr 4 _<=2147483647;lia)⟩
 ·exact⟨(by show -2147483648<=dr 7 _/\dr 7 _<=4294967295;lia),λ_=>(by show dr 7 _<=2147483647;lia)⟩
 ·exact⟨(by show -2147483648<=dr 8 _/\dr 8 _<=4294967295;lia),λe=>by exact bF e⟩
 ·exact⟨af0 _ h.hE,λe=>by exact bF e⟩
 ·exact⟨af0 _ h.hF,λe=>by exact bF e⟩
 ·exact⟨(by show -2147483648<=dr 7 _/\dr 7 _<=4294967295;lia),λ_=>(by show dr 7 _<=2147483647;lia)⟩
 ·exact⟨(by show -2147483648<=dr 8 _/\dr 8 _<=4294967295;lia),λe=>by exact bF e⟩
def Bz(h:aF d)(h1:kh∈pq)(hf:d.full kh=true):xy (xV d kh k k45 kv) (decide (2147483648<=d.va kh)):=by
 refine bS (LQ h h1) λJ_ r3=>?_;refine bS J_ λr1 r2=>?_
 refine⟨(dG hf).1,(dG hf).2.1,(dG hf).2.2,λq=>?_,?_,?_,?_⟩
 ·show(match bM kh with|true=>d.n52.fmod 2|false=>0)=1
  have q:bM kh=true:=q
  unfold Md.full at hf
  rw[q] at hf ⊢
  exact mB hf
 ·show decide (2147483648<=d.va kh)∈lP kh
  unfold lP
  rcases e:bt (az kh) [8,20,21,24] with _|_
  ·have:=r3 e
   rw[jZ (by lia)];simp
  ·cases decide (2147483648<=d.va kh) <;> simp
 ·show Py (decide (2147483648<=d.va kh))<=d.va kh
  by_cases g:2147483648<=d.va kh
  ·rw[gJ g];exact g
  ·rw[jZ g];exact r1
 ·show d.va kh<=PB (decide (2147483648<=d.va kh))
  by_cases g:2147483648<=d.va kh
  ·rw[gJ g];exact r2
  ·rw[jZ g];show d.va kh<=2147483647;lia
def J8(hf:d.full kh=false):Gg (xV d kh k k45 kv):=by
 have hq:bM kh=true:=by
  unfold Md.full at hf
  rcases e:bM kh with _|_
  ·rw[e] at hf;exact bF hf
  ·rfl
 refine⟨(fJ hf).1,(fJ hf).2.1,hq,?_⟩
 show(match bM kh with|true=>d.n52.fmod 2|false=>0)=0
 unfold Md.full at hf
 rw[hq] at hf ⊢
 have h1:¬d.n52.fmod 2=1:=of_decide_eq_false hf
 refine bS (a9 d.n52 (m:=2) (by decide)) λh2 h3=>?_
 show d.n52.fmod 2=0
 lia
def PM(h:aF d)(h1:kh∈pq):(∃hi,xy (xV d kh k k45 kv) hi)\/Gg (xV d kh k k45 kv):=by
 rcases hf:d.full kh with _|_
 ·exact .inr (J8 hf)
 ·exact .inl ⟨_,Bz h h1 hf⟩
def vG(h:aF d)(h1:kh∈pq)(hf:aw (xV d kh k k45 kv)):jf ((xV d kh k k45 kv).cx hf c).σ kh (d.zV kh k):=by
 have H:jd (xV d kh k k45 kv):=(J7 h1).H
 rcases e:d.full kh with _|_
 ·have hz:d.zV kh k=.nul:=by unfold Md.zV;rw[e]
  rw[hz]
  exact H.ah5 (J8 e) hf
 ·refine H.box (Bz h h1 e) hf ?_
  unfold Md.zV
  rw[e]
  show Gj _≠.nul
  rcases cr d.fl (az kh) k with _|_
  ·exact nofun
  ·exact nofun
def HK{hi:Bool}:(cQ x hi).m=x.n58:=by
 show(match (Int.ofNat x.b).toNat with|0=>(0:Int)|b=>.ofNat (aU b))=_
 rfl
def C6{hi:Bool}(B:xy x hi)(hk:x.kh∈pq):qE (cQ x hi):=by
 have q:∀k∈pq,lP (az k)=lP k:=by decide +kernel
 exact⟨⟨(fZ _ hk).2.2.1,(fZ _ hk).2.2.2⟩,rfl,hi,by show hi∈lP (az x.kh);rw[q _ hk];exact B.ok,B.lo,B.up,by rw[HK];rfl⟩
def vF(h:aF d)(h1:kh∈pq):∀hi,(xV d kh k k45 kv).bx=some hi->qE (cQ (xV d kh k k45 kv) hi):=λhi e=>by
 rcases hf:d.full kh with _|_
 ·rw[(fJ hf).1] at e;exact oN e
 ·have B:=Bz (k:=k) (k45:=k45) (kv:=kv) h h1 hf
  rw[B.bx] at e;obtain rfl:=oI e
  exact C6 B h1
def Bw(h1:kh∈pq)(hf:aw (xV d kh k k45 kv)):vn (xV d kh k k45 kv) hf:=by
 refine⟨λhi e=>?_,λhi e=>(fZ _ h1).2.2.1⟩
 rcases hfu:d.full kh with _|_
 ·rw[(fJ hfu).1] at e;exact oN e
 ·exact(dG hfu).2.2
def Md.mV(d:Md):Nv:=if(d.xx.fdiv 12).fmod 3=2 then(match am d.M with|true=>.v2|false=>.v3) else .v1
def Md.YW(d:Md):Nat:=if(d.xx.fdiv 12).fmod 3=2 then(match am d.M with|true=>d.k49|false=>d.M) else d.k49
def kG(h:aF d){C:Nv->Nat->Prop}(h1:(d.xx.fdiv 12).fmod 3≠2->C .v1 d.k49)(h2:(d.xx.fdiv 12).fmod 3=2->am d.M=true->C .v2 d.k49)(h3:(d.xx.fdiv 12).fmod 3=2->am d.M=false->C .v3 d.M):C d.mV d.YW:=by
 unfold Md.mV Md.YW
 by_cases e:(d.xx.fdiv 12).fmod 3=2
 ·rw[if_pos e,if_pos e]
  rcases r:am d.M with _|_
  ·exact h3 e r
  ·exact h2 e r
 ·rw[if_neg e,if_neg e];exact h1 e
def lG(h:aF d):d.YW∈pq:=by
 have hM:∀k∈ML,am k=false->k∈pq:=by decide +kernel
 exact kG (C:=λ_ k=>k∈pq) h (λ_=>DN d) (λ_ _=>DN d) (λ_ r=>hM _ h.hM r)
def MU(h:aF d):d.mV.Y5=false:=kG (C:=λm _=>m.Y5=false) h (λ_=>rfl) (λ_ _=>rfl) λ_ _=>rfl
def yt(h:aF d):A4 (xV d d.YW k k45 kv) d.mV/\Bc (xV d d.YW k k45 kv) d.mV=d.YW:=by
 have:(match d.mV with| .r1=>am d.k48=true| .r2=>am d.k48=false| .v2=>am d.M=true| .v3=>am d.M=false| .v1=>True)/\(match d.mV with| .r1=>d.k48| .r2=>12| .v1=>d.k49| .v2=>d.k49| .v3=>d.M)=d.YW:=
  kG (C:=λm k=>(match m with| .r1=>am d.k48=true| .r2=>am d.k48=false| .v2=>am d.M=true| .v3=>am d.M=false| .v1=>True)/\(match m with| .r1=>d.k48| .r2=>12| .v1=>d.k49| .v2=>d.k49| .v3=>d.M)=k) h (λ_=>⟨trivial,rfl⟩) (λ_ r=>⟨r,rfl⟩) λ_ r=>⟨r,rfl⟩
 exact⟨⟨rL h,this.1⟩,this.2⟩
def Bx(h:aF d):A7 (xV d d.YW k k45 kv) d.fo d.mV where
 by_:=rfl
 b2:=rfl
 nm:=rfl
 k47:=rfl
 k48:=rfl
 k49:=rfl
 n52:=rfl
 n57:=(re d).1
 fo:=(re d).2
 n56:=C9 d
 x3:=by
  show match d.mV with| .v1=>(d.xx.fdiv 12).fmod 3=d.n56| .v2=>(d.xx.fdiv 12).fmod 3=2| .v3=>(d.xx.fdiv 12).fmod 3=2|_=>True
  refine kG (C:=λm _=>match m with| .v1=>(d.xx.fdiv 12).fmod 3=d.n56| .v2=>(d.xx.fdiv 12).fmod 3=2| .v3=>(d.xx.fdiv 12).fmod 3=2|_=>True) h (λe=>?_) (λe _=>e) λe _=>e
  unfold Md.n56
  exact(if_neg e).symm
def Md.o_(d:Md):Nat:=jI d.uE d.uF (d.exV d.YW) d.y
def yB(h:aF d):d.o_∈KN:=FV h (λk e=>by
 unfold Md.exV at e
 induction hf:d.full d.YW using bC with
 | true=>rw[hf] at e;obtain rfl:=oI e;exact(fZ _ (lG h)).2.1
 | false=>rw[hf] at e;exact oN e) d.y
def By(h:aF d)(hf:aw (xV d d.YW k d.o_ kv))(G:bJ ((xV d d.YW k d.o_ kv).cx hf c)):gj ((xV d d.YW k d.o_ kv).cx hf c) d.mV:=
 OB hf G (MU h) (yt h).2 (J7 (lG h)) ta (PM h (lG h)) (LH (k':=k) h (lG h) rfl) xD rfl
def DY{m:Nv}(hm:m.Y5=false):((1:Int),m)∈oH/\((3:Int),m)∈jU:=by
 induction m using Nv.casesOn with
 | r1=>exact bF hm
 | r2=>exact bF hm
 | v1=>simp[oH,jU]
 | v2=>simp[oH,jU]
 | v3=>simp[oH,jU]
def Vc{N:Nat}(h:aF d)(b:pT d N)(hN:N<=100)(ho:d.o.fmod 6=1):∃d',jY d d' N:=by
 have hk:=yA h (yB h)
 have hp:=lG h
 have hf:aw (xV d d.YW (d.kA d.o_) d.o_ (DF (d.kA d.o_) (d.zV d.YW (d.kA d.o_)))):=Bv h hp hk (ry ..)
 refine⟨_,qb (x:=xV d d.YW (d.kA d.o_) d.o_ (DF (d.kA d.o_) (d.zV d.YW (d.kA d.o_)))) hf rfl (Bw hp hf) ta b hN (λhi e=>(fZ _ hp).2.1) (vF h hp) (nm:=d.nm) id (λ_=>wl _ _) λc G=>?_⟩
 have GG:=hf.E_ G
 refine xE (LF (k:=d.kA d.o_) (k45:=d.o_) (kv:=DF (d.kA d.o_) (d.zV d.YW (d.kA d.o_))) h hp) λex sp Z=>?_
 have hc:(d.o.fmod 6,d.mV)∈oH:=by rw[ho];exact(DY (MU h)).1
 exact(yW hf GG hc (Bx h) (yt h).1 (By h hf GG) Z (vG h hp hf) xD (λ_=>rfl) (by show d.kA d.o_=mS _ d.fo;unfold Md.kA mS;cases d.fo <;> rfl)).le (by decide)
def V1{N:Nat}(h:aF d)(b:pT d N)(hN:N<=100)(ho:d.o.fmod 6=3):∃d',jY d d' N:=by
 have hk:=yA h (yB h)
 have hp:=lG h
 have hD:∀{x:Dp},x.k47=d.k47->x.k45=d.o_->mS x d.fo=d.kA d.o_:=λ{x} e1 e2=>by
  unfold Md.kA mS
  rw[e1,e2]
  try (cases d.fo <;> rfl)
 have hc:(d.o.fmod 6,d.mV)∈jU:=by rw[ho];exact(DY (MU h)).2
 rcases hr:am (d.kA d.o_) with _|_
 ·have hv:=lt _ hk hr
  have q:∀k∈eG,gA k∈KN:=by decide +kernel
  have hf:aw (xV d d.YW (gA (d.kA d.o_)) d.o_ .none):=Bv h hp (q _ hv) rfl
  refine⟨_,qb (x:=xV d d.YW (gA (d.kA d.o_)) d.o_ .none) hf rfl (Bw hp hf) ta b hN (λhi e=>(fZ _ hp).2.1) (vF h hp) (nm:=false) nofun nofun λc G=>?_⟩
  have GG:=hf.E_ G
  refine xE (LF (k:=gA (d.kA d.o_)) (k45:=d.o_) (kv:=.none) h hp) λex sp Z=>?_
  exact(uR hf GG hc (Bx h) (yt h).1 (By h hf GG) Z (vG h hp hf) xD (hD rfl rfl) hv rfl).le (by decide)
 ·have hf:aw (xV d d.YW (d.kA d.o_) d.o_ .none):=Bv h hp hk rfl
  refine⟨_,qb (x:=xV d d.YW (d.kA d.o_) d.o_ .none) hf rfl (Bw hp hf) ta b hN (λhi e=>(fZ _ hp).2.1) (vF h hp) (nm:=false) nofun nofun λc G=>?_⟩
  have GG:=hf.E_ G
  refine xE (LF (k:=d.kA d.o_) (k45:=d.o_) (kv:=.none) h hp) λex sp Z=>?_
  exact(uQ hf GG hc (Bx h) (yt h).1 (By h hf GG) Z (vG h hp hf) xD (hD rfl rfl).symm hr).le (by decide)
def UM{n:Nat}(h:n < 6)(e0:n≠0)(e1:n≠1)(e2:n≠2)(e3:n≠3)(e4:n≠4):n=5:=
 Nat.le_antisymm (Nat.le_of_lt_succ h) (Nat.lt_of_le_of_ne (Nat.lt_of_le_of_ne (Nat.lt_of_le_of_ne (Nat.lt_of_le_of_ne (Nat.pos_of_ne_zero e0) e1.symm) e2.symm) e3.symm) e4.symm)
def Vi{x:Int}(h0:0<=x)(h1:x < 6)(e0:x≠0)(e1:x≠1)(e2:x≠2)(e3:x≠3)(e4:x≠4):x=5:=by
 obtain⟨n,rfl⟩:=Int.eq_ofNat_of_zero_le h0
 exact bl Int.ofNat (UM (Int.ofNat_lt.mp h1) (λe=>e0 (bl Int.ofNat e)) (λe=>e1 (bl Int.ofNat e)) (λe=>e2 (bl Int.ofNat e)) (λe=>e3 (bl Int.ofNat e)) λe=>e4 (bl Int.ofNat e))
def I5{N:Nat}(h:aF d)(b:pT d N)(hN:N<=100)(h10:10<=d.tl.length):∃d',jY d d' N:=by
 refine bS (a9 d.o (m:=6) (by decide)) λh0 h1=>?_
 by_cases e0:d.o.fmod 6=0
 ·exact RI h b hN h10 (.inl e0)
 by_cases e1:d.o.fmod 6=1
 ·exact Vc h b hN e1
 by_cases e2:d.o.fmod 6=2
 ·exact RI h b hN h10 (.inr e2)
 by_cases e3:d.o.fmod 6=3
 ·exact V1 h b hN e3
 by_cases e4:d.o.fmod 6=4
 ·exact V2 h b hN h10 e4
 exact OK h b hN h10 (Vi h0 h1 e0 e1 e2 e3 e4)
end
section
variable{c bj:Cx}{p q:Pt}{kx:Nat->Sy->Bool}{names:cu}{n:Nat}{σ σ':Sg}
def Rn.sg(r:Rn aq c names n)(hv:names.2=[])(σ:Sg):Rn aq (c.sg σ) names n:={toAct:=r.toAct.sg σ [],A:=r.A,E:=r.E,fd:=⟨r.fd.fe,r.fd.o,r.fd.L,r.fd.fl,r.fd.hfe,r.fd.hf⟩,hA:=r.hA,hn:=r.hn,hv:=hv.symm,room:=r.room,err:=λ_ _ _ _ _ _ _ _ _ h=>nomatch h}
abbrev dA(a:Act c)(σ:Sg)(p:Pt)(loc:cL)(H:Hp)(s:Shared):Prop:=aN (a.sg σ []) p loc ⟨[],H⟩ s
def QE{r:l6}(R:cH c σ' r)(l:cL):∀{l':cL} {m:Str->Option Value},bc (rA r) l l'=true->RL c p l m->RL (c.sg σ') p l' m:=by
 have key:∀(l l':cL),bc (rA r) l l'=true->∀x v',look x l'=some v'->∃v,look x l=some v/\rV r v v'=true:=by
  intro l
  induction l with
  | nil=>intro l' h x v' e;rw[ba h] at e;exact oN e
  | cons z l ih=>
   intro l' h x v' e
   obtain⟨z1,z2⟩:=z
   refine aT h λb t e' h1 h=>ag h1 λh1 h2=>?_
   obtain⟨b1,b2⟩:=b
   have eb:z1=b1:=cf h1
   rw[e',<-eb,aX] at e
   rw[aX]
   by_cases q:z1=x
   ·rw[if_pos q] at e ⊢;obtain rfl:=Eq.symm (oI e);exact⟨z2,rfl,h2⟩
   ·rw[if_neg q] at e ⊢;exact ih t h x v' e
 intro l' m h L x v' e
 refine aH (key l l' h (code x) v' e) λv e1 e2=>?_
 refine aH (L x v e1) λu hu hR=>?_
 exact⟨u,hu,mh R e2 hR⟩
def aN.ren{a:Act c}{loc e_:cL}{Y:Sy}{H':Hp}{s:Shared}{r:l6}(R:cH (c.sg σ) σ' r)(S:aN (a.sg σ []) p loc Y s)(hL:bc (rA r) loc e_=true)(h:rH r Y.H H'=true):dA a σ' p e_ H' s:=by
 obtain⟨m,S,rl⟩:=S
 exact⟨m,aK.sg (c:=c.sg σ) (a:=a.sg σ []) S (λx y=>Kn R Y.H h y) (aQ _ h).symm ae,QE R loc hL rl⟩
def Ts(a:Act c)(p:Pt)(J:Sg->cL->Hp->Prop)(G:Flow->Shared->Prop):Prop:=∀q s f,Le p q->(f=.next\/f=.cont)->(∃σ loc H,J σ loc H/\dA a σ q loc H s)->G f s
def yN{r:Rn aq c names n}(h0:0 < n)(hv:names.2=[]){t it:Expr}{body:List Stmt}{pos:Pos}{J:Nat->Sg->cL->Hp->Prop}{x:V}{all:List V}{s:Shared}{G:Flow->Shared->Prop}(hp:pZ it=true)
  (hx:(Nat.beq x.tag 10=true/\x.xl=all)\/∃z,Cs x=some z/\all=nV z.1 z.2)
  (hX:∀{i σ loc H i' σ' e_ H' q u},J i σ loc H->J i' σ' e_ H'->RV (c.sg σ) q x u->RV (c.sg σ') q x u)
  (hit:∀(Q:Value->Shared->Prop),(∀q u s',Le p q->(∃σ loc H,J 0 σ loc H/\dA r.toAct σ q loc H s'/\RV (c.sg σ) q x u)->Q u s')->wpAny (Mo c) r.A (eval it r.env) Q r.E s)
  (hb:∀i v σ loc H,all[i]? =some v->J i σ loc H->∃iX,mQ names t v loc=some iX/\∀(r':Rn aq c names n),r'.env=r.env->∀p s G,dA r'.toAct σ p iX H s->Ts r'.toAct p (J (i+1)) G->wpAny (Mo c) r'.A (execs body r'.env) G r'.E s)
  (P:∀q s,Le p q->(∃σ loc H,J all.length σ loc H/\dA r.toAct σ q loc H s)->G .next s):wpAny (Mo c) r.A (exec (.For t it body [] pos) r.env) G r.E s:=by
 refine wpAny_For (hit _ λbP u aJ bA hS=>?_) ((fz hp).fold _)
 refine mE hS λ J3 iX H₁ U8 aC KM=>?_
 have hic:lM x H₁=some all:=by
  refine hx.elim (λe=>?_) λe=>?_
  ·unfold lM;rw[e.1,e.2];rfl
  ·refine aH e λz hz e=>?_
   refine nJ (qT hz) λex _ _=>?_
   unfold lM
   rw[hz,e,ex];rfl
 have itj:∀{H H':Hp} {c' c'':Cx} {q q':Pt} {i o},ic q c' H x u all i o->ic q' c'' H' x u all i o:=λh=>by
  cases h with
  | tup h e h1 t h2 h3=>exact .tup h e h1 t h2 h3
  | rng z h e h1=>exact .rng z h e h1
  | lst h h1 t h2 h3=>
   exfalso
   refine hx.elim (λe=>?_) λe=>?_
   ·unfold gH at h
    rw[V.is e.1] at h
    exact aj h
   ·refine aH e λz hz _=>?_
    rw[(qT hz).1] at h
    exact aj h
 refine oG (c:=c.sg J3) aC KM hic λo hi aO=>?_
 let I:Nat->Shared->Prop:=λm s'=>∃i p' σ' e_ H' o,m+i=all.length/\Le bP p'/\J i σ' e_ H'/\aN ((r.toAct.sg σ' []).hide (aJ.heap.objs.size,o)) p' e_ ⟨[],H'⟩ s'/\RV (c.sg σ') p' x u/\ic p' (c.sg σ') H' x u all i o
 refine codeAny_forLoop_any I (λm s' hI=>?_) all.length (Pq 0 bP J3 iX H₁ o rfl (Le.refl _) U8 aO KM hi)
 refine Uj hI λi p' σ' e_ H' o' em l' j' S' YY YL=>?_
 clear hI
 have hid:∀σ (o:Obj),(r.toAct.sg σ []).hide (aJ.heap.objs.size,o)=(r.toAct.hide (aJ.heap.objs.size,o)).sg σ []:=λ_ _=>rfl
 induction m using nC with
 | zero=>
  have ei:i=all.length:=by omega
  refine wq (c:=c.sg σ') (r.room.handled h0) S' YY YL (jL ei.symm) λAa cK=>dF (P p' _ (bA.trans l') ⟨σ',e_,H',ei▸j',cK⟩)
 | succ m=>
  have YF:i < all.length:=by omega
  have hx0:all[i]? =some all[i]:=vr YF
  refine aH (hb i _ σ' e_ H' hx0 j') λlE ha ae6=>?_
  refine rU (c:=c.sg σ') S' YY YL hx0 λZI Aa uv YK hR cK io=>DA (c:=c.sg σ') ha (cK io).YT YK ?_
  let rl:Rn aq c names n:={toAct:=r.toAct.hide (aJ.heap.objs.size,ZI),A:=r.A,E:=TK r,fd:=⟨r.fd.fe,r.fd.o,r.fd.L,r.fd.fl,r.fd.hfe,r.fd.hf⟩,hA:=r.hA,hn:=r.hn,hv:=r.hv,room:=r.room,err:=λ_ _ _ _ _ _ _ _ _ h=>nomatch h}
  refine sH (c:=c.sg σ') (r:=rl.sg hv σ') h0 ha hR (cK io) λnP gI=>?_
  refine ae6 rl rfl p' nP _ gI λq nO fl bL hf hJ=>?_
  refine J9 hJ λ PJ M0 Wg RG ia=>?_
  have loop:∃m',m' < m+1/\I m' nO:=
   ⟨m,Nat.lt_succ_self _,Pq (i+1) q PJ M0 Wg ZI (by omega) (l'.trans bL) RG ia (hX j' RG (YY.mono bL)) (itj YK)⟩
  rcases hf with rfl|rfl
  ·exact loop
  ·exact loop
def gS:List Stmt:=Hd.bodyOf (Hd.st 226)
def eR:cu:=((Hd.n_ (Hd.st 226)).names,[])
def ie(l:List Stmt)(k:Nat):Stmt:=Option.rec (.Pass ⟨0,0,0,0⟩) (λs=>s) (bh l k)
structure Gc where
 t:Expr
 it:Expr
 b:List Stmt
 pos:Pos
def mL(s:Stmt):Gc:=match s with
 | .For t it b [] pos=>⟨t,it,b,pos⟩
 | _=>⟨.Name "" ⟨0,0,0,0⟩,.Name "" ⟨0,0,0,0⟩,[],⟨0,0,0,0⟩⟩
def lO(s:Stmt):Bool:=match s with
 | .For _ _ _ [] _=>true
 | _=>false
def nl{s:Stmt}(h:lO s=true):s=.For (mL s).t (mL s).it (mL s).b [] (mL s).pos:=by
 induction s using Stmt.casesOn with
 | For t i b o=>exact lC (P:=λo=>lO (.For t i b o _)=true->Stmt.For t i b o _=.For (mL (.For t i b o _)).t (mL (.For t i b o _)).it (mL (.For t i b o _)).b [] (mL (.For t i b o _)).pos) o (λ_=>rfl) (λ_ _ h=>bT h) h
 | _=>exact bT h
def mK(o:mT):Bool:=mT.rec true false false (λ_=>false) o
def nh{o:mT}(h:mK o=true):o=.next:=by induction o using mT.casesOn with
 | next=>rfl
 | _=>exact bT h
def iT{a:Act c}{loc e_:cL}{Y:Sy}{s:Shared}(S:aN a p loc Y s)(h:∀x v,look x e_=some v->look x loc=some v):aN a p e_ Y s:=by
 obtain⟨m,S,rl⟩:=S
 exact⟨m,S,λx v e=>rl x v (h _ _ e)⟩
def B8{a:Act c}{loc:cL}{k:Nat}{v:V}{Y:Sy}{s:Shared}(S:aN a p (pt k v loc) Y s)(h:look k loc=.none):aN a p loc Y s:=iT S λx w e=>by
 rw[iD,dC]
 by_cases q:x=k
 ·rw[q,h] at e;exact oN e
 ·first|rw[if_neg q];exact e|rw[if_neg (λe=>q e.symm)];exact e
def Rn.down{m:Nat}(r:Rn kx c names n)(h:m<=n):Rn kx c names m:={toAct:=r.toAct,A:=r.A,E:=r.E,fd:=r.fd,hA:=r.hA,hn:=r.hn,hv:=r.hv,room:=r.room.le h,err:=r.err}
def dP:cL:=[(cc "script",.ref 42),(cc "w",.ref 0)]
def nM:Gc:=mL (ie gS 5)
def kM(m:Nat):Bool:=bb (rH (Uz m) HL (Xd m)) (bb (bc (rA (Uz m)) dP dP) (db (c1 (cfg jo) (eD [(1738,TU m)]) eR 20) nM.b dP ⟨[],Xd m⟩ λo loc Y=>bb (mK o) (bb (rH (Pu m) Y.H HL) (bc (rA (Pu m)) loc dP))))
def gy:aB kM [0,1,2]=true:=by kernel_rfl
def BS:lO (ie gS 5)=true:=by kernel_rfl
def KA:Nat:=cc "turn"
def BU(v:V):mQ eR nM.t v dP=some (pt KA v dP):=by kernel_rfl
def I4{d d':Md}(D:Uf c d d'){r:Rn aq c eR 100}{s:Shared}{G:Flow->Shared->Prop}{h:aF d}(S:dA r.toAct (sB d h c) p dP HL s)
  (P:∀q s (h':aF d'),Le p q->dA r.toAct (sB d' h' c) q dP HL s->G .next s):wpAny (Mo c) r.A (execs nM.b r.env) G r.E s:=by
 obtain⟨h0,h',Z8,m,hm,hc,GG,R1,R2⟩:=D
 have run:kM m=true:=ai gy m (by
  match m,hm with
  | 0,_=>simp
  | 1,_=>simp
  | 2,_=>simp
  | k+3,h=>lia)
 refine ag run λr1 run=>ag run λr2 run=>?_
 have S1:=S.ren R1 r2 r1
 have F:bD aq (c.sg Z8) 99 (eD [(1738,TU m)]):=bQ GG _ (af ⟨hc.le (by decide),rfl⟩)
 have B:A3 aq (c.sg Z8) eR 100 nM.b (db (c1 (cfg jo) (eD [(1738,TU m)]) eR 20) nM.b):=eT (qz (n:=99) (GG.cfg (cq GG)) (λ_ _ h=>nomatch h) (λ_ _ _ h=>nomatch h) F 20) _
 exact B (r.sg rfl Z8) dP _ _ run p s G S1 λq f o loc Y s' l S' hF hk=>ag hk λk1 hk=>ag hk λk2 k3=>by
  rw[nh k1] at hF
  rw[show f=.next from hF]
  exact P q s' h' l (S'.ren R2 k3 k2)
def fD(l' l:cL):Bool:=l'.all λz=>Option.rec false (λv=>V.beq v z.2) (lk z.1 l)
def iS{l' l:cL}(h:fD l' l=true):∀x v,look x l'=some v->look x l=some v:=λx v e=>by
 have h1:=jt.mp h _ (tZ l' e)
 dsimp only at h1
 rw[mi] at h1
 rcases e2:look x l with _|w
 ·rw[e2] at h1;exact bT h1
 ·rw[e2] at h1;exact bl some (V.eq_of_beq _ h1)
def T5(o o':AO):Bool:=bi (bb (dQ o) (dQ o')) true (cO JX i8 o o')
def wU{k o o' x}(h:T5 o o'=true)(y:RO c p k x o):RO c p k x o':=bH h (λh _=>ag h λh1 h2=>by rw[fT h1] at y;rw[fT h2];exact y) λ_ h=>qx l4 aV rfl h y
def gZ(H' H:Hp):Bool:=bc T5 H H'
def dE(H:Hp):∀{H':Hp} {k x},gZ H' H=true->RH c p k H x->RH c p k H' x:=by
 induction H with
 | nil=>intro H' k x h y;rw[show H'=[] from ba h];exact y
 | cons o H ih=>
  intro H' k x h y
  refine aT h λo' dg e h1 h=>?_
  refine eC y λa b e1 y1 y2=>?_
  rw[e]
  exact⟨a,b,e1,wU h1 y1,ih h y2⟩
def Ql{a:Act c}{loc:cL}{H H':Hp}{s:Shared}(S:dA a σ p loc H s)(h:∀x,RH (c.sg σ) p 0 H x->RH (c.sg σ) p 0 H' x)(len:H'.length=H.length):dA a σ p loc H' s:=by
 obtain⟨m,S,rl⟩:=S
 exact⟨m,aK.sg (c:=c.sg σ) (a:=a.sg σ []) S h len ae,rl⟩
def Yv(j:Nat)(b:Bool)(l:List (KD×Option Nat×V))(h:KD×Option Nat×V)(r:List (KD×Option Nat×V)):Bool:=bb (PF h.2.1 (some j)) (bi b (bR l λg s=>bb (g.1.YX.1 h.1) (bb (PF g.2.1 .none) (bb (cV JX g.2.2 h.2.2) (bc (cT JX) s r)))) (bc (cT JX) l r))
def W7(j:Nat)(b:Bool)(o o':AO):Bool:=oi (pR o) (λt=>ob (pR o') λt'=>bb (Nat.beq t.1 t'.1) (bi (bc (cT JX) t.2 t'.2) true (bR t'.2 λh r=>Yv j b t.2 h r))) (T5 o o')
def OU{j:Nat}{b:Bool}(hb:c.σ.β j=b){k o o' x}(h:W7 j b o o'=true)(y:RO c p k x o):RO c p k x o':=by
 refine bq h (λt e h=>ay h λt' e' h=>ag h λh0 h=>?_) λ_ h=>wU h y
 rw[fS e] at y
 rw[fS e',<-cf h0]
 refine bH h (λh _=>eF.at y rfl λa d r=>DX.le r (jL (aQ _ h)) λxs r=>⟨r.1,λx=>kY l4 _ h (r.2 x)⟩) λ_ h=>aZ h λhd r er h=>ag h λh1 h=>?_
 obtain⟨h1k,h1c,h1v⟩:=hd
 have h1:h1c=some j:=o8 h1
 rw[er]
 refine bH h (λeb h=>aZ h λg s es h=>ag h λg1 h=>ag h λg2 h=>ag h λg3 h5=>?_) λeb h5=>?_
 ·obtain⟨gk,gc,gv⟩:=g
  have ek:gk=h1k:=gk.YX.2 _ g1
  have ec:gc=.none:=o8 g2
  rw[es] at y
  refine eF.at y rfl λa d z=>DX.le z (by rw[gq,gq,aQ _ h5];exact fG _) λxs z=>⟨z.1,λx=>?_⟩
  have z2:=z.2 x
  rw[h1,<-ek]
  rw[ec] at z2
  show au c p (if gk.ev c.σ.ν=x/\eL c.σ (some j)=true then some h1v else dD c.σ r x) _
  have z2:au c p (if gk.ev c.σ.ν=x/\eL c.σ .none=true then some gv else dD c.σ s x) _:=z2
  rw[show eL c.σ (some j)=true from hb.trans eb]
  rw[show eL c.σ .none=true from rfl] at z2
  by_cases q:gk.ev c.σ.ν=x/\true=true
  ·rw[if_pos q] at z2 ⊢
   exact ci z2 (λv u e r=>⟨h1v,rfl,by obtain rfl:=oI e;exact iH l4 g3 r⟩) nofun
  ·rw[if_neg q] at z2 ⊢
   exact kY l4 _ h5 z2
 ·refine eF.at y rfl λa d z=>DX.le z (by rw[gq,aQ _ h5];exact lm _) λxs z=>⟨z.1,λx=>?_⟩
  have z2:=z.2 x
  rw[h1]
  show au c p (if h1k.ev c.σ.ν=x/\eL c.σ (some j)=true then some h1v else dD c.σ r x) _
  rw[show eL c.σ (some j)=false from hb.trans eb,if_neg (λe=>nomatch e.2)]
  exact kY l4 _ h5 z2
def Vk(j:Nat)(b:Bool)(H' H:Hp):Bool:=bc (W7 j b) H H'
def D6{j:Nat}{b:Bool}(hb:c.σ.β j=b)(H:Hp):∀{H':Hp} {k x},Vk j b H' H=true->RH c p k H x->RH c p k H' x:=by
 induction H with
 | nil=>intro H' k x h y;rw[show H'=[] from ba h];exact y
 | cons o H ih=>
  intro H' k x h y
  refine aT h λo' dg e h1 h=>?_
  refine eC y λa d e1 y1 y2=>?_
  rw[e]
  exact⟨a,d,e1,OU hb h1 y1,ih h y2⟩
def W8(t:Nat)(o:AO):Bool:=ob (pS o) λd=>bb (bf d.1) (Option.rec true (λ_=>false) d.2)
def OV{t k o x}(h:W8 t o=true)(y:RO c p k x o):RO c p k x (.dt t []):=by
 refine ay h λd e h=>ag h λh1 h2=>?_
 rw[eZ e] at y
 obtain⟨d1,d2⟩:=d
 have e1:d1=[]:=aG h1
 have e2:d2=.none:=by
  rcases d2 with _|_
  ·rfl
  ·exact bT h2
 rw[e1,e2] at y
 refine y.elim λa y=>y.elim λdd y=>⟨a,dd,y.1,y.2.1,y.2.2.elim λo y=>y.elim λxs y=>?_⟩
 have hxs:xs=[]:=zp.mp (Nat.le_zero.mp y.2.2.1)
 refine Un y.2.1 λes ep i1 i2 i3 i4 i5=>?_
 rw[hxs] at i4
 have hes:es.toList=[]:=by
  rcases hl:es.toList with _|⟨a,r⟩
  ·rfl
  ·rw[hl] at i4;cases i4
 exact⟨o,[],y.1,⟨i1,List.nodup_nil,es,ep,i2,hes⟩,fG _,(λ_ h=>nomatch h),λx=>trivial⟩
def vb(G:bJ (c.sg σ)){r:Rn aq c names (n+1)}(hv:names.2=[]){fns:Addr->Option FS}{ft:FT}(F:aI σ ft)(Fn:bD aq (c.sg σ) n fns){b:List Stmt}{loc:cL}{H:Hp}{k:KS}(run:db (c1 (cfg ft) fns names 20) b loc ⟨[],H⟩ k=true){s:Shared}{g:Flow->Shared->Prop}(S:dA r.toAct σ p loc H s)
  (P:∀q f o loc Y s,Le p q->aN (r.toAct.sg σ []) q loc Y s->RF (c.sg σ) q f o->k o loc Y=true->g f s):wpAny (Mo c) r.A (execs b r.env) g r.E s:=
 eT (qz (n:=n) (G.cfg F) (λ_ _ h=>nomatch h) (λ_ _ _ h=>nomatch h) Fn 20) b (r.sg hv σ) loc _ _ run p s g S P
def yh(G:bJ (c.sg σ)){r:Rn aq c names (n+1)}(hv:names.2=[]){fns:Addr->Option FS}{ft:FT}(F:aI σ ft)(Fn:bD aq (c.sg σ) n fns){st:Stmt}{loc:cL}{H:Hp}{k:KS}(run:c1 (cfg ft) fns names 20 st loc ⟨[],H⟩ k=true){s:Shared}{g:Flow->Shared->Prop}(S:dA r.toAct σ p loc H s)
  (P:∀q f o loc Y s,Le p q->aN (r.toAct.sg σ []) q loc Y s->RF (c.sg σ) q f o->k o loc Y=true->g f s):wpAny (Mo c) r.A (exec st r.env) g r.E s:=
 qz (n:=n) (G.cfg F) (λ_ _ h=>nomatch h) (λ_ _ _ h=>nomatch h) Fn 20 st (r.sg hv σ) loc _ _ run p s g S P
def uN(G:bJ (c.sg σ)){r:Rn aq c names (n+1)}(hv:names.2=[]){fns:Addr->Option FS}{ft:FT}(F:aI σ ft)(Fn:bD aq (c.sg σ) n fns){e:Expr}{loc:cL}{H:Hp}{k:KV}(run:(Gq (cfg ft) fns 30).1 names e loc ⟨[],H⟩ k=true){s:Shared}{g:Value->Shared->Prop}(S:dA r.toAct σ p loc H s)
  (P:∀q u v Y s,Le p q->aN (r.toAct.sg σ []) q loc Y s->RV (c.sg σ) q v u->k v Y=true->g u s):wpAny (Mo c) r.A (eval e r.env) g r.E s:=
 (wW (n:=n) (G.cfg F) Fn 30).1 names e (r.sg hv σ) loc _ _ run p s g S P
def Q3(n:Nat)(l:List (Nat×AO)):Hp:=(cz n 0).map λj=>Option.rec .gone (λo=>o) (lk j l)
def yc(j:Nat)(keep:List (Nat×V))(ks:List String):List (Nat×V):=(cz ks.length 0).map λi=>(cc (Option.rec "" (λs=>s) (bh ks i)),Option.rec (.pat (64 * j+i)) (λv=>v) (lk i keep))
def Xi:AO:=.ds (yc 79 [(2,.ref 19),(3,.ref 46),(4,.ref 72),(10,.ref 78)] ["script","at","m","ev","kinds","exact","held","bare","items","addrs","pairs","unders","T","M","errors"])
def VD:AO:=.inst 975 (yc 46 [(18,.ref 56)] ["unit","store","kt","host","things","statics","inits","fails","out","steps","most","depth","nested","guards","serial","texts","typed","layouts","kin","queue","calls","exprs","places","targets","stmts","core","starts","cuts","cut_bodies","splits","begins","blocks","defaults","uses"])
def X8:AO:=.inst 1428 (yc 19 [(3,.ref 20)] ["store","kt","heap","kin","rows","targets","defaults","unders","frames","by_number","statics","inits","ops","state","told","thrown","calls","held","places","starter","closer"])
def Ud(a b m:AO):Hp:=Q3 80 [(19,X8),(20,m),(46,VD),(56,b),(72,.ds fA),(78,a),(79,Xi)]
def Bg(i:Nat):List (KD×Option Nat×V):=match bh Hc i with
 | some (.dt _ l)=>l
 | _=>[]
def Hk(i:Nat):Hp:=Ud (.dt 1 ((Bg P.O_).drop (14 - i))) (.dt 2 ((Bg P.YI).drop (14 - i))) (.dt 2 ((Bg P.YR).drop (19 - i)))
def Ur(l:List (KD×Option Nat×V)):List (KD×Option Nat×V):=match l with
 | []=>[]
 | h::r=>(h.1,.none,h.2.2)::r
def Uc(i:Nat):Hp:=Ud (.dt 1 (Ur ((Bg P.O_).drop (13 - i)))) (.dt 2 (Ur ((Bg P.YI).drop (13 - i)))) (.dt 2 (Ur ((Bg P.YR).drop (18 - i))))
def Wh:Hp:=Ud (.di [] .none) (.di [] .none) (.di [] .none)
def YB:Hp:=Ud (.dt 1 (Bg P.O_)) (.dt 2 (Bg P.YI)) (.dt 2 (Bg P.YR))
def jw:Bl:=Option.rec ⟨[],[],[]⟩ (λe=>e) (src 1759)
def kN:cu:=(jw.names,[])
def RW:List Int:=[1,1,0,1,1,1,1,1,0,1,1,0,0,0]
def tE(i:Nat):SE:=.mod (.add (.lit (Option.rec 0 (λx=>x) (bh RW i))) (.fdiv (.at 42) (.lit (2 ^ i)))) (.lit 2)
def Ku:cL:=[(cc "w",.ref 79),(cc "flips",s_ 42)]
def gR(i:Nat):cL:=[(cc "w",.ref 79),(cc "flips",s_ 42),(cc "kinds",.ref 72),(cc "place",iN i)]
def jR:Gc:=mL (ie jw.body 2)
structure Xc where
 t:Expr
 b:List Stmt
 pos:Pos
def NX(s:Stmt):Xc:=match s with
 | .If t b [] pos=>⟨t,b,pos⟩
 | _=>⟨.Name "" ⟨0,0,0,0⟩,[],⟨0,0,0,0⟩⟩
def DU(s:Stmt):Bool:=match s with
 | .If _ _ [] _=>true
 | _=>false
def NW{s:Stmt}(h:DU s=true):s=.If (NX s).t (NX s).b [] (NX s).pos:=by
 induction s using Stmt.casesOn with
 | If t b o=>exact lC (P:=λo=>DU (.If t b o _)=true->Stmt.If t b o _=.If (NX (.If t b o _)).t (NX (.If t b o _)).b [] (NX (.If t b o _)).pos) o (λ_=>rfl) (λ_ _ h=>bT h) h
 | _=>exact bT h
def RR:Xc:=NX (ie jR.b 0)
def lz:List V:=V.xl (Option.rec .none (λv=>v) (lk (cc "_law_PAIRS") (cfg jo).gl))
def uo(i:Nat):V:=Option.rec .none (λv=>v) (bh lz i)
def pL(i:Nat):cL:=Option.rec [] (λl=>l) (mQ kN jR.t (uo i) (gR i))
def UX(i:Nat):Bool:=(Gq (cfg jo) aE 30).1 kN RR.t (pL i) ⟨[],Hk i⟩ λv Y=>bb (V.beq v (.sym (tE i))) (gZ (Hk i) Y.H)
def U0(i:Nat):Bool:=db (c1 (cfg jo) aE kN 20) RR.b (pL i) ⟨[],Hk i⟩ λo loc Y=>bb (mK o) (bb (gZ (Uc i) Y.H) (fD (pL i) loc))
def UZ(i:Nat):Bool:=db (c1 (cfg jo) aE kN 20) (jR.b.drop 1) (pL i) ⟨[],Hk (i+1)⟩ λo loc Y=>bb (mK o) (bb (gZ (Hk (i+1)) Y.H) (fD (gR (i+1)) loc))
def Rt(i:Nat):Bool:=bb (Option.rec false (λ_=>true) (mQ kN jR.t (uo i) (gR i))) (bb (UX i) (bb (U0 i) (bb (UZ i) (bb (Vk i true (Hk (i+1)) (Uc i)) (Vk i false (Hk (i+1)) (Hk i))))))
def UY:Bool:=bb (Option.rec false (λz:cL×List (Nat×V)=>bb (fD Ku z.1) (bf z.2)) (vc jw.names jw.as [.ref 79,s_ 42]))
 (bb (db (c1 (cfg jo) aE kN 20) (jw.body.take 2) Ku ⟨[],Hk 0⟩ λo loc Y=>bb (mK o) (bb (gZ (Hk 0) Y.H) (fD (gR 0) loc)))
 (bb (db (c1 (cfg jo) aE kN 20) (jw.body.drop 3) (gR 14) ⟨[],Hk 14⟩ λo loc Y=>bb (mK o) (gZ YB Y.H))
 (bb ((Gq (cfg jo) aE 30).1 kN jR.it (gR 0) ⟨[],Hk 0⟩ λv Y=>bb (V.beq v (.tup lz)) (gZ (Hk 0) Y.H))
 (bb (lO (ie jw.body 2)) (bb (DU (ie jR.b 0)) (bb (pZ jR.it) (bb (CK RR.t) (bb (Nat.beq lz.length 14) (Nat.beq jw.body.length 4)))))))))
def ug:UY=true:=by kernel_rfl
def DJ:aB Rt (cz 14 0)=true:=by kernel_rfl
def aN.sg0{a:Act c}{loc:cL}{H:Hp}{s:Shared}(S:aN a p loc ⟨[],H⟩ s):dA a c.σ p loc H s:=by
 obtain⟨m,S,rl⟩:=S
 exact⟨m,aK.sg (c:=c) (a:=a) (σ':=c.σ) S (λ_ h=>h) rfl ae,rl⟩
def aN.gs0{a:Act c}{loc:cL}{H:Hp}{s:Shared}(S:dA a c.σ p loc H s)(ZX:a.cv=[]):aN a p loc ⟨[],H⟩ s:=by
 obtain⟨m,S,rl⟩:=S
 exact⟨m,aK.gs (c:=c) (a:=a) (σ':=c.σ) S ZX (λ_ h=>h) rfl ae,rl⟩
def Ps{a:Act c}{loc e_:cL}{Y:Sy}{H':Hp}{s:Shared}(S:aN a p loc Y s)(h:∀x,RH c p 0 Y.H x->RH c p 0 H' x)(len:H'.length=Y.H.length)(hl:fD e_ loc=true):aN a p e_ ⟨[],H'⟩ s:=by
 refine iT ?_ (iS hl)
 obtain⟨m,S,rl⟩:=S
 exact⟨m,⟨let⟨g,own,tn,F,N,nd,rh,l⟩:=S.st;⟨g,own,tn,F,N,nd,h own rh,l.trans len.symm⟩,S.le,S.cv,ae,S.ge,S.os⟩,rl⟩
def Ca{a:Act c}{loc:cL}{Y:Sy}{H':Hp}{s:Shared}(S:aN a p loc Y s)(h:∀x,RH c p 0 Y.H x->RH c p 0 H' x)(len:H'.length=Y.H.length):aN a p loc ⟨[],H'⟩ s:=by
 obtain⟨m,S,rl⟩:=S
 exact⟨m,⟨let⟨g,own,tn,F,N,nd,rh,l⟩:=S.st;⟨g,own,tn,F,N,nd,h own rh,l.trans len.symm⟩,S.le,S.cv,ae,S.ge,S.os⟩,rl⟩
def W4(o o':AO):Bool:=bi (T5 o o') true (ob (pR o') λt=>bb (bf t.2) (W8 t.1 o))
def OP{k o o' x}(h:W4 o o'=true)(y:RO c p k x o):RO c p k x o':=bH h (λh _=>wU h y) λ_ h=>ay h λt e h=>ag h λh1 h=>by
 rw[fS e,aG h1];exact OV h y
def WO(H' H:Hp):Bool:=bc W4 H H'
def N0(H:Hp):∀{H':Hp} {k x},WO H' H=true->RH c p k H x->RH c p k H' x:=by
 induction H with
 | nil=>intro H' k x h y;rw[show H'=[] from ba h];exact y
 | cons o H ih=>
  intro H' k x h y
  refine aT h λo' dg e h1 h=>?_
  refine eC y λa b e1 y1 y2=>?_
  rw[e]
  exact⟨a,b,e1,OP h1 y1,ih h y2⟩
def Lc:CS:=λloc Y k=>bb (WO (Hk 0) Y.H) (bb (fD (gR 0) loc) (k .next (gR 14) ⟨[],Hk 14⟩))
def nD(σ:Sg):Prop:=∀i < 14,σ.β i=((tE i).ev σ.ν != 0)
def H6{i:Nat}(h:i < 14):Rt i=true:=ai DJ i ((cM 14).mpr ⟨fv _,by omega⟩)
def gW{f:Flow}{o:mT}(hF:RF c q f o)(h:mK o=true):f=.next:=by rw[nh h] at hF;exact hF
def C4:bD aq c n aE:=λf sp h=>nomatch h
def p0:lz.length=14:=by
 refine ag ug λ_ h=>ag h λ_ h=>ag h λ_ h=>ag h λ_ h=>ag h λ_ h=>ag h λ_ h=>ag h λ_ h=>ag h λ_ h=>ag h λh _=>cf h
def z8(env:Env)(w:Sem Value):isTrue RR.t env w=(do let v<-w;standAt RR.t.pos;holding [v] (truthy v)):=by kernel_rfl
def mF{A:Around}{env:Env}{E:Value->Shared->Prop}{Q:Flow->Shared->Prop}{s:Shared}(h:Q .next s):wpAny (Mo c) A (execs [] env) Q E s:=dF h
def E2(G:bJ c)(hβ:nD c.σ):jK aq c kN 100 (ie jw.body 2) Lc:=λr loc Y k h p s g S P=>by
 refine ag h λh1 h=>ag h λh2 h=>?_
 have ZX:r.cv=[]:=r.hv
 refine ag ug λ_ ks=>ag ks λ_ ks=>ag ks λ_ ks=>ag ks λk4 ks=>ag ks λk5 ks=>ag ks λk6 ks=>ag ks λk7 ks=>ag ks λk8 ks=>ag ks λk9 _=>?_
 have S0:dA r.toAct c.σ p (gR 0) (Hk 0) s:=(Ps S (λx y=>N0 Y.H h1 y) (aQ _ h1).symm h2).sg0
 rw[nl k5]
 have F0:=cq G
 refine yN (c:=c) (p:=p) (by decide) rfl (J:=λi σ loc H=>σ=c.σ/\loc=gR i/\H=Hk i) (x:=.tup lz) (all:=lz) k7 (.inl ⟨rfl,rfl⟩) (λ{i σ loc H i' σ' e_ H' q u} j j' y=>by rw[j.1] at y;rw[j'.1];exact y) (λQ hQ=>?_) (λi v σ loc H hv j=>?_) (λq s l hJ=>?_)
 ·exact uN (σ:=c.σ) G rfl F0 C4 k4 S0 λq u v Y s' l S' hv hk=>ag hk λe1 e2=>hQ q u s' l ⟨c.σ,gR 0,Hk 0,⟨rfl,rfl,rfl⟩,Ca S' (λx y=>dE Y.H e2 y) (aQ _ e2).symm,by rw[<-V.eq_of_beq _ e1];exact hv⟩
 ·refine nJ j λJ_ X_ YO=>?_;obtain rfl:=J_;obtain rfl:=X_;obtain rfl:=YO
  have hi:i < 14:=by rw[<-p0];exact(oD hv).1
  have ev:uo i=v:=by unfold uo;rw[bK,hv]
  refine ag (H6 hi) λa1 ki=>ag ki λa2 ki=>ag ki λa3 ki=>ag ki λa4 ki=>ag ki λa5 a6=>?_
  have ha:mQ kN jR.t v (gR i)=some (pL i):=by
   rw[<-ev]
   unfold pL
   rcases e:mQ kN jR.t (uo i) (gR i) with _|l
   ·rw[e] at a1;exact bT a1
   ·rfl
  refine⟨pL i,ha,λr' hr' p s g S P=>?_⟩
  have hb:jR.b=ie jR.b 0::jR.b.drop 1:=by
   rcases hB:jR.b with _|⟨a,l⟩
   ·rw[hB] at k6;exact bT k6
   ·rfl
  have next:∀{q s'},Le p q->dA r'.toAct c.σ q (pL i) (Hk (i+1)) s'->wpAny (Mo c) r'.A (execs (jR.b.drop 1) r'.env) g r'.E s':=λl S=>vb (σ:=c.σ) (n:=99) G rfl F0 C4 a4 S λq' f o loc Y b8 l' S' hF hk=>ag hk λb1 hk=>ag hk λb2 b3=>by
   rw[gW hF b1]
   exact P q' b8 .next (l.trans l') (.inl rfl) ⟨c.σ,_,_,⟨rfl,rfl,rfl⟩,Ps S' (λx y=>dE Y.H b2 y) (aQ _ b2).symm b3⟩
  show wpAny (Mo c) r'.A (execs jR.b r'.env) g r'.E s
  rw[hb,NW k6]
  refine nH (wpAny_If (isTrue_plain (uN (σ:=c.σ) (n:=99) G rfl F0 C4 a2 S λq u v Y s' l S' hv hk=>ag hk λe1 e2=>?_) ?_))
  ·rw[V.eq_of_beq _ e1] at hv
   refine bV hv.inv λt eu=>?_
   have S1:dA r'.toAct c.σ q (pL i) (Hk i) s':=Ca S' (λx y=>dE Y.H e2 y) (aQ _ e2).symm
   have hb:=hβ i hi
   rw[eu]
   refine PyProof.Rows.truthy_int ?_
   rcases hv:(tE i).ev c.σ.ν != 0 with _|_
   ·rw[hv] at hb
    have YY:(SE.ev (c.sg c.σ).σ.ν (tE i) != 0)=false:=hv
    rw[if_neg (by rw[YY];exact Bool.false_ne_true)]
    exact mF (next l (Ql S1 (λx y=>D6 hb (Hk i) a6 y) (aQ _ a6).symm))
   ·rw[hv] at hb
    have YY:(SE.ev (c.sg c.σ).σ.ν (tE i) != 0)=true:=hv
    rw[if_pos YY]
    refine vb (σ:=c.σ) (n:=99) G rfl F0 C4 a3 S1 λq' f o loc Y' b8 l' S' hF hk=>ag hk λb1 hk=>ag hk λb2 b3=>?_
    rw[gW hF b1]
    have S2:dA r'.toAct c.σ q' (pL i) (Uc i) b8:=Ps S' (λx y=>dE Y'.H b2 y) (aQ _ b2).symm b3
    exact next (l.trans l') (Ql S2 (λx y=>D6 hb (Uc i) a5 y) (aQ _ a5).symm)
  ·exact z8 _ _
 ·refine J9 hJ λ σ' e_ H' Zx S'=>?_;refine nJ Zx λZ9 zz6 zz7=>?_;obtain rfl:=Z9;obtain rfl:=zz6;obtain rfl:=zz7
  rw[p0] at S'
  exact P q _ .next _ _ s l (S'.gs0 ZX) rfl h
def u9(e:Bl)(code:CS):FS:=λvs Y k=>ob (vc e.names e.as vs) λz=>bb (bf z.2) (code z.1 Y λo _ Y=>k o.val Y)
def u8(G:bJ c){f:Addr}{e:Bl}(he:src f=some e){code:CS}(B:A3 kx c (e.names,[]) (n+1) e.body code):ah kx c (n+2) f (u9 e code):=λa A p m Y s vs us k R hr hA h S hv hR hE=>ay h λz hz h=>ag h λhn h=>by
 refine mE (G.src f e he) λname qual scope FA hs _=>?_
 have hn:z.2=[]:=aG hn
 refine yY FA hA (by have:=hr.depth;omega) S hv (hs▸hz) λa' aJ e1 e2 e3 e4 aC back err=>?_
 exact B {toAct:=a',A:=A.deeper a'.env,E:=λe s'=>wpAny (Mo c) (A.deeper a'.env) (leaving a'.env e) (λ_ YQ=>R (.error e) YQ) (λe' YQ=>R (.error e') YQ) s',fd:=e3,hA:=e4,hn:=by rw[e1,hs],hv:=by rw[e2,hn],room:=hr.deeper,err:=λq m' Y' s' j e S' he hx hk=>err q m' Y' s' j e S' he hx λh' l S=>hE q Y' _ j e l S he hx hk} z.1 Y _ h p aJ _ aC λq f o loc cW b8 l aO hF hk=>by
  obtain⟨tW,aO,_⟩:=aO
  refine bS (back q tW cW b8 aO) λl' S'=>?_
  induction o using mT.casesOn with
  | next=>rw[show f=.next from hF];exact hR q _ .none cW b8 l' S' .none hk
  | cont=>rw[show f=.cont from hF];exact hR q _ .none cW b8 l' S' .none hk
  | brk=>rw[show f=.brk from hF];exact hR q _ .none cW b8 l' S' .none hk
  | ret v=>refine aH hF λu e hu=>?_;rw[e];exact hR q u v cW b8 l' S' hu hk
def Kv{l:List Stmt}(h:l.length=4):l=[ie l 0,ie l 1,ie l 2,ie l 3]:=by
 refine dc h λa l e h=>dc h λb l e1 h=>dc h λc l e2 h=>dc h λd l e3 h=>?_
 rw[e,e1,e2,e3,zp.mp h];rfl
def kc(k:Nat):CS:=c1 (cfg jo) aE kN 20 (ie jw.body k)
def rz:CS:=pO (kc 0) (pO (kc 1) (pO Lc (pO (kc 3) AD)))
def H5:jw.body.length=4:=by kernel_rfl
def H3:src 1759=some jw:=by kernel_rfl
def wm(G:bJ c)(hβ:nD c.σ):A3 aq c kN 100 jw.body rz:=by
 have one:∀k,jK aq c kN 100 (ie jw.body k) (kc k):=λk=>qz (n:=99) (G.cfg (cq G)) (λ_ _ h=>nomatch h) (λ_ _ _ h=>nomatch h) C4 20 _
 have:=fO (one 0) (fO (one 1) (fO (E2 G hβ) (fO (one 3) sA)))
 rw[Kv H5]
 exact this
def VJ:List (Nat×AO):=[(78,.dt 1 (Bg P.O_)),(56,.dt 2 (Bg P.YI)),(20,.dt 2 (Bg P.YR))]
def Nu:Bool:=tF (u9 jw rz) [] [.ref 79,s_ 42] Wh [] VJ i8 .none
def H4:Nu=true:=by kernel_rfl
def Nr(G:bJ c)(hβ:nD c.σ):ah kx c 102 1759 (bg Wh [⟨[.ref 79,s_ 42],.none,VJ⟩]):=
 a8 (af ⟨u9 jw rz,[],[.ref 79,s_ 42],.none,[],i8,(u8 (n:=99) G H3 (wm G hβ)).le (by decide),ax.refl _,ak.refl _,ae,aV,H4⟩)
def QN(ks:List Nat):∀{H:Hp} {own:fh},ks.Nodup->RH c p 0 H own->(∀k∈ks,∃o,H[k]? =some o)->∃(xs:List fh) (rest:fh) (dg:Hp),RH c p 0 dg rest/\own.Perm (xs.flatten++rest)/\(∀k,k∉ks->dg[k]? =H[k]?)/\xs.length=ks.length/\∀(j k:Nat) (o:AO),ks[j]? =some k->H[k]? =some o->∃x,xs[j]? =some x/\RO c p k x o:=by
 induction ks with
 | nil=>intro H own _ h _;exact⟨[],own,H,h,.refl _,(λ_ _=>rfl),rfl,λj k o e=>by exact oN e⟩
 | cons k ks ih=>
  intro H own nd h hk
  have nd:=fH.mp nd
  refine bV (hk k (.head _)) λo ho=>?_
  refine h.split ho λpre x post eo P=>?_
  have h2:=P.2 p (Le.refl p) .gone [] rfl
  obtain⟨xs,rest,dg,r1,r2,r3,r4,r5⟩:=ih nd.2 h2 λk' Zn=>by
   refine bV (hk k' (.tail _ Zn)) λo' G_=>?_
   exact⟨o',by rw[List.getElem?_set_ne (λ(e:k=k')=>nd.1 (by rw[e];exact Zn))];exact G_⟩
  refine⟨x::xs,rest,dg,r1,?_,λk' Zn=>?_,bl (· +1) r4,λj k' o' e e'=>?_⟩
  ·rw[eo,List.flatten_cons,gK]
   rw[List.nil_append] at r2
   exact(sZ pre x post).trans (mC x r2)
  ·rw[r3 k' λh=>Zn (.tail _ h),List.getElem?_set_ne (λ(e:k=k')=>Zn (by rw[<-e];exact .head _))]
  ·induction j using nC with
   | zero=>
    obtain rfl:=oI e
    rw[ho] at e';obtain rfl:=oI e'
    exact⟨x,rfl,by have:=P.1;rw[eM] at this;exact this⟩
   | succ j=>
    rw[s7] at e
    have hm:k'∈ks:=Bo e
    exact r5 j k' o' e (by rw[List.getElem?_set_ne (λ(e:k=k')=>nd.1 (by rw[e];exact hm))];exact e')
def GR(c:Cx)(p:Pt)(H:Hp)(g:List Nat)(y:fh):Prop:=∃xs:List fh,y=xs.flatten/\xs.length=g.length/\∀(i k:Nat) (o:AO),g[i]? =some k->H[k]? =some o->∃x,xs[i]? =some x/\RO c p k x o
def MC(gs:List (List Nat)):∀{H:Hp} {own:fh},gs.flatten.Nodup->RH c p 0 H own->(∀k∈gs.flatten,∃o,H[k]? =some o)->∃(ys:List fh) (rest:fh),own.Perm (ys.flatten++rest)/\ys.length=gs.length/\∀(j:Nat) (g:List Nat),gs[j]? =some g->∃y,ys[j]? =some y/\GR c p H g y:=by
 induction gs with
 | nil=>intro H own _ h _;exact⟨[],own,.refl _,rfl,λj g e=>by exact oN e⟩
 | cons g gs ih=>
  intro H own nd h hk
  rw[List.flatten_cons] at nd hk
  refine nJ (zo.mp nd) λn1 n2 n3=>?_
  refine Um (QN g n1 h λk Zn=>hk k (j5 _ Zn)) λxs rest dg r1 r2 r3 r4 r5=>?_
  have same:∀k∈gs.flatten,dg[k]? =H[k]?:=λk Zn=>r3 k λh=>n3 k h k Zn rfl
  obtain⟨ys,ad3,q1,q2,q3⟩:=ih n2 r1 λk Zn=>by
   rw[same k Zn];exact hk k (j0 _ Zn)
  refine⟨xs.flatten::ys,ad3,?_,bl (· +1) q2,λj g' e=>?_⟩
  ·rw[List.flatten_cons,gK]
   exact r2.trans (mC _ q1)
  ·induction j using nC with
   | zero=>obtain rfl:=oI e;exact⟨_,rfl,xs,rfl,r4,r5⟩
   | succ j=>
    rw[s7] at e
    obtain⟨y,e1,Z3,e2,e3,e4⟩:=q3 j g' e
    exact⟨y,e1,Z3,e2,e3,λi k o e5 e6=>e4 i k o e5 (by rw[same k (List.mem_flatten.mpr ⟨g',Bo e,Bo e5⟩)];exact e6)⟩
def Ly(H':Hp):∀{ys:List fh} {k},ys.length=H'.length->(∀(j:Nat) (y:fh) (o:AO),ys[j]? =some y->H'[j]? =some o->RO c q (k+j) y o)->RH c q k H' ys.flatten:=by
 induction H' with
 | nil=>intro ys k e _;rw[zp.mp e];rfl
 | cons o H' ih=>
  intro ys k e h
  rcases ys with _|⟨y,ys⟩
  ·cases e
  ·rw[List.flatten_cons]
   exact⟨y,ys.flatten,rfl,h 0 y o rfl rfl,ih (Nat.succ.inj e) λj y' o' e1 e2=>by rw[show k+1+j=k+(j+1) by lia];exact h (j+1) y' o' e1 e2⟩
noncomputable def Act.ZM(a:Act c)(q:Pt):Act c:={a with p₀:=q}
def aK.pick{a:Act c}{m:Str->Option Value}{H H':Hp}{s:Shared}(S:aK a p m ⟨[],H⟩ s)(ZX:a.cv=[]){gs:List (List Nat)}(nd:gs.flatten.Nodup)(hk:∀k∈gs.flatten,∃o,H[k]? =some o)(hl:H'.length=gs.length)(hq:q.ρ.length=H'.length)(hI:q.I=p.I)
  (conv:∀(j:Nat) (g:List Nat) (o:AO),gs[j]? =some g->H'[j]? =some o->∀y,GR c p H g y->RO c q j y o):aK (a.ZM q) q m ⟨[],H'⟩ s:=by
 refine S.el λg own tn F N nn rh len le cv pc ge os=>?_
 refine eC (MC gs nd rh hk) λys rest r1 r2 r3=>?_
 have hRH:RH c q 0 H' ys.flatten:=Ly H' (r2.trans hl.symm) λj y o e1 e2=>by
  have hj:j < gs.length:=by rw[<-r2];exact(oD e1).1
  refine aH (r3 j gs[j] (vr hj)) λy' e3 e4=>?_
  rw[e1] at e3;obtain rfl:=oI e3
  rw[eM]
  exact conv j _ o (vr hj) e2 y e4
 have pm:(rest++(ys.flatten++(a.X++q.I))).Perm (own++(a.X++p.I)):=by
  rw[hI]
  refine List.Perm.trans ?_ (r1.symm.append_right _)
  rw[gK]
  exact sZ ..
 have xq:=News.perm N pm
 have io:=aY nn pm
 exact⟨⟨g,ys.flatten,tn,F,λx hx=>xq x (j0 _ hx),by rw[sX] at io;exact(zo.mp io).2.1,hRH,hq⟩,Le.refl _,(λx v h=>by
  have h:look (code x) a.cv=some v:=h
  rw[ZX] at h;exact oN h),ae,ge,os⟩
variable{T:mr}
def Hu(k:Nat)(l:List Nat):Nat->Option Nat:=List.rec (λ_=>.none) (λa _ g j=>Bool.rec (g (j+1)) (some j) (Nat.beq a k)) l
def Ht{k:Nat}(l:List Nat):∀{j i:Nat},Hu k l j=some i->j<=i/\l[i - j]? =some k:=by
 induction l with
 | nil=>exact λh=>aj h
 | cons a l ih=>
  intro j i h
  refine bp (show(Bool.rec (Hu k l (j+1)) (some j) (Nat.beq a k):Option Nat)=some i from h) (λe h=>?_) λ_ h=>?_
  ·obtain rfl:=oI h;rw[Nat.sub_self,<-cf e];exact⟨fG _,rfl⟩
  ·refine bS (ih h) λh1 h2=>?_
   exact⟨Nat.le_of_succ_le h1,by rw[show i - j=(i - (j+1))+1 from(Nat.sub_add_cancel (Nat.sub_pos_of_lt h1)).symm,s7];exact h2⟩
def TP(t:Fz)(hd:List Nat):mr:=⟨0,λk=>Option.rec ((Hu k hd 0).map .ref) (λv=>ij (v.S_ 0) (some v)) (lk k t),λ_=>.none,λe=>some (.sym e)⟩
def Bi(ρ:Ro)(k:Nat):Addr×Addr:=match ρ[k]? with
 | some z=>z
 | .none=>(0,0)
def sG{ρ:Ro}{hd:List Nat}(h:∀k∈hd,k < ρ.length){j k:Nat}(e:hd[j]? =some k):(hd.map (Bi ρ))[j]? =ρ[k]?:=by
 rw[List.getElem?_map,e]
 have:=h k (Bo e)
 show some (Bi ρ k)=_
 unfold Bi
 rw[vr this]
def F6{t:Fz}{hd:List Nat}{I:fh}{τ}(hf:mU c p t)(hI:∀x∈p.I,x∈I)(h:∀k∈hd,k < p.ρ.length):cF c p ⟨hd.map (Bi p.ρ),I,τ⟩ (TP t hd) where
 ρ k hk:=absurd hk (Nat.not_lt_zero k)
 I:=hI
 r k v u e r:=by
  have e:Option.rec ((Hu k hd 0).map .ref) (λv=>ij (v.S_ 0) (some v)) (lk k t)=some v:=e
  refine tL e (λw e1 e=>be e λh1 e=>?_) λ_ e=>?_
  ·obtain rfl:=Eq.symm (oI e)
   exact(hf k _ u e1 r).cls hI h1
  ·refine aH (fp e) λj ej e=>?_
   refine bS (Ht hd ej) λ_ h2=>?_
   rw[Nat.sub_zero] at h2
   refine iR r.inv λa d e3 h4=>?_
   rw[<-e,e3]
   exact .ref ((sG h h2).trans h4)
 t n v u e:=nomatch e
 s e v t h:=by obtain rfl:=oI h;exact .sym e t
def Ta(T:mr)(tb:List (SE×Int))(x y:Nat×V):Bool:=bi (cA T x y) true (bb (Nat.beq x.1 y.1) (bb (bb (Nat.beq x.2.tag 2) (Nat.beq y.2.tag 3)) (lb (λz:SE×Int=>bb (SE.beq y.2.xe z.1) (pN x.2.xi z.2)) tb)))
def F4(σ:Sg)(tb:List (SE×Int)):Prop:=∀z∈tb,z.1.ev σ.ν=z.2
def Fl(X:cF c p q T){tb:List (SE×Int)}(hb:F4 c.σ tb){x y:Nat×V}(h:Ta T tb x y=true):x.1=y.1/\∀u,RV c p x.2 u->RV c q y.2 u:=by
 refine bH h (λh _=>ag h λh1 h2=>⟨cf h1,λu r=>iH X h2 r⟩) λ_ h=>ag h λh1 h=>ag h λh2 h=>ag h2 λt1 t2=>⟨cf h1,λu r=>?_⟩
 refine bV (r.at t1) λt e=>?_
 rw[V.is t2,e]
 refine la h λz hz h=>ag h λe1 e2=>?_
 have e3:x.2.xi=z.2:=cw.mp e2
 rw[e3,<-hb z hz,<-SE.eq_of_beq _ e1]
 exact .sym _ t
def Jv(X:cF c p q T){tb:List (SE×Int)}(hb:F4 c.σ tb)(l:List (Nat×V)):∀{l' es},bc (Ta T tb) l l'=true->RA c p l es->RA c q l' es:=by
 induction l with
 | nil=>intro l' es h r;rw[ba h,show es=[] from r.inv];exact .nil
 | cons x l ih=>
  intro l' es h r
  refine li r.inv λy t u Zk e1 e2 r1 r2=>?_
  refine aT h λb r' e' h1 h=>?_
  refine bS (Fl X hb h1) λk1 k2=>?_
  obtain⟨b1,b2⟩:=b
  have k1:x.1=b1:=k1
  rw[e2,e',<-k1,e1]
  exact .cons (k2 u r1) (ih h r2)
def Fm(X:cF c p q T){tb:List (SE×Int)}(hb:F4 c.σ tb){k:Nat}{y:Option Value}(l:List (Nat×V)):∀{l'},bc (Ta T tb) l l'=true->au c p (look k l) y->au c q (look k l') y:=by
 induction l with
 | nil=>intro l' h r;rw[ba h];exact ci r (λ_ _ e=>nomatch e) λ_=>rfl
 | cons x l ih=>
  intro l' h r
  obtain⟨x1,x2⟩:=x
  refine aT h λb bL e' h1 h=>?_
  refine bS (Fl X hb h1) λk1 k2=>?_
  obtain⟨b1,b2⟩:=b
  have k1:x1=b1:=k1
  rw[e',<-k1,aX]
  rw[aX] at r
  by_cases e:x1=k
  ·rw[if_pos e] at r ⊢
   exact ci r (λv u e r=>⟨b2,rfl,by obtain rfl:=oI e;exact k2 u r⟩) nofun
  ·rw[if_neg e] at r ⊢;exact ih h r
def Ww(o:Option Nat):Bool:=Option.rec true (λ_=>false) o
def C3{o:Option Nat}(h:Ww o=true):o=.none:=by
 rcases o with _|_
 ·rfl
 ·exact bT h
def wO(T:mr)(gt:List (Nat×List V))(dtb:List (Nat×List (SE×V)))(tb:List (SE×Int))(o o':AO):Bool:=bi (cO T i8 o o') true
 (oi (dw o) (λl=>ob (jG o') λg=>bb (bf g.2) (ob (lk g.1 gt) λl'=>bc (cV T) l l'))
 (oi (pS o) (λd=>bb (Ww d.2) (oi (pS o') (λd'=>bb (bf d'.1) (ob d'.2 λg=>ob (lk g dtb) λl'=>bc (cI T) d.1 l')) (ob (vh o') λl'=>bb (bf d.1) (l'.all λz=>kP z.2.2))))
 (oi (eU o) (λi=>ob (eU o') λi'=>bb (Nat.beq i.1 i'.1) (bc (Ta T tb) i.2 i'.2))
 (ob (lU o) λl=>ob (lU o') λl'=>bc (Ta T tb) l l'))))
def wi{α:Type}{k:Nat}{v:α}(l:List (Nat×α))(h:lk k l=some v):(k,v)∈l:=by
 induction l with
 | nil=>exact oN h
 | cons z l ih=>exact bp (show(Bool.rec (lk k l) (some z.2) (Nat.beq z.1 k):Option α)=some v from h) (λe h=>by obtain rfl:=oI h;rw[<-cf e];exact .head _) λ_ h=>.tail _ (ih h)
def P5(X:cF c p q T){gt:List (Nat×List V)}{dtb:List (Nat×List (SE×V))}{tb:List (SE×Int)}(hg:∀z∈gt,c.σ.γ z.1=z.2)(hd:∀z∈dtb,(∀x,c.σ.δ z.1 x=cB c.σ z.2 .none x)/\z.2.length<=c.σ.z z.1)(hb:F4 c.σ tb)
  {k j o o' x} (hk:q.ρ[j]? =p.ρ[k]?) (ho:eK o=.none) (h:wO T gt dtb tb o o'=true) (r:RO c p k x o):RO c q j x o':=by
 refine bH h (λh _=>wV X aV hk (.inr ho) h r) λ_ h=>bq h (λl e h=>ay h λg e' h=>ag h λh1 h=>ay h λl' el h=>?_) λ_ h=>bq h (λd e h=>ag h λh0 h=>bq h (λd' e' h=>ag h λh1 h=>ay h λg eg h=>ay h λl' el h=>?_) λ_ h=>ay h λl' e' h=>ag h λh1 h=>?_) λ_ h=>bq h (λi e h=>ay h λi' e' h=>ag h λh1 h=>?_) λ_ h=>ay h λl e h=>ay h λl' e' h=>?_
 ·rw[bU e] at r
  rw[eA e',aG h1]
  refine eF.at r hk λa d r=>r.elim λvs r=>r.elim λm r=>⟨vs,m,?_,r.2⟩
  rw[gN,hg _ (wi gt el)]
  exact wT X l h r.1
 ·rw[eZ e,C3 h0] at r
  rw[eZ e',aG h1,eg]
  refine bS (hd _ (wi dtb el)) λd1 d2=>?_
  refine eF.at r hk λa dd r=>DX.le r (by rw[aQ _ h];show l'.length+0<=0+c.σ.z g;dsimp only at d2;omega) λxs r x=>?_
  show au c q (c.σ.δ g x) _
  rw[show c.σ.δ g x=cB c.σ l' .none x from d1 x]
  exact o9 X _ h (r x)
 ·rw[eZ e,C3 h0,aG h1] at r
  rw[iB e']
  refine eF.at r hk λa dd r=>DX.le r (fv _) λxs r x=>?_
  have hy:=r x
  have hy:valueAt xs x=.none:=by
   rcases e:valueAt xs x with _|u
   ·rfl
   ·rw[e] at hy;exact hy.elim
  rw[hy]
  rcases e2:cZ l' x with _|w
  ·exact rfl
  ·obtain⟨w1,w2⟩:=w
   have hw:=jt.mp h _ (gP l' e2)
   rw[show w2=.none from gb hw]
   exact .inl rfl
 ·rw[bZ e] at r
  rw[bZ e',<-cf h1]
  exact eF.at r hk λa d r=>r.elim λes r=>r.elim λm r=>⟨es,m,Jv X hb _ h r.1,r.2⟩
 ·rw[dp e] at r
  rw[dp e']
  exact eF.at r hk λa d r=>DX.le r (jL (aQ _ h)) λxs r x=>Fm X hb _ h (r x)
end
section
variable{c bj:Cx}{p q:Pt}{kx:Nat->Sy->Bool}{names:cu}{n:Nat}{σ σ':Sg}
def Go:List V:=ii 23 (iN 1)++ii 6 (iN 2)++[iN 3]++ii 5 (iN 2)++ii 2 (iN 1)
def P7:List Nat:=[7,4,8]
def Pr:List Nat:=[7,8,4]
def Xm:SE:=.mod (.at 41) (.lit 3)
def Xl:SE:=.mod (.fdiv (.at 41) (.lit 3)) (.lit 3)
def Xx:SE:=.mod (.fdiv (.at 41) (.lit 9)) (.lit 7)
def X9:SE:=.mod (.fdiv (.at 41) (.lit 63)) (.lit 7)
def X0:List (SE×List V×V):=[(Xm,P7.map aM,.b_ 13),(Xl,Pr.map aM,.b_ 14),(Xx,TL.map aM,.b_ 11),(X9,ML.map aM,.b_ 12),(.at 5,Go,s_ 74),(.at 5,ii 37 (iN 0),iN 0)]
def Xz:List (Nat×List (Nat×V)×V):=[(11,fA,s_ 5),(12,fA,s_ 6),(13,fA,s_ 7),(14,fA,s_ 8)]
def Aj:FT:={rng:=[(18,some 0,some 40),(5,some 7,some 34),(74,some 1,some 2)],len:=[(9,.at 18)],lf:=[],df:=[],pk:=X0,sf:=Xz}
def Yc:AO:=.inst 122 [(cc "rows",.ref 3),(cc "index",.ref 4),(cc "depths",.ref 5),(cc "weights",.ref 6),(cc "opens",.ref 7)]
def J0:Hp:=[.gone,.gone,Yc,.lst (cE.take 37),.gone,.gone,.gone,.gone]
def SK:List V:=[.ref 2,.tup [iN 2,iN 71,.tup [s_ 5]]]
def VI:FS:=λvs Y k=>bi (jF vs SK) (bg J0 [⟨SK,.none,[]⟩] vs Y k) (tx Aj aE 8 154 vs Y k)
def K2(T:Nat):Bool:=tF (tx jo aE 8 154) [] [.ref 2,.tup [iN 2,iN 71,.tup [iN T]]] J0 [] [] i8 .none
noncomputable def Yd(j:Nat):List String:=match j with
 | 0=>["script","at","m","ev","kinds","exact","held","bare","items","addrs","pairs"]
 | _=>["script","at","m","ev","kinds","exact","held","bare","items","addrs","pairs","unders","T","M","errors"]
def Wn(j a:Nat):AO:=.ds (yc 79 [(0,.ref 0),(1,iN a),(2,.ref 19),(3,.ref 46),(4,.ref 72),(5,.ref 73),(6,.ref 74),(7,.ref 75),(8,.ref 76),(9,.ref 77),(10,.ref 78),(11,.ref 80),(12,.b_ 11),(13,.b_ 12),(14,.ref 158)] (Yd j))
def PH(j:Nat):Hp:=Q3 (80+79 * j) [(0,.v_ 9 []),(79,Wn j j)]
def Vy(j:Nat)(b:Bool):FT:=match b with
 | true=>{rng:=[(18,some (.ofNat (j+1)),some 40)],len:=[(9,.at 18)],lf:=[(9,.lit (.ofNat j),s_ (41+j))],df:=[]}
 | false=>{rng:=[(18,some 0,some (.ofNat j))],len:=[(9,.at 18)],lf:=[],df:=[]}
def W2(j:Nat):List (Nat×AO):=[(79,Wn j (j+1))]
def XM(j:Nat)(b:Bool):V:=match b with
 | true=>s_ (41+j)
 | false=>iN 0
def FO(j:Nat)(b:Bool):Bool:=tF (tx (Vy j b) aE 3 1598) [] [.ref 79] (PH j) [] (W2 j) i8 (XM j b)
def xh(j:Nat):FS:=bg (PH j) [⟨[.ref 79],s_ (41+j),W2 j⟩]
def Pb:FS:=λvs Y k=>bi (mH (PH 0).length (PH 0) 0 Y.H) (xh 0 vs Y k) (xh 1 vs Y k)
def WP:List (Nat×List V):=[(0,G0 qM),(1,G1 qM),(2,G2 qM),(3,G3 qM),(4,G4 qM),(5,G5 qM),(6,G6 qM),(7,[.none])]
def VH:List (SE×V):=(jQ (λi t=>(SE.lit (.ofNat (aU i)),pH i t)) qM 1).reverse
def SB:List (Nat×List (SE×V)):=[(0,VH),(1,[])]
def Wq:List (SE×Int):=[(.at 15,43),(.at 16,9),(.at 17,27),(.at 10,0),(.at 9,2)]
noncomputable def Vp:Fz:=([123,124,125,126,128,129,130,131,133,134,135,136,138,139,140,141,143,144,145,146,148,149,150,151,153,154,155,156]).map λk=>(k,.any)
noncomputable def WJ:List Nat:=[127,132,137,142,147,152,157,231,178,180,184,186,190,191,195,197,202,203,208,209,214,215,220,221,226,227,181,183,182,187,189,188,192,194,193,198,200,199,204,206,205,210,212,211,216,218,217,222,224,223,228,230,229]
noncomputable def vt:List Nat:=[79,73,74,76,77,78,72,80,46,19,2,159,160,165,1,82,83,93,103,113,37,39,47,55,56,175,174,70,13,14,15,20,173,29,176,177,21,23,30,172,158,75,0,0,0,0]
def pM:List Nat:=[2,3,4,5,6,7]
def R4(j:Nat):List Nat:=match j with
 | 10=>pM
 | 43|44|45=>[]
 | j=>[cP vt j]
def D7:List (List Nat):=(cz 46 0).map R4
def MG(t:Fz)(H:Hp)(j:Nat):Bool:=ob (bh HL j) λo'=>match R4 j with
 | [k]=>ob (bh H k) λo=>bb (Option.rec true (λ_=>false) (eK o)) (wO (TP t vt) WP SB Wq o o')
 | []=>dQ o'
 | _=>false
def Rr(t:Fz)(H:Hp):Bool:=bc (λk o'=>ob (bh H k) λo=>bb (Option.rec true (λ_=>false) (eK o)) (cO (TP t pM) i8 o o')) pM (gp [])
def Ti(t:Fz)(H:Hp):Bool:=bb (aB (λj=>bi (Nat.beq j 10) true (MG t H j)) (cz 46 0)) (Rr t H)
def Du:cL:=[(cc "script",.ref 0)]
def HV:cL:=[(cc "script",.ref 0),(cc "w",.ref 79)]
def Sn(kin:FS):Addr->Option FS:=uK (cfg Aj) src (eD [(1759,kin),(154,VI),(1598,Pb)]) 11
def Nt:FS:=bg Wh [⟨[.ref 79,s_ 42],.none,VJ⟩]
def Xh:KS:=λo loc Y=>bb (mK o) (bb (fD HV loc) (ob (Oh WJ Y.H Vp) λz=>bb (Ti z.2 z.1) (bb (Nat.ble 178 z.1.length) (bc (cA (TP z.2 vt)) HV [(cc "script",.ref 42),(cc "w",.ref 0)]))))
def H0:Hp:=[.v_ 9 []]
def P3:Bool:=c1 (cfg Aj) (Sn Nt) eR 20 (ie gS 1) Du ⟨[],H0⟩ Xh
variable{sc:List Int}
def LM:P3=true:=by kernel_rfl
def FN:bb (bb (FO 0 true) (FO 0 false)) (bb (FO 1 true) (FO 1 false))=true:=by kernel_rfl
def Jb:aB K2 TL=true:=by kernel_rfl
def uD(sc:List Int):Int:=jb (sc.map .int) 0
def WW(sc:List Int):Int:=jb (sc.map .int) 1
def sV(sc:List Int):Md where
 T:=cP TL (((uD sc).fdiv 9).fmod 7).toNat
 M:=cP ML (((uD sc).fdiv 63).fmod 7).toNat
 uE:=cP P7 ((uD sc).fmod 3).toNat
 uF:=cP Pr (((uD sc).fdiv 3).fmod 3).toNat
 fl i:=(tE i).ev (λ_=>WW sc) != 0
 sc:=sc
 tl:=qM
 at_:=2
 st:=0
 es:=[]
 vs:=[.none]
 dl _:=.none
 zl:=0
def Om(a:Int){m:Int}(hm:0 < m):∃j:Nat,a.fmod m=j/\(j:Int) < m:=by
 have h1:=Int.fmod_nonneg_of_pos a hm
 have h2:=Int.fmod_lt_of_pos a hm
 exact⟨(a.fmod m).toNat,(pF h1).symm,by rw[pF h1];exact h2⟩
def tU(l:List Nat)(k:Nat)(h:k < l.length):l[k]? =some (cP l k):=by
 unfold cP fg
 rw[bK,vr h]
def iV(l:List Nat)(a:Int)(h:0 < l.length):∃j:Nat,a.fmod l.length=j/\l[j]? =some (cP l (a.fmod l.length).toNat)/\cP l (a.fmod l.length).toNat∈l:=by
 refine aH (Om a (m:=l.length) (by omega)) λj e hj=>?_
 have hj:j < l.length:=by omega
 have e2:=tU l j hj
 rw[e,Int.toNat_natCast]
 exact⟨j,rfl,e2,Bo e2⟩
def BY:∀t∈qM,tm 0 t/\(0<=t.b/\t.b<=9):=by
 have g:∀{ex:Nat} {br:V} {sp:Bool},br.h_=true->br.fr=true->ex∈ma->(sp=true->ex=17)->tm 0 (Ba ex br sp)/\(0<=(Ba ex br sp).b/\(Ba ex br sp).b<=9):=λh1 h2 h3 h4=>⟨⟨⟨h1,aP h1 rfl⟩,h3,h4,h2,aP h2 rfl⟩,Int.le_refl 0,(by decide:(0:Int)<=9)⟩
 refine aa ?_ (aa ?_ (aa ?_ (aa ?_ (aa ?_ (aa ?_ (aa ?_ (aa ?_ (af ?_))))))))
 all_goals exact g rfl rfl (by decide) (λ_=>by first|rfl|contradiction)
def b9(h:sc.length<=40):aF (sV sc) where
 hT:=(iV TL ((uD sc).fdiv 9) (by decide)).elim λ_ h=>h.2.2
 hM:=(iV ML ((uD sc).fdiv 63) (by decide)).elim λ_ h=>h.2.2
 hE:=(iV P7 (uD sc) (by decide)).elim λ_ h=>h.2.2
 hF:=by
  have hm:∀k∈Pr,k∈[7,4,8]:=by decide
  exact hm _ ((iV Pr ((uD sc).fdiv 3) (by decide)).elim λ_ h=>h.2.2)
 sc:=h
 th t ht:=(BY t ht).1
 ix t ht:=(BY t ht).2
 n9:=by show 9<=qM.length;decide
 tk j t e:=⟨λ_=>e,λh=>absurd (oD e).1 (by show ¬j < 9;lia)⟩
 r0 t ht:=by
  have ht:qM[0]? =some t:=ht
  obtain rfl:=oI ht;rfl
 nn:=by show qM.length<=_;decide
 at_:=by show 2<=990;decide
 st:=by show 0<=3000;decide
 es:=by show[]∈cj;exact .head _
 vs:=af ⟨rfl,rfl⟩
 v1:=fG _
 v9:=by show 1<=900;decide
 z9:=by show 0<=900;decide
 d0:=rfl
 dl x v e:=nomatch e
def Q7:pT (sV sc) 0:=⟨by show qM.length<=_;decide,by show 2<=_;decide,by show 0<=_;decide,by show 1<=_;decide,by show 0<=_;decide⟩
def rW(sc:List Int)(h:sc.length<=40):F8:={(I1 (sV sc)).raw (b9 h) ⟨rfl,rfl⟩ with nu:=(41,uD sc)::(42,WW sc)::(74,jx (dy Go (sV sc).T))::(I1 (sV sc)).nu}
def sW(sc:List Int)(h:sc.length<=40)(c:Cx):Sg:=(rW sc h).s c
def BG(h:sc.length<=40)(G:pA c):bJ (c.sg (sW sc h c)) where
 cfg F:=G.cfg _ F
 src:=G.src
 z:=((sv (b9 h)).E_ G).z
 big:=((sv (b9 h)).E_ G).big
def JO{l:List V}{a:Nat}(h:a < l.length):jb l a=jx (dy l a):=by
 unfold jb
 rw[s8 (by omega:a+1<=l.length)]
def JP{l:List V}{a:Nat}(h:¬a < l.length)(h2:a < 14):jb l a=jx (dy i7 a):=by
 unfold jb
 have e:Nat.ble (a+1) l.length=false:=by
  rcases e:Nat.ble (a+1) l.length with _|_
  ·rfl
  ·exact absurd (fu e) (by lia)
 rw[e,s8 (by lia:a+1<=14)]
def Oo:jx (dy i7 0)=Int.ofNat 0:=by kernel_rfl
def On:jx (dy i7 1)=Int.ofNat 0:=by kernel_rfl
def IT{j:Nat}(h:j < 2):jx (dy i7 j)=Int.ofNat 0:=match j,h with
 | 0,_=>Oo
 | 1,_=>On
 | k+2,h=>absurd h (by omega)
def zh(G:bJ c){sc:List Int}(hg:c.σ.γ 9=sc.map .int)(h18:c.σ.ν 18=sc.length)(h:sc.length<=40){j:Nat}(hj:j < 2)(hn:c.σ.ν (41+j)=jb (sc.map .int) j):ah kx c 6 1598 (xh j):=by
 have run:∀b,FO j b=true:=λb=>by
  have r:=FN
  simp only [al] at r
  match j,hj,b with
  | 0,_,true=>exact r.1.1
  | 0,_,false=>exact r.1.2
  | 1,_,true=>exact r.2.1
  | 1,_,false=>exact r.2.2
  | k+2,h,_=>lia
 have hl:(c.σ.γ 9).length=sc.length:=by rw[hg,gE]
 have hlen:∀p∈[(9,SE.at 18)],((c.σ.γ p.1).length:Int)=p.2.ev c.σ.ν:=af (by show((c.σ.γ 9).length:Int)=c.σ.ν 18;rw[hl,h18])
 refine a8 (af ?_)
 by_cases hs:j < sc.length
 ·have hlf:∀p∈[(9,SE.lit (.ofNat j),s_ (41+j))],jX c.σ p:=by
   refine af ⟨nI j,dy (c.σ.γ 9) j,?_,?_⟩
   ·exact fc _ _ (by rw[hl];exact hs)
   ·have e:=fc (sc.map V.int) j (by rw[gE];exact hs)
    rw[hg]
    rw[List.getElem?_map,vr hs] at e
    rw[JO (by rw[gE];exact hs)] at hn
    rw[<-j1 e] at hn ⊢
    exact dX hn
  exact⟨tx (Vy j true) aE 3 1598,[],[.ref 79],s_ (41+j),[],i8,cy (m:=3) G (aI.four G (af (bI (by rw[h18];show((j+1:Nat):Int)<=_;lia) (by rw[h18];lia))) hlen hlf ae),ax.refl _,ak.refl _,ae,aV,run true⟩
 ·refine⟨tx (Vy j false) aE 3 1598,[],[.ref 79],iN 0,[],i8,cy (m:=3) G (aI.four G (af (bI (by rw[h18];lia) (by rw[h18];show _<=((j:Nat):Int);lia))) hlen ae ae),ax.refl _,dX ?_,ae,aV,run false⟩
  rw[hn,JP (by rw[gE];exact hs) (by lia)]
  exact IT hj
def JN{n:Nat}(h0:ah kx c n 1598 (xh 0))(h1:ah kx c n 1598 (xh 1)):ah kx c n 1598 Pb:=λa A p m Y s vs us k R hr hA h S p_ hR hE=>bH (show bi (mH (PH 0).length (PH 0) 0 Y.H) (xh 0 vs Y k) (xh 1 vs Y k)=true from h) (λ_ h=>h0 a A p m Y s vs us k R hr hA h S p_ hR hE) λ_ h=>h1 a A p m Y s vs us k R hr hA h S p_ hR hE
def OI(G:bJ c)(F:aI c.σ Aj){T:Nat}(hT:T∈TL)(h5:c.σ.ν 5=T):ah kx c 16 154 VI:=λa A p m Y s vs us k R hr hA h S p_ hR hE=>bH (show bi (jF vs SK) (bg J0 [⟨SK,.none,[]⟩] vs Y k) (tx Aj aE 8 154 vs Y k)=true from h)
 (λ_ h=>a8 (kx:=kx) (c:=c) (af (show qC c 16 154 J0 ⟨SK,.none,[]⟩ from⟨tx jo aE 8 154,[],[.ref 2,.tup [iN 2,iN 71,.tup [iN T]]],.none,[],i8,cy (m:=8) G (cq G),ax.cons (ak.refl _) (ax.one (ax.tup (ax.cons (ak.refl _) (ax.cons (ak.refl _) (ax.one (ax.tup (ax.one (aW (n:=5) h5)))))))),ak.refl _,ae,aV,ai (f:=K2) Jb T hT⟩)) a A p m Y s vs us k R hr hA h S p_ hR hE)
 λ_ h=>cy (m:=8) G F a A p m Y s vs us k R hr hA h S p_ hR hE
variable{T:mr}
def NA(k:Nat):Bool:=Option.rec false (λv=>V.beq v (iN k)) (look (code (dI k)) fA)
def Nz:aB NA [17,7,22,12,34,19,27,20,25,18,31,21,4,8]=true:=by kernel_rfl
def Ia{k:Nat}(h:k∈[17,7,22,12,34,19,27,20,25,18,31,21,4,8]):look (code (dI k)) fA=some (iN k):=by
 have r:=ai (f:=NA) Nz k h
 unfold NA at r
 rcases e:look (code (dI k)) fA with _|v
 ·rw[e] at r;exact bT r
 ·rw[e] at r;exact bl some (V.eq_of_beq _ r)
def KY(k:Nat):Bool:=bb (Option.rec false (λv=>V.beq v (.int (jx (dy Go k)))) (bh Go k)) (bb (Int.rec (λn=>bb (Nat.ble 1 n) (Nat.ble n 2)) (λ_=>false) (jx (dy Go k))) (Option.rec false (λv=>V.beq v (iN 0)) (bh (ii 37 (iN 0)) k)))
def Ox:aB KY TL=true:=by kernel_rfl
def ye{o:Option V}{w:V}(h:(Option.rec false (λv=>V.beq v w) o:Bool)=true):o=some w:=by
 rcases o with _|v
 ·exact bT h
 ·exact bl some (V.eq_of_beq _ h)
def qR{k n i:Nat}(hk:k∈[17,7,22,12,34,19,27,20,25,18,31,21,4,8])(h1:σ.ω n=aM k)(h2:σ.ν i=.ofNat k):∃(x:Str) (v:V),σ.ω n=.str x/\look (code x) fA=some v/\ak σ v (s_ i):=⟨dI k,iN k,h1,Ia hk,dX h2⟩
def qV{l:List Nat}{e:SE}{n:Nat}{a:Int}(h0:0 < l.length)(he:e.ev σ.ν=a.fmod l.length)(ho:σ.ω n=aM (cP l (a.fmod l.length).toNat)):pv σ (e,l.map aM,.b_ n):=by
 refine lj (iV l a h0) λj e1 e2 _=>?_
 refine⟨j,_,he.trans e1,?_,bO ho⟩
 rw[List.getElem?_map,e2]
 rfl
def Ka(h:sc.length<=40)(G:bJ (c.sg (sW sc h c))):aI (sW sc h c) Aj:=by
 have hd:=b9 h
 have hT:(sV sc).T∈TL:=hd.hT
 have hr:=ai (f:=KY) Ox _ hT
 have tl:∀k∈TL,k∈[17,7,22,12,34,19,27,20,25,18,31,21,4,8]/\7<=k/\k<=34:=by decide
 have ml:∀k∈ML,k∈[17,7,22,12,34,19,27,20,25,18,31,21,4,8]:=by decide
 have ul:∀k∈[7,4,8],k∈[17,7,22,12,34,19,27,20,25,18,31,21,4,8]:=by decide
 refine ag hr λr1 r=>ag r λr2 r3=>?_
 have g1:=ye r1
 have g3:=ye r3
 rw[bK] at g1 g3
 have fr:∀a:Int,∀{l:List Nat},0 < l.length->l.length<=100->a.fmod l.length<=1000000:=λa l h1 h2=>by
  have:=Int.fmod_lt_of_pos a (show(0:Int) < l.length by lia)
  lia
 exact{
  rng:=aa (bI (by show(0:Int)<=(sc.length:Nat);lia) (by show((sc.length:Nat):Int)<=40;lia)) (aa (bI (by show(7:Int)<=((sV sc).T:Nat);have:=(tl _ hT).2.1;lia) (by show(((sV sc).T:Nat):Int)<=34;have:=(tl _ hT).2.2;lia)) (af (by
   have e:(sW sc h c).ν 74=jx (dy Go (sV sc).T):=rfl
   refine bI ?_ ?_
   ·rw[e]
    rcases hi:jx (dy Go (sV sc).T) with m|m
    ·rw[hi] at r2;exact ag r2 λa _=>gM.mpr (fu a)
    ·rw[hi] at r2;exact bT r2
   ·rw[e]
    rcases hi:jx (dy Go (sV sc).T) with m|m
    ·rw[hi] at r2;exact ag r2 λ_ a=>gM.mpr (fu a)
    ·rw[hi] at r2;exact bT r2)))
  len:=af (by show((sc.map V.int).length:Int)=(sc.length:Nat);rw[gE])
  lf:=ae
  df:=ae
  pk:=aa (qV (l:=P7) (a:=uD sc) (by decide) rfl rfl) (aa (qV (l:=Pr) (a:=(uD sc).fdiv 3) (by decide) rfl rfl) (aa (qV (l:=TL) (a:=(uD sc).fdiv 9) (by decide) rfl rfl) (aa (qV (l:=ML) (a:=(uD sc).fdiv 63) (by decide) rfl rfl)
   (aa (show pv (sW sc h c) (.at 5,Go,s_ 74) from⟨(sV sc).T,.int (jx (dy Go (sV sc).T)),rfl,g1,dX rfl⟩) (af (show pv (sW sc h c) (.at 5,ii 37 (iN 0),iN 0) from⟨(sV sc).T,iN 0,rfl,g3,ak.refl _⟩))))))
  pkz:=by
   have hT':(((sV sc).T:Nat):Int)<=1000000:=by have:=(tl _ hT).2.2;lia
   exact aa (fr (uD sc) (l:=P7) (by decide) (by decide)) (aa (fr ((uD sc).fdiv 3) (l:=Pr) (by decide) (by decide)) (aa (fr ((uD sc).fdiv 9) (l:=TL) (by decide) (by decide)) (aa (fr ((uD sc).fdiv 63) (l:=ML) (by decide) (by decide)) (aa hT' (af hT')))))
  sf:=aa (qR (tl _ hT).1 rfl rfl) (aa (qR (ml _ hd.hM) rfl rfl) (aa (qR (ul _ hd.hE) rfl rfl) (af (qR (ul _ hd.hF) rfl rfl))))
  fm:=ae
  ef:=ae
  om:=ae
  ac:=λC ns h=>nomatch h
  oe:=ae
  ca:=ae
  cb:=ae
  z:=G.z
  big:=G.big}
def PY(h:sc.length<=40):nD (sW sc h c):=λi _=>rfl
def BH(h:sc.length<=40)(G:pA c):bD aq (c.sg (sW sc h c)) 124 (Sn Nt):=by
 have GG:=BG h G
 have F:=Ka h GG
 have h18:(c.sg (sW sc h c)).σ.ν 18=(sc.length:Nat):=rfl
 have o:bD aq (c.sg (sW sc h c)) 102 (eD [(1759,Nt),(154,VI),(1598,Pb)]):=bQ GG _ (aa ⟨Nr GG (PY h),rfl⟩ (aa ⟨(OI GG F (b9 h).hT rfl).le (by decide),rfl⟩ (af ⟨(JN (zh GG (sc:=sc) rfl h18 h (by decide:0 < 2) rfl) (zh GG (sc:=sc) rfl h18 h (by decide:1 < 2) rfl)).le (by decide),rfl⟩)))
 exact kR (n:=102) (GG.cfg F) (λ_ _ h=>nomatch h) (λ_ _ _ h=>nomatch h) GG.src o 11
def OE:∀x,D0 qM 1 x=cB σ VH .none x:=by
 intro x
 by_cases h1:x=16
 ·subst h1;rfl
 by_cases h2:x=19
 ·subst h2;rfl
 by_cases h3:x=22
 ·subst h3;rfl
 by_cases h4:x=25
 ·subst h4;rfl
 by_cases h5:x=28
 ·subst h5;rfl
 by_cases h6:x=31
 ·subst h6;rfl
 by_cases h7:x=34
 ·subst h7;rfl
 by_cases h8:x=37
 ·subst h8;rfl
 by_cases h9:x=40
 ·subst h9;rfl
 have g:∀{a:Int} {A B:Option V},a≠x->(if a=x then A else B)=B:=λh=>if_neg h
 refine(g (λe=>h1 e.symm)).trans ((g (λe=>h2 e.symm)).trans ((g (λe=>h3 e.symm)).trans ((g (λe=>h4 e.symm)).trans ((g (λe=>h5 e.symm)).trans ((g (λe=>h6 e.symm)).trans ((g (λe=>h7 e.symm)).trans ((g (λe=>h8 e.symm)).trans ((g (λe=>h9 e.symm)).trans ?_))))))))
 exact((g (λe=>h9 e.symm)).trans ((g (λe=>h8 e.symm)).trans ((g (λe=>h7 e.symm)).trans ((g (λe=>h6 e.symm)).trans ((g (λe=>h5 e.symm)).trans ((g (λe=>h4 e.symm)).trans ((g (λe=>h3 e.symm)).trans ((g (λe=>h2 e.symm)).trans (g (λe=>h1 e.symm)))))))))).symm
def PX(h:sc.length<=40):∀z∈WP,(sW sc h c).γ z.1=z.2:=aa rfl (aa rfl (aa rfl (aa rfl (aa rfl (aa rfl (aa rfl (af rfl)))))))
def PZ(h:sc.length<=40):∀z∈SB,(∀x,(sW sc h c).δ z.1 x=cB (sW sc h c) z.2 .none x)/\z.2.length<=(sW sc h c).z z.1:=aa ⟨λx=>OE x,by show VH.length<=qM.length;decide⟩ (af ⟨λx=>rfl,fv _⟩)
def PU(h:sc.length<=40):F4 (sW sc h c) Wq:=aa rfl (aa rfl (aa rfl (aa rfl (af rfl))))
def Rn.ZM(r:Rn aq c names n)(q:Pt):Rn aq c names n:={toAct:=r.toAct.ZM q,A:=r.A,E:=r.E,fd:=⟨r.fd.fe,r.fd.o,r.fd.L,r.fd.fl,r.fd.hfe,r.fd.hf⟩,hA:=r.hA,hn:=r.hn,hv:=r.hv,room:=r.room,err:=λ_ _ _ _ _ _ _ _ _ h=>nomatch h}
def JR{α β:Type}{f:α->β->Bool}(l:List α):∀{l':List β} {j:Nat} {a b},bc f l l'=true->l[j]? =some a->l'[j]? =some b->f a b=true:=by
 induction l with
 | nil=>intro l' j a b _ e;exact oN e
 | cons x l ih=>
  intro l' j a b h e1 e2
  refine aT h λy t e' h1 h=>?_
  rw[e'] at e2
  induction j using nC with
  | zero=>obtain rfl:=oI e1;obtain rfl:=Eq.symm (oI e2);exact h1
  | succ j=>exact ih h e1 e2
def K9(X:cF c p q T)(l:cL):∀{l':cL} {m:Str->Option Value},bc (cA T) l l'=true->RL c p l m->RL c q l' m:=by
 have key:∀(l l':cL),bc (cA T) l l'=true->∀x v',look x l'=some v'->∃v,look x l=some v/\cV T v v'=true:=by
  intro l
  induction l with
  | nil=>intro l' h x v' e;rw[ba h] at e;exact oN e
  | cons z l ih=>
   intro l' h x v' e
   obtain⟨z1,z2⟩:=z
   refine aT h λb t e' h1 h=>ag h1 λh1 h2=>?_
   obtain⟨b1,b2⟩:=b
   have eb:z1=b1:=cf h1
   rw[e',<-eb,aX] at e
   rw[aX]
   by_cases q:z1=x
   ·rw[if_pos q] at e ⊢;obtain rfl:=Eq.symm (oI e);exact⟨z2,rfl,h2⟩
   ·rw[if_neg q] at e ⊢;exact ih t h x v' e
 intro l' m h L x v' e
 refine aH (key l l' h (code x) v' e) λv e1 e2=>?_
 refine aH (L x v e1) λu hu hR=>?_
 exact⟨u,hu,iH X e2 hR⟩
def Oa:mU c p Vp:=λk v u e r=>by
 have hm:=wi Vp e
 refine aH (fw.mp hm) λk' _ e'=>?_
 refine bS (fI e') λJ_ X_=>?_;obtain rfl:=J_;obtain rfl:=X_
 exact .any r.handed
def yF:∀k∈vt,k < 178:=by decide
def DG:∀k∈pM,k < 178:=by decide
def N5:D7.flatten.Nodup:=by decide +kernel
def IE:∀k∈D7.flatten,k < 178:=by decide +kernel
def N6:∀j < 46,D7[j]? =some (R4 j):=by decide +kernel
def NZ:∀j < 43,vt[j]? =some (cP vt j):=by decide +kernel
def ID:∀j < 43,j≠10->R4 j=[cP vt j]:=by decide +kernel
def N4:∀j < 46,43<=j->R4 j=[]:=by decide +kernel
def xt:HL.length=46:=by kernel_rfl
def Wx{o:AO}(h:(Option.rec true (λ_=>false) (eK o):Bool)=true):eK o=.none:=by
 rcases e:eK o with _|i
 ·rfl
 ·rw[e] at h;exact bT h
def Rm:jB (gp [])=true:=by kernel_rfl
def Vj:HL[10]? =some (.t_ 0):=by kernel_rfl
def Gx(h:sc.length<=40){H:Hp}{t:Fz}{p:Pt}(hf:mU (c.sg (sW sc h c)) p t)(hl:178<=H.length)(hp:p.ρ.length=H.length)(run:Ti t H=true)(j:Nat)(g:List Nat)(o':AO)(hg:D7[j]? =some g)(ho:HL[j]? =some o')(y:fh)(hy:GR (c.sg (sW sc h c)) p H g y):
  RO (c.sg (sW sc h c)) ⟨vt.map (Bi p.ρ),p.I,p.τ⟩ j y o':=by
 have hj:j < 46:=by rw[<-xt];exact(oD ho).1
 have hm:∀k∈vt,k < p.ρ.length:=λk hk=>by have:=yF k hk;omega
 have hm2:∀k∈pM,k < p.ρ.length:=λk hk=>by have:=DG k hk;omega
 rw[N6 j hj] at hg
 obtain rfl:=oI hg
 refine ag run λrun rk=>?_
 by_cases e10:j=10
 ·subst e10
  rw[Vj] at ho
  obtain rfl:=oI ho
  refine lj hy λxs ey e1 e2=>?_
  have O:Lz (c.sg (sW sc h c)) (c.sg (rW sc h).s0) (λi=>gp ((rW sc h).ev i)):=⟨λ_ _ _ _ _=>Iff.rfl,λ_ _ _ _ _=>False,λh _ _=>h,rfl⟩
  show gD (c.sg (rW sc h).s0) (gp []) (vt.map (Bi p.ρ)) p.I 10 y
  refine⟨pM.map (Bi p.ρ),Bi p.ρ 2,rfl,rfl,rfl,λ τ=>?_⟩
  refine O.out Rm ?_
  rw[ey]
  have X:=F6 (c:=c.sg (sW sc h c)) (p:=p) (t:=t) (hd:=pM) (I:=p.I) (τ:=τ) hf (λ_ h=>h) hm2
  refine Ly (gp []) (e1.trans rfl) λi x o ex eo=>?_
  have hi:i < 6:=(oD eo).1
  have ek:pM[i]? =some (cP pM i):=tU _ _ hi
  have r:=JR pM rk ek eo
  refine ay r λQO h1 r=>ag r λr1 r2=>?_
  rw[bK] at h1
  refine aH (e2 i _ QO ek h1) λx' ex' rx=>?_
  rw[ex] at ex';obtain rfl:=oI ex'
  rw[eM]
  exact wV X aV (sG hm2 ek) (.inr (Wx r1)) r2 rx
 ·have r:=ai (f:=λj=>bi (Nat.beq j 10) true (MG t H j)) run j ((cM 46).mpr ⟨fv _,by omega⟩)
  refine bH (show bi (Nat.beq j 10) true (MG t H j)=true from r) (λe _=>absurd (cf e) e10) λ_ r=>?_
  refine ay r λQO h1 r=>?_
  rw[bK,ho] at h1
  obtain rfl:=oI h1
  by_cases h43:j < 43
  ·rw[ID j h43 e10] at r hy
   refine ay r λo h1 r=>ag r λr1 r2=>?_
   rw[bK] at h1
   refine lj hy λxs ey e1 e2=>?_
   refine aH (e2 0 _ o rfl h1) λx ex rx=>?_
   have exs:xs=[x]:=by
    induction xs using lC with
    | nil=>exact oN ex
    | cons a l=>obtain rfl:=Eq.symm (oI ex);induction l using lC with
     | nil=>rfl
     | cons b l=>cases e1
   rw[ey,exs,show([x]:List fh).flatten=x from gN x]
   exact P5 (F6 (c:=c.sg (sW sc h c)) (p:=p) (t:=t) (hd:=vt) (I:=p.I) (τ:=p.τ) hf (λ_ h=>h) hm) (PX h) (PZ h) (PU h) (sG hm (NZ j h43)) (Wx r1) r2 rx
  ·rw[N4 j hj (by omega)] at r hy
   refine lj hy λxs ey e1 _=>?_
   rw[fT r,ey,zp.mp e1]
   exact(rfl:([]:fh)=[])
def LN(h:sc.length<=40):cH (c.sg (sW sc h c)) (sB (sV sc) (b9 h) c) Gl where
 n:=aa rfl (aa rfl (aa rfl (aa rfl (aa rfl (aa rfl (aa rfl (aa rfl (af rfl))))))))
 o:=aa ⟨rfl,rfl⟩ (aa ⟨rfl,rfl⟩ (aa ⟨rfl,rfl⟩ (af ⟨rfl,rfl⟩)))
 a:=af λ ρ I k y a=>ub (r:=rW sc h) (r':=(I1 (sV sc)).raw (b9 h) ⟨rfl,rfl⟩) rfl rfl (b9 h).es a
 g:=aa (λp us r=>aR (c:=c.sg (sW sc h c)) (b9 h).f0 r) (aa (λp us r=>aR (c:=c.sg (sW sc h c)) (b9 h).f1 r) (aa (λp us r=>aR (c:=c.sg (sW sc h c)) (b9 h).f2 r) (aa (λp us r=>aR (c:=c.sg (sW sc h c)) (b9 h).f3 r) (aa (λp us r=>aR (c:=c.sg (sW sc h c)) (b9 h).f4 r) (aa (λp us r=>aR (c:=c.sg (sW sc h c)) (b9 h).f5 r)
  (aa (λp us r=>aR (c:=c.sg (sW sc h c)) (b9 h).f6 r) (aa (λp us r=>aR (c:=c.sg (sW sc h c)) (b9 h).f7 r) (af λp us r=>aR (c:=c.sg (sW sc h c)) (b9 h).f9 r))))))))
 d:=aa ⟨λp k y r=>gh (c:=c.sg (sW sc h c)) (b9 h).fd r,fG _⟩ (af ⟨λp k y r=>gh (c:=c.sg (sW sc h c)) (k:=k) (b9 h).fl_ r,fG _⟩)
 b:=rfl
def PV(h:sc.length<=40)(G:pA c){r:Rn aq c eR 130}{s:Shared}{g:Flow->Shared->Prop}(S:dA r.toAct (sW sc h c) p Du H0 s)
  (P:∀q s,dA (r.toAct.ZM q) (sB (sV sc) (b9 h) c) q dP HL s->g .next s):wpAny (Mo c) r.A (exec (ie gS 1) r.env) g r.E s:=by
 have GG:=BG h G
 have hH:=LM
 refine yh (n:=129) GG rfl (Ka h GG) (λf sp e=>⟨((BH h G) f sp e).1.le (by decide),((BH h G) f sp e).2⟩) hH S λq f o loc Y s' l S' hF hk=>?_
 refine ag hk λk1 hk=>ag hk λk2 hk=>ay hk λz hz hk=>ag hk λk3 hk=>ag hk λk4 k5=>?_
 rw[nh k1] at hF
 rw[show f=.next from hF]
 have aC:=iT S' (iS k2)
 obtain⟨m,aO,rl⟩:=aC
 refine lj (yM WJ (I:=q.I) (τ:=q.τ) (ρ:=q.ρ) (pc:=Y.pc) (H:=Y.H) aO Oa hz) λfj yG cK hf=>?_
 have gI:aK (r.toAct.sg (sW sc h c) []) ⟨q.ρ,fj,q.τ⟩ m ⟨[],z.1⟩ s':=⟨cK.st,cK.le,cK.cv,ae,cK.ge,cK.os⟩
 have hl:178<=z.1.length:=fu k4
 have hp:q.ρ.length=z.1.length:=by
  obtain⟨_,_,_,_,_,_,_,len⟩:=gI.st
  exact len
 have ia:=gI.pick (gs:=D7) (H':=HL) (q:=⟨vt.map (Bi q.ρ),fj,q.τ⟩) rfl N5 (λk hk=>⟨_,vr (show k < z.1.length from vz (IE k hk) hl)⟩) xt (by show(vt.map (Bi q.ρ)).length=_;rw[gE,xt];try rfl) rfl (Gx h (p:=⟨q.ρ,fj,q.τ⟩) hf hl hp k3)
 have X:=F6 (c:=c.sg (sW sc h c)) (p:=⟨q.ρ,fj,q.τ⟩) (t:=z.2) (hd:=vt) (I:=fj) (τ:=q.τ) hf (λ_ h=>h) λk hk=>by
  show k < q.ρ.length
  have:=yF k hk;omega
 have rl':RL (c.sg (sW sc h c)) ⟨q.ρ,fj,q.τ⟩ HV m:=rl.mono (⟨iM.refl _,yG,rfl⟩:Le q ⟨q.ρ,fj,q.τ⟩)
 have xo:aN ((r.toAct.ZM ⟨vt.map (Bi q.ρ),fj,q.τ⟩).sg (sW sc h c) []) ⟨vt.map (Bi q.ρ),fj,q.τ⟩ [(cc "script",.ref 42),(cc "w",.ref 0)] ⟨[],HL⟩ s':=⟨m,ia,K9 X HV k5 rl'⟩
 have ld:=ai (f:=kM) gy 0 (by decide)
 refine ag ld λl1 ld=>ag ld λl2 _=>?_
 exact P _ s' (xo.ren (LN h) l2 l1)
end
section
variable{c bj:Cx}{p q:Pt}{names:cu}{n:Nat}{σ σ':Sg}
def f4:Gc:=mL (ie gS 4)
def WH:Nat:=cc "maybe"
def Yh:Nat:=cc "first"
def WG:Nat:=cc "name"
def WF:Nat:=cc "value"
def WI:Nat:=cc "aim"
def kJ(a b d:V):cL:=pt WI d (pt WF b (pt WG a dP))
def qh(j:Nat):Nat:=fg [7,20,27] j 22
def a4(j:Nat):Int:=fg [-5,7,200] j 300
def b4(j:Nat):Nat:=fg [0,0,0] j 2
def e4(j:Nat):Int:=fg [0,0,0] j 1
def WX(j:Nat):Int:=fg [0,0,0] j 9
def g4(j:Nat):Int:=fg [0,0,1] j 0
def k4(uE j:Nat):Nat:=fg [16,uE,27] j 22
def v4(j:Nat):V:=Af (qh j) (g4 j) (a4 j) (b4 j) (e4 j) (WX j)
def Gr(j:Nat):V:=fg [aM 16,.b_ 13,aM 27] j (aM 22)
def oW:List V:=[0,1,2,3].map λj=>.tup [aM (qh j),v4 j,Gr j]
def Dh:V:=.tup [.int 1,.int 200]
def HS:cL:=pt WH Dh dP
def HT:cL:=pt Yh (.tup oW) (pt WH Dh dP)
def Ml:c1 (cfg jo) aE eR 20 (ie gS 2) dP ⟨[],HL⟩ (λo loc Y=>bb (mK o) (bb (gZ HL Y.H) (fD HS loc)))=true:=by kernel_rfl
def Mk:c1 (cfg jo) aE eR 20 (ie gS 3) HS ⟨[],HL⟩ (λo loc Y=>bb (mK o) (bb (gZ HL Y.H) (fD HT loc)))=true:=by kernel_rfl
def Op:lO (ie gS 4)=true:=by kernel_rfl
def Sr:pZ f4.it=true:=by kernel_rfl
def Oq(a b d:V):mQ eR f4.t (.tup [a,b,d]) dP=some (kJ a b d):=by kernel_rfl
def Ss:(Gq (cfg jo) aE 30).1 eR f4.it HT ⟨[],HL⟩ (λv Y=>bb (V.beq v (.tup oW)) (gZ HL Y.H))=true:=by kernel_rfl
def CF:l6:=⟨(.at 15,.at 15)::(.at 16,.at 16)::(.at 17,.at 17)::(.at 9,.at 38)::TJ,TI,[(0,0)],[(0,0),(1,1),(2,2),(3,3),(4,4),(5,5),(6,6),(7,7),(9,9)],[(0,0),(1,1)]⟩
def Xe:Hp:=Hc++F_ 3
def RQ:rH CF HL Xe=true:=by kernel_rfl
def RP:aB (λj=>bc (rA CF) (kJ (aM (qh j)) (v4 j) (Gr j)) (kJ (aM (qh j)) (v4 j) (Gr j))) [0,1,2,3]=true:=by kernel_rfl
def Wu:List (Addr×FS):=[(1689,bg J1 [⟨[.ref 0,.b_ 49,.b_ 24,.bool true],eV,[(P.y_,.t_ 2)]⟩]),(1661,bg Bj [⟨[.ref 0,.b_ 49,.b_ 24],iL,hV⟩]),(1696,jC true iL (.b_ 45) (.bool true) (.bool true))]
def O0:db (c1 (cfg jo) (eD Wu) eR 20) f4.b (kJ (.b_ 49) (.b_ 24) (.b_ 45)) ⟨[],Xe⟩ (λo loc Y=>bb (mK o) (bb (rH (Pu 0) Y.H HL) (bb (bc (rA (Pu 0)) dP dP) (fD dP loc))))=true:=by kernel_rfl
end
section
variable{c bj:Cx}{p q:Pt}{kx:Nat->Sy->Bool}{x:Dp}{d:Md}{σ σ':Sg}{j:Nat}
def z4(d:Md)(j:Nat):Kd:=Gj (cr d.fl (az (qh j)) (k4 d.uE j))
def x4(d:Md)(j:Nat):Dp where
 d:=d
 kh:=qh j
 b2:=true
 k:=k4 d.uE j
 by_:=true
 o1:=iO d.T d.M (qh j) true
 o2:=iO d.T d.M (k4 d.uE j) true
 o3:=iO d.T d.M (gU d.T d.M (k4 d.uE j) true) true
 ka:=gU d.T d.M (k4 d.uE j) true
 i:=d.nn
 bx:=some false
 a:=a4 j
 b:=b4 j
 e:=e4 j
 f:=WX j
 g:=g4 j
 nm:=true
 hv:=v4 j
 k45:=k4 d.uE j
 k47:=k4 d.uE j
 k48:=12
 k49:=qh j
 n52:=0
 n50:=0
 n53:=0
 n54:=0
 n55:=0
 n56:=0
 n57:=0
 kv:=DF (k4 d.uE j) (z4 d j)
 da:=0
def j4{C:Nat->Prop}(h0:C 0)(h1:C 1)(h2:C 2)(h3:C 3):∀j < 4,C j:=by
 intro j h
 match j,h with
 | 0,_=>exact h0
 | 1,_=>exact h1
 | 2,_=>exact h2
 | 3,_=>exact h3
 | n+4,h=>lia
def lH:∀j < 4,qh j∈pq:=by decide +kernel
def KE(h:aF d):∀j < 4,k4 d.uE j∈KN:=by
 have hE:∀k∈[7,4,8],k∈KN:=by decide +kernel
 exact j4 (by decide:16∈KN) (hE _ h.hE) (by decide:27∈KN) (by decide:22∈KN)
def fC(h:aF d)(hj:j < 4):aw (x4 d j):=⟨h,⟨(si ..).1,ry ..⟩,(si ..).2,(fZ _ (lH j hj)).1,KE h j hj,.inl rfl,.inl rfl,rJ (KE h j hj) true,.inl rfl⟩
def PR(hj:j < 4):jd (x4 d j):=⟨rfl,lH j hj,rfl⟩
def td:(x4 d j).iz=d.nn:=oF _
def BE(hj:j < 4):xy (x4 d j) false:=by
 have q:∀j < 4,(bM (qh j)=true->g4 j=1)/\false∈lP (qh j)/\Py false<=a4 j/\a4 j<=PB false:=by decide +kernel
 refine Gk (q j hj) λq1 q2 q3 q4=>?_
 exact⟨rfl,rfl,td,q1,q2,q3,q4⟩
def BD(h:aF d)(hj:j < 4):jA (x4 d j):=by
 have q:∀j < 4,b4 j<=9:=by decide
 have:=q j hj
 have:=h.n9
 exact⟨by show b4 j<=d.tl.length;lia,.inr td.symm⟩
def J5:z4 d j≠.nul:=by
 unfold z4
 rcases cr d.fl (az (qh j)) (k4 d.uE j) with _|_
 ·exact nofun
 ·exact nofun
def PL(b:Bool):(Gj b).b=b:=by induction b using bC <;> rfl
def Uk(h:aF d)(hj:j < 4):AZ (x4 d j) (az (qh j)) false (z4 d j):=
 ⟨.new (x:=x4 d j) rfl td,(fZ _ (lH j hj)).2.1,nofun,BD h hj,(λ_=>PL _),rfl,rfl,rfl⟩
def PQ(h:aF d)(hj:j < 4):vn (x4 d j) (fC h hj):=⟨λ_ _=>td,λ_ _=>(fZ _ (lH j hj)).2.2.1⟩
def CW(h:aF d)(hj:j < 4)(G:pA c):bD aq ((x4 d j).cx (fC h hj) c) 60 (eD Wu):=by
 have hf:=fC h hj
 have GG:=hf.E_ G
 have H:=PR (d:=d) hj
 have X:=BD h hj
 have e:Bc (x4 d j) .v1=(x4 d j).kh:=rfl
 have zi:(z4 d j=.nul/\(x4 d j).i=0)\/(z4 d j≠.nul/\(x4 d j).i=(x4 d j).iz):=.inr ⟨J5,td.symm⟩
 refine bQ GG _ (aa ⟨?_,rfl⟩ (aa ⟨?_,rfl⟩ (af ⟨?_,rfl⟩)))
 ·exact(uC (c:=(x4 d j).cx hf c) GG H.kh (hf.wr0 H.o1 GG (ak.refl _) (aL rfl)) (VZ hf X) (jP hf (m:=.v1) e) ((aL rfl).trans (H.of hf)) (bO rfl) ((H.to hf).trans (bO rfl))).le (by decide)
 ·exact(H.boxed (BE hj) hf X GG (m:=.v1) e rfl).le (by decide)
 ·exact(hf.is GG (Uk h hj) (H.box (BE hj) hf J5) zi (λ_=>rfl) (aL rfl) (bO rfl) (ak.refl _)).le (by decide)
def NU(h:aF d)(hj:j < 4):cH (c.sg (sB d h c)) ((x4 d j).s (fC h hj) c) CF where
 n:=aa rfl (aa rfl (aa rfl (aa rfl (MR (fC h hj)))))
 o:=MO (fC h hj)
 a:=(ql (fC h hj)).a
 g:=(ql (fC h hj)).g
 d:=(ql (fC h hj)).d
 b:=rfl
def MQ(d:Md)(j:Nat):Md:=(x4 d j).nx true (d.st+1) d.at_
def CZ{N:Nat}(h:aF d)(hj:j < 4)(b:pT d N)(hN:N<=100):aF (MQ d j):=yn (fC h hj) b hN (fG _) (j2 _ _) (λhi e=>(fZ _ (lH j hj)).2.1) (λhi e=>by obtain rfl:=oI e;exact C6 (BE hj) (lH j hj)) (BD h hj)
def QY{N:Nat}(b:pT d N):pT (MQ d j) (N+1):=MP (x:=x4 d j) b (fG _) (j2 _ _)
def HI:(MQ d j).tl.length=d.tl.length+1:=ip (x:=x4 d j) true (d.st+1) d.at_
def UU:(x4 d j).kv=s_ 40\/(x4 d j).kv=iN (x4 d j).k:=wl _ _
def HF(h:aF d)(hj:j < 4)(hN:aF (MQ d j)):cH ((x4 d j).cx (fC h hj) c) (sB (MQ d j) hN c) (Pu 0):=
 rd (fC h hj) (PQ h hj) (nm:=true) (λ_=>rfl) (λ_=>UU) hN (e9:=38) (e10:=39) rfl rfl rfl
def xO{a:Act c}{loc e_:cL}{Y:Sy}{s:Shared}(S:aN a p loc Y s)(h:∀x v,look x e_=some v->∃w,look x loc=some w/\ak c.σ w v):aN a p e_ Y s:=by
 obtain⟨m,S,rl⟩:=S
 refine⟨m,S,λx v e=>?_⟩
 refine aH (h _ _ e) λw e1 e2=>?_
 refine aH (rl x w e1) λu hu hr=>?_
 exact⟨u,hu,e2 rfl hr⟩
def Dt{a b d a' b' d':V}(ha:ak σ a a')(hb:ak σ b b')(hd:ak σ d d'):∀x v,look x (kJ a' b' d')=some v->∃w,look x (kJ a b d)=some w/\ak σ w v:=by
 intro x v e
 unfold kJ at e ⊢
 rw[iD,dC] at e ⊢
 by_cases q1:WI=x
 ·rw[if_pos q1] at e ⊢;obtain rfl:=oI e;exact⟨_,rfl,hd⟩
 ·rw[if_neg q1] at e ⊢
  rw[iD,dC] at e ⊢
  by_cases q2:WF=x
  ·rw[if_pos q2] at e ⊢;obtain rfl:=oI e;exact⟨_,rfl,hb⟩
  ·rw[if_neg q2] at e ⊢
   rw[iD,dC] at e ⊢
   by_cases q3:WG=x
   ·rw[if_pos q3] at e ⊢;obtain rfl:=oI e;exact⟨_,rfl,ha⟩
   ·rw[if_neg q3] at e ⊢;exact⟨_,e,ak.refl _⟩
def HU(h:aF d)(hj:j < 4):∀x v,look x (kJ (.b_ 49) (.b_ 24) (.b_ 45))=some v->∃w,look x (kJ (aM (qh j)) (v4 j) (Gr j))=some w/\ak ((x4 d j).s (fC h hj) c) w v:=by
 refine Dt (bO rfl) (bO rfl) (ak.trans (b:=aM (k4 d.uE j)) ?_ (bO rfl))
 have w13:((x4 d j).s (fC h hj) c).ω 13=aM d.uE:=rfl
 generalize ((x4 d j).s (fC h hj) c)=τ at w13 ⊢
 match j,hj with
 | 0,_=>exact ak.refl _
 | 1,_=>exact aL w13
 | 2,_=>exact ak.refl _
 | 3,_=>exact ak.refl _
 | n+4,h=>omega
def GF{N:Nat}(h:aF d)(hj:j < 4)(b:pT d N)(hN:N<=100)(G:pA c){r:Rn aq c eR 100}{s:Shared}{g:Flow->Shared->Prop}(S:dA r.toAct (sB d h c) p (kJ (aM (qh j)) (v4 j) (Gr j)) HL s)
  (P:∀q s,Le p q->dA r.toAct (sB (MQ d j) (CZ h hj b hN) c) q dP HL s->g .next s):wpAny (Mo c) r.A (execs f4.b r.env) g r.E s:=by
 have hf:=fC h hj
 have GG:=hf.E_ G
 have hl:bc (rA CF) (kJ (aM (qh j)) (v4 j) (Gr j)) (kJ (aM (qh j)) (v4 j) (Gr j))=true:=ai (f:=λj=>bc (rA CF) (kJ (aM (qh j)) (v4 j) (Gr j)) (kJ (aM (qh j)) (v4 j) (Gr j))) RP j (by
  revert j hj;intro j hj
  match j,hj with
  | 0,_=>simp
  | 1,_=>simp
  | 2,_=>simp
  | 3,_=>simp
  | n+4,h=>lia)
 have S1:=S.ren (NU h hj) hl RQ
 have S2:=xO (c:=c.sg ((x4 d j).s hf c)) S1 (HU h hj)
 refine vb (σ:=(x4 d j).s hf c) (n:=99) GG rfl (cq GG) (λf sp e=>⟨((CW h hj G) f sp e).1.le (by decide),((CW h hj G) f sp e).2⟩) O0 S2 λq f o loc Y s' l S' hF hk=>ag hk λk1 hk=>ag hk λk2 hk=>ag hk λk3 k4=>?_
 rw[gW hF k1]
 exact P q s' l ((iT S' (iS k4)).ren (HF h hj _) k3 k2)
variable{d0:Md}
def Md.g0(h:aF d)(G:pA c):bJ (c.sg (sB d h c)):=(sv h).E_ G
def Dg(h:aF d)(G:pA c){r:Rn aq c eR 130}{s:Shared}{g:Flow->Shared->Prop}(S:dA r.toAct (sB d h c) p dP HL s)
  (P:∀q s,Le p q->dA r.toAct (sB d h c) q HS HL s->g .next s):wpAny (Mo c) r.A (exec (ie gS 2) r.env) g r.E s:=
 yh (n:=129) (Md.g0 h G) rfl (cq (Md.g0 h G)) C4 Ml S λq f o loc Y s' l S' hF hk=>ag hk λk1 hk=>ag hk λk2 k3=>by
  rw[gW hF k1]
  exact P q s' l (Ps S' (λx y=>dE Y.H k2 y) (aQ _ k2).symm k3)
def Er(h:aF d)(G:pA c){r:Rn aq c eR 130}{s:Shared}{g:Flow->Shared->Prop}(S:dA r.toAct (sB d h c) p HS HL s)
  (P:∀q s,Le p q->dA r.toAct (sB d h c) q HT HL s->g .next s):wpAny (Mo c) r.A (exec (ie gS 3) r.env) g r.E s:=
 yh (n:=129) (Md.g0 h G) rfl (cq (Md.g0 h G)) C4 Mk S λq f o loc Y s' l S' hF hk=>ag hk λk1 hk=>ag hk λk2 k3=>by
  rw[gW hF k1]
  exact P q s' l (Ps S' (λx y=>dE Y.H k2 y) (aQ _ k2).symm k3)
def JF(c:Cx)(d0:Md)(i:Nat)(σ:Sg)(loc:cL)(H:Hp):Prop:=∃(d:Md) (h:aF d),pT d i/\d.tl.length=9+i/\d.uE=d0.uE/\d.fl=d0.fl/\d.sc=d0.sc/\σ=sB d h c/\loc=dP/\H=HL
def r13:l6:=⟨[],[(13,13)],[],[],[]⟩
def QG:rV r13 (.tup oW) (.tup oW)=true:=by kernel_rfl
def Mw{d':Md}{h:aF d}{h':aF d'}(e:d'.uE=d.uE)(ef:d'.fl=d.fl):cH (c.sg (sB d h c)) (sB d' h' c) r13:=⟨ae,af ⟨bl aM e,rfl⟩,ae,ae,ae,ef⟩
def Es{v:V}(hj:oW[j]? =some v):j < 4/\v=.tup [aM (qh j),v4 j,Gr j]:=by
 have hl:j < 4:=(oD hj).1
 refine⟨hl,?_⟩
 match j,hl with
 | 0,_=>exact(j1 hj).symm
 | 1,_=>exact(j1 hj).symm
 | 2,_=>exact(j1 hj).symm
 | 3,_=>exact(j1 hj).symm
 | n+4,h=>omega
def IQ(h0:aF d0)(b0:pT d0 0)(l0:d0.tl.length=9)(G:pA c){r:Rn aq c eR 130}{s:Shared}{g:Flow->Shared->Prop}(S:dA r.toAct (sB d0 h0 c) p HT HL s)
  (P:∀q s (d:Md) (h:aF d),Le p q->pT d 4->d.tl.length=13->d.sc=d0.sc->dA r.toAct (sB d h c) q dP HL s->g .next s):wpAny (Mo c) r.A (exec (ie gS 4) r.env) g r.E s:=by
 rw[nl Op]
 have G0:=Md.g0 h0 G
 refine yN (c:=c) (p:=p) (n:=130) (by decide) rfl (J:=JF c d0) (x:=.tup oW) (all:=oW) Sr (.inl ⟨rfl,rfl⟩) (λ{i σ loc H i' σ' e_ H' q u} a b y=>?_) (λQ hQ=>?_) (λi v σ loc H hv a=>?_) (λq s l hJ=>?_)
 ·obtain⟨d,h,_,_,e1,f1,_,rfl,_,_⟩:=a
  obtain⟨d',h',_,_,e2,f2,_,rfl,_,_⟩:=b
  exact mh (Mw (e2.trans e1.symm) (f2.trans f1.symm)) QG y
 ·exact uN (n:=129) G0 rfl (cq G0) C4 Ss S λq u v Y s' l S' hv hk=>ag hk λe1 e2=>hQ q u s' l ⟨sB d0 h0 c,dP,HL,⟨d0,h0,b0,l0,rfl,rfl,rfl,rfl,rfl,rfl⟩,iT (Ca S' (λx y=>dE Y.H e2 y) (aQ _ e2).symm) (iS (by kernel_rfl)),by rw[<-V.eq_of_beq _ e1];exact hv⟩
 ·obtain⟨d,h,b,l,e1,f1,s1,rfl,rfl,rfl⟩:=a
  refine bS (Es hv) λhi zz6=>?_;obtain rfl:=zz6
  refine⟨_,Oq _ _ _,λr' hr' p s g S P=>?_⟩
  exact GF h hi b (by lia) G (r:=r'.down (by decide)) S λq s' l' S'=>P q s' .next l' (.inl rfl) ⟨_,_,_,⟨MQ d i,CZ h hi b (by lia),QY b,by rw[HI,l];lia,e1,f1,s1,rfl,rfl,rfl⟩,S'⟩
 ·obtain⟨σ',e_,H',⟨d,h,b,l',e1,f1,s1,rfl,rfl,rfl⟩,S'⟩:=hJ
  exact P q s d h l b l' s1 S'
def Cj:Bl:=Option.rec ⟨[],[],[]⟩ (λe=>e) (src 1773)
def GU:cu:=(Cj.names,[])
def f5:Gc:=mL (ie Cj.body 2)
def gQ:cL:=[(cc "w",.ref 0),(cc "ev",.ref 8),(cc "m",.ref 9)]
def kI:Nat:=cc "i"
def iG(v:V):cL:=pt kI v gQ
def TV(ft:FT):Addr->Option FS:=uK (cfg ft) src aE 3
def NO(o:mT):Bool:=mT.rec false true false (λ_=>false) o
def RJ(o:mT):Bool:=mT.rec false false false (λv=>V.beq v (.bool true)) o
def Sh:FT:={rng:=[],len:=[(1,.at 19)],lf:=[],df:=[]}
def Ej(j:Nat)(t:Th):FT:={rng:=[],len:=[],lf:=[(1,.lit (.ofNat (j+1)),aM t.ex),(4,.lit (.ofNat (j+1)),iN (j+1)),(0,.lit (.ofNat (j+1)),rX (j+1) t),(5,.lit (.ofNat (j+1)),iN (aU (j+1))),(3,.lit (.ofNat (j+1)),t.br)],df:=[(0,.lit (.ofNat (aU (j+1))),some (pH (j+1) t))]}
def Vb(ex:Nat):V:=.fin 470 [(cc "number",dM),(cc "kind",iN ex),(cc "slots",.fls [eW ex]),(cc "text",.any),(cc "rows",.any),(cc "version",.any),(cc "special",.none)]
def Uu(hi:Bool)(ex:Nat):V:=.fin 1121 [(cc "addr",vE),(cc "kind",iN ex),(cc "slots",.fls [iK hi ex]),(cc "gen",.any),(cc "size",.any),(cc "serial",.any)]
def XJ(hi:Bool):Nat×Option Int×Option Int:=match hi with
 | true=>(26,some 2147483648,some 4294967295)
 | false=>(26,some (-2147483648),some 2147483647)
def Oc(hi:Bool)(ex:Nat):FT:={rng:=[(20,some 10,.none),XJ hi],len:=[],lf:=[(1,.at 20,aM ex),(4,.at 20,dM),(0,.at 20,Vb ex),(5,.at 20,vE),(2,.at 20,eW ex),(4,.at 27,s_ 27),(5,.at 27,s_ 58)],df:=[(0,.at 24,some (Uu hi ex))]}
def Si:FT:={rng:=[],len:=[(0,.at 19),(4,.at 19),(6,.add (.at 19) (.lit (-1))),(5,.at 19)],lf:=[],df:=[]}
def Qq:(Gq (cfg Sh) aE 30).1 GU f5.it gQ ⟨[],HL⟩ (λv Y=>bb (V.beq v (.rng (.lit 1) (.at 19))) (gZ HL Y.H))=true:=by kernel_rfl
def Me:lO (ie Cj.body 2)=true:=by kernel_rfl
def Qp:pZ f5.it=true:=by kernel_rfl
def Mf(v:V):mQ GU f5.t v gQ=some (iG v):=by kernel_rfl
def Mc:Cj.body.length=4:=by kernel_rfl
def Ux(j:Nat):Bool:=ob (bh qM j) λt=>db (c1 (cfg (Ej j t)) (TV (Ej j t)) GU 20) f5.b (iG (.int (.ofNat (j+1)))) ⟨[],HL⟩ λo loc Y=>bb (NO o) (bb (Gp (Tm 43) i8 (H9 Hc) Y.H) (fD gQ loc))
def GQ:aB Ux (cz 9 0)=true:=by kernel_rfl
def GS(ex:Nat)(hi:Bool):Bool:=db (c1 (cfg (Oc hi ex)) (TV (Oc hi ex)) GU 20) f5.b (iG dM) ⟨[],HL⟩ λo loc Y=>bb (mK o) (bb (Gp (Tm 43) i8 (H9 Hc) Y.H) (fD gQ loc))
def GT:aB (λex=>aB (GS ex) (lP ex)) [1,4,7,8,20,21,22,24]=true:=by kernel_rfl
def Ci:bc (cA (Tm 43)) gQ gQ=true:=by kernel_rfl
end
section
variable{c bj:Cx}{p q:Pt}{kx:Nat->Sy->Bool}{names:cu}{n:Nat}{x:Dp}{d:Md}{σ σ':Sg}{j i:Nat}{a a':V}
def xN{a:Act c}{loc e_:cL}{Y:Sy}{es:Hp}{e:Nat}{s:Shared}(S:aN a q loc Y s)(l:Le p q)(lp:Le a.p₀ p)(ZX:a.cv=[])(hl:p.ρ.length=es.length+e)(h:Gp (Tm es.length) i8 es Y.H=true)(h1:fD e_ loc=true)(h2:bc (cA (Tm es.length)) e_ e_=true):
  ∃q',Le p q'/\aN a q' e_ ⟨[],es++F_ e⟩ s:=by
 refine S.el λm g own tn F N nn rh len le cv pc ge os rl=>?_
 obtain⟨YO,lI,lτ⟩:=l;refine bV YO λr er=>?_
 have g_:∀k,k < es.length->(⟨p.ρ,q.I,q.τ⟩:Pt).ρ[k]? =q.ρ[k]?:=λk hk=>by
  show p.ρ[k]? =q.ρ[k]?
  rw[er,qI (by lia)]
 have X:cF c q ⟨p.ρ,q.I,q.τ⟩ (Tm es.length):=vk g_ λ_ h=>h
 refine iR (E0 aV es h rh) λa' b' ex k=>?_
 have hR:RH c ⟨p.ρ,q.I,q.τ⟩ 0 (es++F_ e) a':=RH.F_ e es (k _ X λj _ hj=>g_ j (by lia))
 have pm:(b'++(a'++(a.X++q.I))).Perm (own++(a.X++q.I)):=by
  rw[ex,<-gK]
  exact List.perm_append_comm.append_right _
 have xq:=News.perm N pm
 have io:=aY nn pm
 have l2:Le p ⟨p.ρ,q.I,q.τ⟩:=⟨iM.refl _,lI,lτ⟩
 refine⟨⟨p.ρ,q.I,q.τ⟩,l2,m,⟨⟨g,a',tn,F,λx hx=>xq x (j0 _ hx),by rw[sX] at io;exact(zo.mp io).2.1,hR,?_⟩,lp.trans l2,(λx v h=>by
  have h:look (code x) a.cv=some v:=h
  rw[ZX] at h;exact oN h),ae,ge,os⟩,K9 X e_ h2 λx v e=>rl x v (iS h1 _ _ e)⟩
 show p.ρ.length=(es++F_ e).length
 rw[hl,nE,qo]
def LZ{a:Act c}{loc:cL}{Y:Sy}{s:Shared}(S:aN a p loc Y s):Le a.p₀ p/\p.ρ.length=Y.H.length:=by
 refine S.el λm g own tn F N nn rh len le cv pc ge os rl=>?_
 exact⟨le,len⟩
def xS(d:Md)(i:Nat):Dp:={mD d 12 12 12 4 4 4 i 12 .none with da:=0}
def bN(h:aF d):aw (xS d i):=⟨h,⟨rfl,rfl⟩,rfl,(by decide:12∈KN),(by decide:12∈KN),.inr rfl,.inr rfl,⟨(by decide:12∈KN),rfl⟩,.inr rfl⟩
def PO(h:aF d)(hi:i<=d.tl.length):jA (xS d i):=⟨(jO (kh:=12) (k:=12) (ka:=12) (o1:=4) (o2:=4) (o3:=4) (k45:=12) (kv:=.none) h hi).b,(jO (kh:=12) (k:=12) (ka:=12) (o1:=4) (o2:=4) (o3:=4) (k45:=12) (kv:=.none) h hi).i⟩
def NR(h:aF d):cH (c.sg (sB d h c)) ((xS d i).s (bN h) c) Gl:=ql (bN h)
def HE(h:aF d):cH ((xS d i).cx (bN h) c) (sB d h c) Gl where
 n:=aa rfl (aa rfl (aa rfl (aa rfl (aa rfl (aa rfl (aa rfl (aa rfl (af rfl))))))))
 o:=aa ⟨rfl,rfl⟩ (aa ⟨rfl,rfl⟩ (aa ⟨rfl,rfl⟩ (af ⟨rfl,rfl⟩)))
 a:=af λ ρ I k y a=>ub (r:=(xS d i).raw h ⟨rfl,rfl⟩) (r':=(I1 d).raw h ⟨rfl,rfl⟩) rfl rfl h.es a
 g:=aa (λp us r=>aR (c:=(xS d i).cx (bN h) c) h.f0 r) (aa (λp us r=>aR (c:=(xS d i).cx (bN h) c) h.f1 r) (aa (λp us r=>aR (c:=(xS d i).cx (bN h) c) h.f2 r) (aa (λp us r=>aR (c:=(xS d i).cx (bN h) c) h.f3 r) (aa (λp us r=>aR (c:=(xS d i).cx (bN h) c) h.f4 r) (aa (λp us r=>aR (c:=(xS d i).cx (bN h) c) h.f5 r)
  (aa (λp us r=>aR (c:=(xS d i).cx (bN h) c) h.f6 r) (aa (λp us r=>aR (c:=(xS d i).cx (bN h) c) h.f7 r) (af λp us r=>aR (c:=(xS d i).cx (bN h) c) h.f9 r))))))))
 d:=aa ⟨λp k y r=>gh (c:=(xS d i).cx (bN h) c) h.fd r,fG _⟩ (af ⟨λp k y r=>gh (c:=(xS d i).cx (bN h) c) (k:=k) h.fl_ r,fG _⟩)
 b:=rfl
def Vh{e:SE}{i:Int}(h:e.ev σ.ν=i):ak σ (.int i) (.sym e):=λc p u hc r=>by
 refine bV r.inv λt q=>?_
 have:=RV.sym (c:=c) (p:=p) e t
 rw[hc,h] at this
 rw[q];exact this
def Ut(h1:ak σ a a'):ak σ (.tup [a]) (.tup [a']):=ax.tup (ax.one h1)
def vK{b b':V}(h1:ak σ a a')(h2:ak σ b b'):ak σ (.tup [a,b]) (.tup [a',b']):=ax.tup (ax.cons h1 (ax.one h2))
def GD{b b' d d':V}(h1:ak σ a a')(h2:ak σ b b')(h3:ak σ d d'):ak σ (.tup [a,b,d]) (.tup [a',b',d']):=ax.tup (ax.cons h1 (ax.cons h2 (ax.one h3)))
def IC{hi:Bool}{k:Nat}{a m e f:Int}(h1:σ.ν 26=a)(h2:σ.ν 58=m)(h3:σ.ν 28=e)(h4:σ.ν 29=f):ak σ (Bf hi k a m e f) (iK hi k):=by
 have lo:ak σ (.int (R8 hi a)) (tY hi):=by
  rcases hi with _|_
  ·exact bu h1
  ·exact Vh (e:=.add (.at 26) (.lit (-4294967296))) (by show σ.ν 26+ -4294967296=_;rw[h1];rfl)
 by_cases e1:k=22
 ·rw[e1]
  exact GD (ak.refl _) (ak.refl _) (GD (vK (ak.refl _) (bu h1)) (vK (ak.refl _) (bu h2)) (GD (ak.refl _) (ak.refl _) (vK (vK (ak.refl _) (bu h3)) (vK (ak.refl _) (bu h4)))))
 ·by_cases e2:k=24
  ·rw[e2]
   exact GD (ak.refl _) (ak.refl _) (Ut (vK (ak.refl _) lo))
  ·rw[show iK hi k=.tup [iN 1,tY hi] by unfold iK;split <;> first|contradiction|rfl,show Bf hi k a m e f=.tup [iN 1,.int (R8 hi a)] by unfold Bf;split <;> first|contradiction|rfl]
   exact vK (ak.refl _) lo
def IM(h:aF d)(hi9:10<=i)(hi:i<=d.tl.length)(G:bJ ((xS d i).cx (bN h) c)){hb:Bool}{ex:Nat}(hex:(d.B_ i).ex=ex)(hr:am ex=false)(hs:(d.B_ i).sp=false)(lo:Py hb<=(d.B_ i).a)(up:(d.B_ i).a<=PB hb)(ht:(d.B_ i).ts=[Bf hb ex (d.B_ i).a (d.B_ i).m (d.B_ i).c (d.B_ i).d]):aI ((xS d i).cx (bN h) c).σ (Oc hb ex):=by
 refine bS (kb h hi) λe m=>?_
 have iz:(xS d i).iz=i:=by
  rw[oF];show(i - 1)+1=i;omega
 have n20:((xS d i).cx (bN h) c).σ.ν 20=.ofNat i:=bl Int.ofNat iz
 have n24:((xS d i).cx (bN h) c).σ.ν 24=.ofNat (aU i):=bl (λi=>Int.ofNat (aU i)) iz
 have n26:((xS d i).cx (bN h) c).σ.ν 26=(d.B_ i).a:=rfl
 have n27:((xS d i).cx (bN h) c).σ.ν 27=(d.B_ i).b:=pF (h.ix _ m).1
 have n28:((xS d i).cx (bN h) c).σ.ν 28=(d.B_ i).c:=rfl
 have n29:((xS d i).cx (bN h) c).σ.ν 29=(d.B_ i).d:=rfl
 have n58:((xS d i).cx (bN h) c).σ.ν 58=(d.B_ i).m:=rfl
 have X:=PO h hi
 have hf:aw (xS d i):=bN h
 have ei:(i - 1)+1=i:=by omega
 have at_:∀{g:Nat} {f:Nat->Th->V} {c0 v:V},((xS d i).cx (bN h) c).σ.γ g=c0::jQ f d.tl 1->ak ((xS d i).cx (bN h) c).σ (f i (d.B_ i)) v->At ((xS d i).cx (bN h) c).σ g (((xS d i).cx (bN h) c).σ.ν 20) v:=λ{g f c0 v} hg hv=>by
  rw[n20]
  refine At.nat (i:=i) (u:=f i (d.B_ i)) ?_ hv
  have:=zn (f:=f) (c0:=c0) e
  rw[ei] at this
  rw[hg];exact this
 have q20:ak ((xS d i).cx (bN h) c).σ (iN i) dM:=bu n20
 have q24:ak ((xS d i).cx (bN h) c).σ (iN (aU i)) vE:=bu n24
 have gs:=fM (k:=ex) (σ:=((xS d i).cx (bN h) c).σ) n26 n27 n28 n29
 refine aI.four G (aa (fy (by rw[n20];exact gM.mpr hi9)) (af ?_)) ae
  (aa (at_ (f:=λ_ t=>aM t.ex) rfl (by rw[hex];exact ak.refl _)).lf (aa (at_ (f:=λi _=>iN i) rfl q20).lf (aa (at_ (f:=rX) rfl ?_).lf (aa (at_ (f:=λi _=>iN (aU i)) rfl q24).lf (aa (at_ (f:=λ_ t=>t.hv) rfl ?_).lf (aa (VZ hf X).lf (af (Xa hf X).lf))))))) (af (Tz.df ?_))
 ·rcases hb with _|_
  ·exact bI lo up
  ·exact bI lo up
 ·show ak _ (rX i (d.B_ i)) (Vb ex)
  unfold rX Vb
  rw[hs,hex]
  have hsl:ak ((xS d i).cx (bN h) c).σ (.fls (d.B_ i).sl) (.fls [eW ex]):=by
   unfold Th.sl
   rw[hex,hr]
   exact ax.fls (.one gs)
  exact iC.fin (.cons q20 (.cons (ak.refl _) (.cons hsl (.cons aD (.cons aD (.cons aD (.cons (ak.refl _) .nil)))))))
 ·show ak _ (d.B_ i).hv (eW ex)
  unfold Th.hv
  rw[hex,hr]
  exact gs
 ·refine⟨pH i (d.B_ i),?_,?_⟩
  ·show D0 d.tl 1 (((xS d i).cx (bN h) c).σ.ν 24)=_
   rw[n24]
   have:=xv d.tl (i:=1) e
   rw[show 1+(i - 1)=i by omega] at this
   exact this
  ·show ak _ (pH i (d.B_ i)) (Uu hb ex)
   unfold pH Uu
   rw[hex,ht]
   exact iC.fin (.cons q24 (.cons (ak.refl _) (.cons (ax.fls (.one (IC n26 n58 n28 n29))) (.cons aD (.cons aD (.cons aD .nil))))))
def IL(h:aF d)(G:bJ (c.sg (sB d h c))){t:Th}(e:d.tl[j]? =some t):aI (c.sg (sB d h c)).σ (Ej j t):=by
 have at_:∀{g:Nat} {f:Nat->Th->V} {c0:V},(sB d h c).γ g=c0::jQ f d.tl 1->At (sB d h c) g (.ofNat (j+1)) (f (j+1) t):=λ{g f c0} hg=>At.nat (i:=j+1) (by rw[hg];exact zn (f:=f) (c0:=c0) e) (ak.refl _)
 refine aI.four G ae ae (aa (at_ (f:=λ_ t=>aM t.ex) rfl).lfl (aa (at_ (f:=λi _=>iN i) rfl).lfl (aa (at_ (f:=rX) rfl).lfl (aa (at_ (f:=λi _=>iN (aU i)) rfl).lfl (af (at_ (f:=λ_ t=>t.br) rfl).lfl))))) (af (.inr ⟨pH (j+1) t,pH (j+1) t,rfl,?_,ak.refl _⟩))
 show D0 d.tl 1 (.ofNat (aU (j+1)))=_
 have:=xv d.tl (i:=1) e
 rw[Nat.add_comm 1 j] at this
 exact this
def zZ(v:V):bc (rA Gl) (iG v) (iG v)=bb (rV Gl v v) true:=by kernel_rfl
def Ms(i:Int):rV Gl (.int i) (.int i)=true:=by
 have e:V.beq (.int i) (.int i)=true:=cw.mpr rfl
 have e0:QA Gl (.int i) (.int i)=true:=by
  unfold QA
  rw[e];rfl
 unfold rV TG
 rw[e0];rfl
def zX(i:Int):bc (rA Gl) (iG (.int i)) (iG (.int i))=true:=by rw[zZ,Ms];rfl
def zY{v v':V}(h:ak σ v v'):∀x w,look x (iG v')=some w->∃u,look x (iG v)=some u/\ak σ u w:=by
 intro x w e
 unfold iG at e ⊢
 rw[iD,dC] at e ⊢
 by_cases q1:kI=x
 ·rw[if_pos q1] at e ⊢;obtain rfl:=oI e;exact⟨_,rfl,h⟩
 ·rw[if_neg q1] at e ⊢;exact⟨_,e,ak.refl _⟩
def Iu{o:mT}(h:NO o=true):o=.cont:=by induction o using mT.casesOn with
 | cont=>rfl
 | _=>exact bT h
def Ip{o:mT}(h:RJ o=true):∃v,o=.ret v/\v=.bool true:=by induction o using mT.casesOn with
 | ret v=>exact⟨v,rfl,V.eq_of_beq _ h⟩
 | _=>exact bT h
def Ep(G:bJ c){ft:FT}(F:aI c.σ ft):bD aq c 6 (TV ft):=kR (n:=0) (G.cfg F) (λ_ _ h=>nomatch h) (λ_ _ _ h=>nomatch h) G.src qe 3
def bD.up{m:Nat}{fns:Addr->Option FS}(F:bD kx c n fns)(h:n<=m):bD kx c m fns:=λf sp e=>⟨(F f sp e).1.le h,(F f sp e).2⟩
def Pm:HL=H9 Hc++F_ 3:=rfl
def sQ:(H9 Hc).length=43:=by kernel_rfl
def Mg(h:j < 9){t:Th}(ht:qM[j]? =some t):db (c1 (cfg (Ej j t)) (TV (Ej j t)) GU 20) f5.b (iG (.int (.ofNat (j+1)))) ⟨[],HL⟩ (λo loc Y=>bb (NO o) (bb (Gp (Tm 43) i8 (H9 Hc) Y.H) (fD gQ loc)))=true:=by
 have h1:Ux j=true:=ai GQ j ((cM 9).mpr ⟨fv _,by omega⟩)
 unfold Ux at h1
 rw[bK,ht] at h1
 exact h1
def Mh{ex:Nat}(h:ex∈[1,4,7,8,20,21,22,24]){hi:Bool}(h':hi∈lP ex):GS ex hi=true:=ai (f:=GS ex) (ai (f:=λex=>aB (GS ex) (lP ex)) GT ex h) hi h'
def Lb:CS:=λloc Y k=>bb (gZ HL Y.H) (bb (fD gQ loc) (k .next gQ ⟨[],HL⟩))
def xX{a b:Int}{i:Nat}{v:V}(h:(nV a b)[i]? =some v):v=.int (a+(i:Int))/\i < (b - a).toNat:=⟨tG h,by rw[<-kj];exact(oD h).1⟩
def xW{a b:SE}{x y:Int}(ha:a.ev σ.ν=x)(hb:b.ev σ.ν=y):ak σ (.rng a b) (.rng (.lit x) (.lit y)):=λc p u hc r=>by
 refine TA r.inv λz t t' v e im=>?_
 rw[e]
 refine RV.rng (t:=t) (u:=t') (v:=v) ?_
 rw[hc,ha,hb] at im
 exact im
def tH{x y:Int}(hx:x.natAbs<=1000)(hy:y.natAbs<=1000):Cs (.rng (.lit x) (.lit y))=some (x,y):=by
 show(Bool.rec .none (some (x,y)) (bb true (bb (Nat.ble x.natAbs 1000) (Nat.ble y.natAbs 1000))):Option (Int×Int))=_
 rw[s8 hx,s8 hy]
 rfl
def E1(h:aF d)(G:pA c):jK aq (c.sg (sB d h c)) GU 100 (ie Cj.body 2) Lb:=λr loc Y k h' p s g S P=>by
 refine ag h' λh1 h'=>ag h' λh2 h'=>?_
 have ZX:r.cv=[]:=r.hv
 have GG:=Md.g0 h G
 have S0:dA r.toAct (sB d h c) p gQ HL s:=(Ps S (λx y=>dE Y.H h1 y) (aQ _ h1).symm h2).sg0
 have nn:d.nn=d.tl.length+1:=rfl
 have hn:=h.nn
 have af6:(nV 1 (.ofNat d.nn)).length=d.tl.length:=by
  rw[kj]
  show((d.nn:Int) - 1).toNat=_
  omega
 have Fi:aI (c.sg (sB d h c)).σ Sh:=aI.four GG ae (af (by
  show((G1 d.tl).length:Int)=.ofNat d.nn
  unfold G1
  rw[je];rfl)) ae ae
 rw[nl Me]
 refine yN (c:=c.sg (sB d h c)) (p:=p) (by decide) rfl (J:=λi σ loc H=>σ=sB d h c/\loc=gQ/\H=HL) (x:=.rng (.lit 1) (.lit (.ofNat d.nn))) (all:=nV 1 (.ofNat d.nn)) Qp (.inr ⟨(1,.ofNat d.nn),tH (by decide) (by show d.nn<=1000;omega),rfl⟩)
  (λ{i σ loc H i' σ' e_ H' q u} j j' y=>by rw[j.1] at y;rw[j'.1];exact y) (λQ hQ=>?_) (λi v σ loc H hv j=>?_) (λq s l hJ=>?_)
 ·exact uN (c:=c.sg (sB d h c)) (σ:=sB d h c) (n:=99) GG rfl Fi C4 Qq S0 λq u v Y s' l S' hv hk=>ag hk λe1 e2=>hQ q u s' l ⟨sB d h c,gQ,HL,⟨rfl,rfl,rfl⟩,Ca S' (λx y=>dE Y.H e2 y) (aQ _ e2).symm,by
   rw[V.eq_of_beq _ e1] at hv
   exact xW (σ:=sB d h c) (a:=.lit 1) (b:=.at 19) rfl rfl rfl hv⟩
 ·refine nJ j λJ_ X_ YO=>?_;obtain rfl:=J_;obtain rfl:=X_;obtain rfl:=YO
  refine bS (xX hv) λev hi=>?_
  have hi:i < d.tl.length:=by rw[<-kj,af6] at hi;exact hi
  have e:d.tl[i]? =some d.tl[i]:=vr hi
  have eI:(1:Int)+(i:Int)=.ofNat (i+1):=by show(1:Int)+(i:Int)=((i+1:Nat):Int);omega
  rw[eI] at ev
  refine⟨iG (.int (.ofNat (i+1))),by rw[ev];exact Mf _,λr' hr' p s g S P=>?_⟩
  refine bS (LZ S) λlp hl=>?_
  have hl:p.ρ.length=(H9 Hc).length+3:=by rw[hl,Pm,nE,qo]
  by_cases h9:i < 9
  ·have ht:=(h.tk i _ e).1 h9
   have F:=IL h GG e
   refine vb (c:=c.sg (sB d h c)) (σ:=sB d h c) (n:=99) GG rfl F ((Ep GG F).up (by decide)) (Mg h9 ht) S λq f o loc Y s' l S' hF hk=>ag hk λk1 hk=>ag hk λk2 k3=>?_
   rw[Iu k1] at hF
   rw[show f=.cont from hF]
   rw[<-sQ] at k2
   obtain⟨q',l',S''⟩:=xN (e:=3) S' l lp rfl hl k2 k3 (by rw[sQ];exact Ci)
   exact P q' s' .cont l' (.inr rfl) ⟨_,_,_,⟨rfl,rfl,rfl⟩,S''⟩
  ·obtain⟨Zx,n3,hb,n4,n5,n6,n7⟩:=(h.tk i _ e).2 (by omega);refine bS Zx λn1 n2=>?_
   have et:d.B_ (i+1)=d.tl[i]:=by
    unfold Md.B_
    rw[show i+1 - 1=i from rfl,e]
   rw[<-et] at n1 n2 n3 n4 n5 n6 n7
   have hf:aw (xS d (i+1)):=bN h
   have GX:=hf.E_ G
   have F:=IM h (i:=i+1) (by omega) hi GX (hb:=hb) rfl n1 n3 n5 n6 n7
   have S1:=S.ren (NR (i:=i+1) h) (zX _) (ai (f:=kM) gy 0 (by decide) |> λld=>(al.mp ld).1)
   have S2:=xO (c:=c.sg ((xS d (i+1)).s hf c)) S1 (zY (v':=dM) (bu (by show Int.ofNat (xS d (i+1)).iz=_;rw[oF];rfl)))
   refine vb (c:=c.sg (sB d h c)) (σ:=(xS d (i+1)).s hf c) (n:=99) GX rfl F ((Ep GX F).up (by decide)) (Mh n2 n4) S2 λq f o loc Y s' l S' hF hk=>ag hk λk1 hk=>ag hk λk2 k3=>?_
   rw[nh k1] at hF
   rw[show f=.next from hF]
   rw[<-sQ] at k2
   obtain⟨q',l',S''⟩:=xN (e:=3) S' l lp rfl hl k2 k3 (by rw[sQ];exact Ci)
   refine P q' s' .next l' (.inl rfl) ⟨_,_,_,⟨rfl,rfl,rfl⟩,S''.ren (c:=c.sg (sB d h c)) (σ:=(xS d (i+1)).s hf c) (HE h) (by kernel_rfl) (ai (f:=kM) gy 0 (by decide) |> λld=>(al.mp ld).1)⟩
 ·refine J9 hJ λ σ' e_ H' Z9 S'=>?_;refine nJ Z9 λzz6 zz7 zz8=>?_;obtain rfl:=zz6;obtain rfl:=zz7;obtain rfl:=zz8
  exact P q _ .next _ _ s l (S'.gs0 ZX) rfl h'
end
section
variable{c bj:Cx}{p q:Pt}{kx:Nat->Sy->Bool}{names:cu}{n:Nat}{d:Md}{σ σ':Sg}
def TD(ft:FT)(k:Nat):CS:=c1 (cfg ft) aE GU 20 (ie Cj.body k)
def vW:CS:=pO (TD jo 0) (pO (TD jo 1) (pO Lb (pO (TD Si 3) AD)))
def Ma:src 1773=some Cj:=by kernel_rfl
def IN(h:aF d)(G:bJ (c.sg (sB d h c))):aI (c.sg (sB d h c)).σ Si:=aI.four G ae (aa (by
  show((G0 d.tl).length:Int)=.ofNat d.nn
  unfold G0
  rw[je];rfl) (aa (by
  show((G4 d.tl).length:Int)=.ofNat d.nn
  unfold G4
  rw[je];rfl) (aa (by
  show((G6 d.tl).length:Int)=.ofNat d.nn+ -1
  unfold G6
  rw[rR]
  show(d.tl.length:Int)=((d.tl.length+1:Nat):Int)+ -1
  lia) (af (by
  show((G5 d.tl).length:Int)=.ofNat d.nn
  unfold G5
  rw[je];rfl))))) ae ae
def zI(h:aF d)(G:pA c):A3 aq (c.sg (sB d h c)) GU 100 Cj.body vW:=by
 have GG:=Md.g0 h G
 have one:∀{ft:FT},aI (c.sg (sB d h c)).σ ft->∀k,jK aq (c.sg (sB d h c)) GU 100 (ie Cj.body k) (TD ft k):=λF k=>qz (n:=99) (GG.cfg F) (λ_ _ h=>nomatch h) (λ_ _ _ h=>nomatch h) C4 20 _
 have F0:=cq GG
 have:=fO (one F0 0) (fO (one F0 1) (fO (E1 h G) (fO (one (IN h GG) 3) sA)))
 rw[Kv Mc]
 exact this
def Kl:FS:=bg HL [⟨[.ref 0],.bool true,[]⟩]
def Mb:tF (u9 Cj vW) [] [.ref 0] HL [] [] i8 (.bool true)=true:=by kernel_rfl
def vU(h:aF d)(G:pA c):ah aq (c.sg (sB d h c)) 102 1773 Kl:=
 a8 (af ⟨u9 Cj vW,[],[.ref 0],.bool true,[],i8,(u8 (n:=99) (Md.g0 h G) Ma (zI h G)).le (by decide),ax.refl _,ak.refl _,ae,aV,Mb⟩)
def IY:c1 (cfg jo) (eD [(1773,Kl)]) eR 20 (ie gS 6) dP ⟨[],HL⟩ (λo loc Y=>RJ o)=true:=by kernel_rfl
def Ou(h:aF d)(G:pA c){r:Rn aq c eR 130}{s:Shared}{g:Flow->Shared->Prop}(S:dA r.toAct (sB d h c) p dP HL s)
  (P:∀q s u loc Y,aN (r.toAct.sg (sB d h c) []) q loc Y s->RV (c.sg (sB d h c)) q (.bool true) u->g (.ret u) s):wpAny (Mo c) r.A (exec (ie gS 6) r.env) g r.E s:=by
 have GG:=Md.g0 h G
 refine yh (n:=129) GG rfl (cq GG) (bQ GG _ (af ⟨(vU h G).le (by decide),rfl⟩)) IY S λq f o loc Y s' l S' hF hk=>?_
 refine aH (Ip hk) λv e1 e2=>?_
 rw[e1,e2] at hF
 refine aH hF λu e hu=>?_
 rw[e]
 exact P q s' u loc Y S' hu
def Pv:Pt:=⟨[],[],λ_ _=>False⟩
def AB{A:Around}{s f name qual scope body x u}{a:Arg}{R:Result->Shared->Prop}(FA:A5 c.K f name qual [a] body scope)(hA:A.frames=some [])(ZT:A.depth < recursionLimit)
  (KX:c.K.In s.heap) (G:s.heap.Ns mainGlobals c.mg) (Bn:s.heap.Ns builtinsNs c.mb) (NL:s.heap.NoLimit) (hx:a.arg=x) (hl:scope.names.lookup x=some .local)
  (h:∀(a':Act c) aJ,a'.env.scope=scope->a'.cv=[]->Fd a'->(A.deeper a'.env).frames=some a'.fl->a'.h₀=s.heap->a'.outer=[]->a'.gens=s.gens->a'.os=s.os->
   (∃m,m x=some u/\aK a' Pv m ⟨[],[]⟩ aJ)->(∀b o,s.heap.get? b=some o->aJ.heap.get? b=some o)->
   wpAny (Mo c) (A.deeper a'.env) (execs body a'.env) (λfl s'=>R (.ok (.ret (match fl with| .ret v=>v|_=>.none))) s') (λe s'=>wpAny (Mo c) (A.deeper a'.env) (leaving a'.env e) (λ_ YQ=>R (.error e) YQ) (λe' YQ=>R (.error e') YQ) s') aJ):codeAny (Mo c) A (.call (.ref f) ⟨[u],[]⟩) R s:=by
 refine FA.at_.casesOn λoc od osl doc pm an cdv ct ho hcd=>?_
 have X:c.K.In s.heap:=KX
 refine codeAny_call_function ZT (X _ _ ho) rfl FA.co FA.gen rfl (codeRec_of X hcd) (pb rfl rfl rfl FA.nodup _ _ _ _ ?_)
 refine wpAny_newFunctionEnv_cells FA.kind (λy hy=>(FA.loc y.1 (List.of_mem_zip hy).1).imp id λe=>⟨e,cellsFrom_some _ _ _ (.inl e)⟩) λah3 he s' x'=>?_
 subst he
 refine⟨NL.keeps x'.toInCall.keep,codeAny_func ?_⟩
 refine xE x'.toInCall.same λgg tk J_=>?_;obtain rfl:=J_
 have uB:=x'.toInCall.keep
 refine aH (Cl.news (h₀:=s.heap) (fG _) λn cc hm=>⟨x'.cell n cc (lookup_of_mem_nodup (cellsFrom_names scope.names 0 (s.heap.objs.size+1) [] [] rfl▸FA.cnd) hm),x'.above n cc hm⟩) λcells NC CA=>?_
 refine bS (qw CA) λc1 c2=>?_
 have cnd:(cells.map (·.1)).Nodup:=by rw[c1];exact List.pairwise_map.mpr x'.apart
 let a':Act c:={base:=s.heap,h₀:=s.heap,outer:=[],env:=newEnv scope s.heap.objs.size mainGlobals (cellsFrom (s.heap.objs.size+1) scope.names []) (qual++ ".<locals>.") (some f) cdv none builtinsNs,fl:=_::[],X:=cells,cv:=[],p₀:=Pv,gens:=s.gens,os:=s.os,KX:=KX,G:=G,Bn:=Bn,NL:=NL,st:=λ_ _ e=>e,ff:=trivial,hk:=FA.kind,hg:=rfl,hb:=rfl,hfl:=.inl ⟨rfl,rfl⟩}
 refine h a' _ rfl rfl ⟨_,_,_,rfl,rfl,rfl⟩ (Around.frames_deeper hA) rfl rfl rfl rfl ⟨_,?_,⟨⟨s.heap,[],.refl,⟨x'.toInCall.ns,uB,fG _⟩,λy hy=>?_,?_,rfl,rfl⟩,Le.refl Pv,(λy v e=>by exact oN e),ae,rfl,rfl⟩⟩ uB
 ·show bindL _ [(a.arg,u)] (λ_=>none) x=some u
  rw[hx]
  show(if scope.names.lookup x=some .local then λy=>if y=x then some u else none else λ_=>none) x=some u
  rw[if_pos hl,if_pos rfl]
 ·have hy:y∈cells:=by
   have hy:y∈[]++(cells++[]):=hy
   rw[List.nil_append,gN] at hy
   exact hy
  exact⟨(NC y hy).1,(NC y hy).2.1,(NC y hy).2.2⟩
 ·show((([]:fh)++(cells++[])).map (λz:Addr×Obj=>z.1)).Nodup
  rw[List.nil_append,gN]
  exact cnd
def tV:Str:="script"
def VB:Expr:=.Subscript (.Name tV ⟨1307,13,1307,19⟩) (.Slice none (some (.Constant (.int 40) 0 ⟨1307,21,1307,23⟩)) none ⟨1307,20,1307,23⟩) ⟨1307,13,1307,24⟩
def Qu:ie gS 0=.Assign [.Name tV ⟨1307,4,1307,10⟩] VB ⟨1307,4,1307,24⟩:=by kernel_rfl
def Mi:mJ eR tV=true:=by kernel_rfl
def Iv{vs:List Value}{ns:List Int}(h:IntsAre vs ns):bG c p (ns.map .int) vs:=by
 induction h with
 | nil=>exact .nil
 | cons n t _ ih=>exact .cons (.int n t) ih
def Qt{r:Rn aq c eR n}{m:Str->Option Value}{L:Addr}{vs:List Value}{ns:List Int}{s:Shared}{g:Flow->Shared->Prop}(hm:m tV=some (.ref L))(hg:s.heap.IsList L vs.toArray)(hi:IntsAre vs ns)(hl:ns.length<=4000)(S:aK r.toAct Pv m ⟨[],[]⟩ s)
  (P:∀q s',aN r.toAct q Du ⟨[],[.lst ((ns.take 40).map .int)]⟩ s'->g .next s'):wpAny (Mo c) r.A (exec (ie gS 0) r.env) g r.E s:=by
 rw[Qu]
 have hx:=fL (r:=r) Mi
 have S0:aN r.toAct Pv [] ⟨[],[]⟩ s:=⟨m,S,λx v e=>by exact oN e⟩
 refine S.el λg' own tn F N Zs hH hr le cv pc ge os=>?_
 refine wpAny_Assign_Name (Subscript_ (wpAny_Name (wpAny_loadName_local r.hk hx F.ns hm ?_) rfl)) rfl
 refine wpAny_Slice (kr (z:=none) rfl λlv m hp=>kr (z:=some 40) rfl λuv m' ZV=>?_)
 rw[evalPart_none]
 refine dF ?_
 have aO:=S0.toks m'
 refine aO.lay (b:=s.heap.objs.size+1) (x:=cJ (slicePick vs.toArray none (some 40) none).toList 0) (o:=.lst ((ns.take 40).map .int)) (lm _)
  (λg m l _ F N K=>kba_turn (value':=.Name "x" ⟨0,0,0,0⟩) (λ_=>rfl) (slice_list F N (l:=L) (items:=vs.toArray) hg hp ZV K (hsz:=by rw[iJ,hi.length,qH];lia)))
  (λq l e=>⟨_,_,e,_,0,Iv (kmk_upto hi (by decide)),rfl⟩) λh' q l i S=>(S m').store i hx λs' S'=>P q s' S'
variable{d0:Md}{sc:List Int}
def H2:gS.length=7:=by kernel_rfl
def Re{l:List Stmt}(h:l.length=7):l=[ie l 0,ie l 1,ie l 2,ie l 3,ie l 4,ie l 5,ie l 6]:=by
 refine dc h λa l e h=>dc h λb l e1 h=>dc h λc l e2 h=>dc h λd l e3 h=>dc h λx l e4 h=>dc h λf l e5 h=>dc h λg l e6 h=>?_
 rw[e,e1,e2,e3,e4,e5,e6,zp.mp h];rfl
def Qr(h:sc.length<=40){a:Act c}{s:Shared}(S:aN a p Du ⟨[],[.lst (sc.map .int)]⟩ s):dA a (sW sc h c) p Du H0 s:=by
 obtain⟨m,S,rl⟩:=S
 have ZF:∀v∈sc.map V.int,v.fr=true:=λv hv=>by
  refine aH (fw.mp hv) λi _ e=>?_
  rw[<-e];rfl
 refine⟨m,aK.sg (c:=c) (a:=a) (σ':=sW sc h c) S (λx y=>?_) rfl ae,λx v e=>?_⟩
 ·refine eC y λx1 y1 e1 J_ y2=>?_;obtain⟨b,dd,e2,vs,nn,rv,ex⟩:=J_
  refine⟨x1,y1,e1,⟨b,dd,e2,vs,nn,?_,ex⟩,y2⟩
  show bG (c.sg (sW sc h c)) p (sc.map V.int++[]) vs
  rw[gN]
  exact aR ZF rv
 ·refine aH (rl x v e) λu hu hr=>?_
  refine⟨u,hu,oR hr ?_⟩
  have e:look (code x) [(cc "script",V.ref 0)]=some v:=e
  rw[aX] at e
  by_cases q:cc "script" =code x
  ·rw[if_pos q] at e;obtain rfl:=oI e;rfl
  ·rw[if_neg q] at e;exact oN e
def WT:FT:={rng:=[],len:=[(9,.at 18)],lf:=[],df:=[]}
def nT:SE:=.add (.lit 4) (.fdiv (.at 18) (.lit 3))
def Qf:pZ nM.it=true:=by kernel_rfl
def Qh:(Gq (cfg WT) aE 30).1 eR nM.it dP ⟨[],HL⟩ (λv Y=>bb (V.beq v (.rng (.lit 0) nT)) (gZ HL Y.H))=true:=by kernel_rfl
def GB:look KA dP=.none:=by kernel_rfl
def Mm{a b:Int}{u:Value}(r:RV (c.sg σ) p (.rng (.lit a) (.lit b)) u):RV (c.sg σ') p (.rng (.lit a) (.lit b)) u:=by
 refine TA r.inv λz t t' v e im=>?_
 rw[e]
 exact RV.rng (c:=c.sg σ') (t:=t) (u:=t') (v:=v) im
def JT(c:Cx)(i:Nat)(σ:Sg)(loc:cL)(H:Hp):Prop:=∃(d:Md) (h:aF d),pT d (4+i)/\10<=d.tl.length/\σ=sB d h c/\loc=dP/\H=HL
def BR(h0:aF d0)(b0:pT d0 4)(l0:10<=d0.tl.length)(G:pA c){r:Rn aq c eR 130}{s:Shared}{g:Flow->Shared->Prop}(S:dA r.toAct (sB d0 h0 c) p dP HL s)
  (P:∀q s (d:Md) (h:aF d),Le p q->dA r.toAct (sB d h c) q dP HL s->g .next s):wpAny (Mo c) r.A (exec (ie gS 5) r.env) g r.E s:=by
 rw[nl BS]
 have G0:=Md.g0 h0 G
 have F:aI (c.sg (sB d0 h0 c)).σ WT:=aI.four G0 ae (af (by
  show((d0.sc.map V.int).length:Int)=d0.sc.length
  rw[gE])) ae ae
 let N:Int:=4+(d0.sc.length:Int).fdiv 3
 have hN:0<=N/\N<=40:=by
  have h1:=h0.sc
  have h2:(d0.sc.length:Int).fdiv 3=(d0.sc.length:Int) / 3:=Int.fdiv_eq_ediv_of_nonneg _ (by decide)
  show 0<=4+(d0.sc.length:Int).fdiv 3/\4+(d0.sc.length:Int).fdiv 3<=40
  rw[h2]
  omega
 refine yN (c:=c) (p:=p) (n:=130) (by decide) rfl (J:=JT c) (x:=.rng (.lit 0) (.lit N)) (all:=nV 0 N) Qf (.inr ⟨(0,N),tH (by decide) (by omega),rfl⟩) (λ{i σ loc H i' σ' e_ H' q u} a b y=>?_) (λQ hQ=>?_) (λi v σ loc H hv a=>?_) (λq s l hJ=>?_)
 ·exact Mm y
 ·exact uN (n:=129) G0 rfl F C4 Qh S λq u v Y s' l S' hv hk=>ag hk λe1 e2=>hQ q u s' l ⟨sB d0 h0 c,dP,HL,⟨d0,h0,b0,l0,rfl,rfl,rfl⟩,Ca S' (λx y=>dE Y.H e2 y) (aQ _ e2).symm,by
   rw[V.eq_of_beq _ e1] at hv
   exact xW (σ:=sB d0 h0 c) (a:=.lit 0) (b:=nT) rfl rfl rfl hv⟩
 ·obtain⟨d,h,b,l,rfl,rfl,rfl⟩:=a
  refine bS (xX hv) λ_ hi=>?_
  have hi:i < 40:=by omega
  refine⟨_,BU v,λr' hr' p s g S P=>?_⟩
  refine bV (I5 h b (by omega) l) λd' D=>?_
  exact I4 (D.st c G) (r:=r'.down (by decide)) (B8 S GB) λq s' h' l' S'=>P q s' .next l' (.inl rfl) ⟨_,_,_,⟨d',h',D.b,dK l D.l,rfl,rfl,rfl⟩,S'⟩
 ·refine J9 hJ λ σ' e_ H' Z9 S'=>?_;obtain⟨d,h,b,l',rfl,rfl,rfl⟩:=Z9
  exact P q s d h l S'
def DD(G:pA c){r:Rn aq c eR 130}{m:Str->Option Value}{L:Addr}{vs:List Value}{ns:List Int}{s:Shared}{R:Flow->Shared->Prop}(hm:m tV=some (.ref L))(hg:s.heap.IsList L vs.toArray)(hi:IntsAre vs ns)(hl:ns.length<=4000)(S:aK r.toAct Pv m ⟨[],[]⟩ s)
  (P:∀q0 q s' σ loc Y,aN ((r.ZM q0).toAct.sg σ []) q loc Y s'->R (.ret (.bool true)) s'):wpAny (Mo c) r.A (execs gS r.env) R r.E s:=by
 have h:(ns.take 40).length<=40:=List.length_take_le ..
 rw[Re H2]
 refine nH (Qt hm hg hi hl S λXW aJ aC=>?_)
 have aO:=Qr h aC
 refine nH (PV h G (r:=r) aO λmG b8 cK=>?_)
 refine nH (Dg (b9 h) G (r:=r.ZM mG) cK λCG B1 iq gI=>?_)
 refine nH (Er (b9 h) G (r:=r.ZM mG) gI λXV nP MZ ia=>?_)
 refine nH (IQ (b9 h) Q7 rfl G (r:=r.ZM mG) ia λXU nO d hd wf b Ze hs xo=>?_)
 refine nH (BR hd b (by lia) G (r:=r.ZM mG) xo λXT Qi d' Q_ Dn xm=>?_)
 refine nH (Ou Q_ G (r:=r.ZM mG) xm λUA vQ u loc Y V8 hu=>?_)
 rw[show u=.bool true from hu.inv]
 exact P mG UA vQ _ loc Y V8
def NE(P:Params):tD (Hd.YP P) wo=true:=by kernel_rfl
def U6(P:Params):IR.map (λf _=>pick ((Kf P).lookup f))=IR.map (λ_ s=>LO s):=by kernel_rfl
def RD(P:Params):IR.all (λf s=>bb (wP (Kf P) f) (B5 s))=true:=by kernel_rfl
def RE(P:Params):zb.all (λC l=>l.all λs=>ny (Kf P) C (Str.ofString s))=true:=by kernel_rfl
def U4(P:Params):HN.all (λC l=>l.all λz=>rf (Kf P) C (Str.ofString z.1) z.2)=true:=by kernel_rfl
def U5(P:Params):D1.all (λC f=>rj (Kf P) C f)=true:=by kernel_rfl
def RC(P:Params):Zm.all (oA (Kf P))=true:=by kernel_rfl
def Yg(P:Params):R9.all (sh (Kf P))=true:=by kernel_rfl
def U7(P:Params):wI (Kf P) 87 35=true:=by kernel_rfl
def U3(P:Params):(["code","at"].all λs=>findIn (Kf P) (.ref 87) (Str.ofString s) == some none)=true:=by kernel_rfl
def Ye(P:Params):T7 (Kf P):=⟨Eo (U6 P) (RD P),RE P,U4 P,U5 P,RC P,Yg P,U7 P,U3 P⟩
end
section
open PySem PySem.W PySem.W.X PyProof.Rows PySem.Calls PySem.Spec
open Hd
def DE:Bl:=Option.rec ⟨[],[],[]⟩ (λe=>e) (src 1780)
def HZ:src 1780=some DE:=by kernel_rfl
def Nn:DE.as.map (·.arg)=[tV]:=by kernel_rfl
def Nm:DE.body=gS:=by kernel_rfl
def Nl:DE.names=eR.1:=by kernel_rfl
def Nk:eR.1.lookup tV=some .local:=by kernel_rfl
def Nj(P:Params):nsIn (Kf P) mainGlobals "law" =some (some (.ref 1780)):=by kernel_rfl
def FU{o:Obj}(h:o.isFreed=false):alive o=some o:=by
 obtain⟨c,d,dt,sl⟩:=o
 induction dt using Data.casesOn <;> first|rfl|exact bF h
def Ky{s:Shared}{w:World}(y:Yf s=Ya w):(Kf w.params).In s.heap:=by
 have e:s.heap=H1 w.params:=bl Prod.fst y
 rw[e]
 exact L9 (λa o ha ho hf=>(abs_get ha ho).trans (FU hf)) wo (NE w.params)
def Qz:F8:={nu:=[],om:=[],ga:=[],de:=[],ze:=[],fl:=λ_=>false,ev:=λ_=>[],ho:=ae,hg:=ae,hd:=ae}
def Qw:jz callerA 131:=⟨by decide,by decide,λ_=>rfl⟩
def MF{l:List Arg}{x:Str}(h:l.map (·.arg)=[x]):∃a,l=[a]/\a.arg=x:=by
 match l,h with
 | [a],h=>exact⟨a,rfl,List.head_eq_of_cons_eq h⟩
def N7{c:Cx}{h:Heap}(Q:T7 c.K)(X:c.K.In h)(G:h.Ns mainGlobals c.mg)(B:∀x:Str,x≠"__name__"->c.mb x=bootBuiltins x):pA c where
 cfg σ' {ft} F:=OJ (h:=h) (c:=c.sg σ') Q X G B F
 src:=Q.fns
def DC{c:Cx}(G:pA c):∃name qual scope a,A5 c.K 1780 name qual [a] gS scope/\scope.names=eR.1/\a.arg=tV:=by
 refine mE (G.src 1780 DE HZ) λname qual scope FA hsn _=>?_
 refine aH (MF Nn) λa ea ex=>?_
 exact⟨name,qual,scope,a,by rw[<-ea,<-Nm];exact FA,hsn.trans Nl,ex⟩
def Hr(ns:List Int):PySem.Challenge.rw_up0021_01.row.claim.post [ofPy (PyData.list (List.map PyData.int ns))] (.bool true) [ofPy (PyData.list (List.map PyData.int ns))]=true:=by kernel_rfl
def P4:WalkX q loose (XL q []) Yf Ya PySem.Challenge.rw_up0021_01.row.toRowW dl [] λf vs=>PySem.call f vs:=by
 intro w GI aJ mg mb G y fa o pm cd doc dV kV ho hd hcd hD hmg hg args vals as L af8 ag0 hrd hwl hlo
 wrow_args af8 ag0 hrd hwl hlo
 rename_i ns hs ah8 hL1 hr1 hl2 as4 as3 La vs as0 hL ra w1 r0 hI hr hc1 hc2
 obtain⟨K,Q,X,e1⟩:∃K:Frag,T7 K/\K.In aJ.heap/\mg "law" =some (.ref 1780):=⟨Kf w.params,Ye w.params,λa o e=>L.keeps a o (Ky y a o e),mg_of (λa o e=>L.keeps a o (Ky y a o e)) G.T.g (Nj w.params)⟩
 have efa:fa=1780:=by
  have h2:mg "law" =some (.ref fa):=hmg
  rw[e1] at h2
  obtain rfl:=nF (oI h2);rfl
 subst efa
 let c:Cx:=⟨w,K,Qz.s0,mg,mb⟩
 have GR:pA c:=N7 (c:=⟨w,K,Qz.s0,mg,mb⟩) Q X G.T.g G.T.builtins
 refine PS (DC GR) λname qual scope a FA hsn ex=>?_
 have hlen:ns.length<=4000:=by
  have:¬(63:Int) < ns.length:=hc1
  omega
 refine enter_call (AB (c:=c) FA rfl (by decide) X G.T.g G.T.b G.T.nolimit ex (by rw[hsn];exact Nk) λa' b8 h1 h2 h3 h4 h5 h6 h7 h8 h9 h10=>?_)
 refine aH h9 λm hm S=>?_
 let r:Rn aq c eR 130:={toAct:=a',A:=callerA.deeper a'.env,E:=λe s'=>wpAny (Mo c) (callerA.deeper a'.env) (leaving a'.env e) (λ_ YQ=>GoodWG PySem.Challenge.rw_up0021_01.row.claim (classAt GI.heap) (ExcName.means GI.heap) [ofPy (PyData.list (List.map PyData.int ns))] aJ (.error e) YQ) (λe' YQ=>GoodWG PySem.Challenge.rw_up0021_01.row.claim (classAt GI.heap) (ExcName.means GI.heap) [ofPy (PyData.list (List.map PyData.int ns))] aJ (.error e') YQ) s',fd:=h3,hA:=h4,hn:=by rw[h1,hsn],hv:=h2,room:=Qw.deeper,err:=λ_ _ _ _ _ _ _ _ _ h=>nomatch h}
 refine DD GR (r:=r) hm (isList_stays h10 hL) hI hlen S λq0 q s' σ loc Y S'=>?_
 refine S'.el λm' g own tn F N nn rh len le cv pc ge os rl=>?_
 have keep:∀b o,aJ.heap.get? b=some o->s'.heap.get? b=some o:=λb o e=>by
  have e:a'.h₀.get? b=some o:=by rw[h5];exact e
  refine F.keep b o (tn.other b o e ?_)
  show b∉jy a'.outer
  rw[h6]
  exact nofun
 refine⟨.inl ⟨.bool true,.bool true,[],rfl,λcls=>rfl,.bool true,Hr ns,λ_=>⟨List.nodup_nil,λ_ h=>nomatch h⟩⟩,.of_keep keep,?_,?_⟩
 ·exact os.trans h8
 ·have e:s'.gens= #[]:=ge.trans (h7.trans hg)
  rw[e]
  exact λy hy=>by simp at hy
end
section
open PySem PySem.W PyProof.Rows PySem.W.Fast
abbrev rP:Program:=PySem.Challenge.rw_up0021_01.row.prog
def XG:namesResolve rP=true:=by rw[te8377067652309620493];kernel_rfl
def XS:(importedModules rP.main.body).all cThrough.contains=true:=by rw[te5923862056798008813];kernel_rfl
def XR:readsOut rP rP.main.body (Str.ofString "vars")=false:=by rw[te13343964577679436407];kernel_rfl
def XQ:readsOut rP rP.main.body (Str.ofString "dir")=false:=by rw[te13343964577679436407];kernel_rfl
def XO:readsOut rP rP.main.body (Str.ofString "locals")=false:=by rw[te13343964577679436407];kernel_rfl
def XN:noRoadLSs {strict:=false,foot:=none,bare:=[]} rP.main.body=true:=by rw[te8326940854005059898];kernel_rfl
def XF:noRoadLSs {strict:=!(importedModules rP.main.body).all cThrough.contains,foot:=none,bare:=List.filter (readsOut rP rP.main.body) [Str.ofString "vars",Str.ofString "dir",Str.ofString "locals"]} rP.main.body=true:=by
 rewrite [XS]
 simp only [List.filter,XR,XQ,XO]
 exact XN
def XE:(namesMeet rP rP.main.body λx n=>attrL n)=true:=by rw[te17119622794617984870,te17868728402115742887];kernel_rfl
def XD:((moduleNames rP.main.body).isEmpty || lookedIntoSs (moduleNames rP.main.body) rP.main.body)=true:=by rw[te9807087744658564304,te12862048085361865435];kernel_rfl
def XC:sreFenced rP.main=true:=by rw[te11788848310118352699];kernel_rfl
def XB:(rP.boundNames.all λn=>!worldNames.contains n)=true:=by rw[te18344453789297297638,te14412699480532031325,sDec_eq];kernel_rfl
def Qs:PySem.Challenge.rw_up0021_01.row.wellSaid=true:=by
 unfold OpenRow.wellSaid OpenRow.partSaid looksOpen
 with_reducible repeat' refine look_both ?_ ?_
 all_goals first|with_reducible exact XG|with_reducible exact XF|with_reducible exact XE|with_reducible exact XD|with_reducible exact XC|with_reducible exact XB|((try rw[te18344453789297297638]);(try rw[named_eq]);(try rw[te13582783067957832011]);(try rw[te4857012375875476094]);(try rw[te5318747976498570220]);(try rw[te12749700546528644094]);(try rw[te2357444279172408678]);(try rw[sDec_eq]);kernel_rfl)
def Mj(h:PySem.Challenge.rw_up0021_01.row.wellSaid=true):PySem.Challenge.rw_up0021_01.wellSaid=true:=by
 unfold OpenLaw.wellSaid
 with_reducible repeat' refine look_both ?_ ?_
 ·exact h
 all_goals ((try rw[te8326940854005059898]);(try rw[te17119622794617984870]);(try rw[te10792542408131684335]);(try rw[te797321630700447069]);(try rw[te9558739934217749035]);(try rw[te16286561074155671207]);(try rw[te10501279942588096481]);(try rw[te8179353310426384613]);(try rw[named_eq]);(try rw[te6984425678791042302]);(try rw[te482687673346738481]);(try rw[te12879404354523853263]);(try rw[te9572597257264208301]);(try rw[sDec_eq]);kernel_rfl)
end
def holds_:PySem.Challenge.rw_up0021_01.Holds:=RY (Mj Qs) P4
end
end Z1
theorem PySem.Challenge.cw_up0021_01_holds : PySem.Challenge.rw_up0021_01.Holds :=
  Z1.holds_
