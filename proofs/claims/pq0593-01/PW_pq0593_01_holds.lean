import PyProof.Rows.All
import Wide.All
import OpenK.AllK
import Wide.FinOn
import Lean
import PySem.Challenge.RW_pq0593_01
set_option Elab.async false
set_option linter.all false
set_option maxRecDepth 100000
set_option genSizeOf false
set_option genInjectivity false
set_option genCtorIdx false
set_option tactic.hygienic false
namespace Mine.H
open PySem PySem.W PySem.Calls PyProof.Rows
noncomputable abbrev pw:Program:=PySem.Challenge.pw_pq0593_01
noncomputable abbrev N:Value:=.none
noncomputable abbrev al(i:Int)(t:Tok):Value:=.int i t
noncomputable abbrev S(s:String)(t:Tok):Value:=.str (Str.ofString s) t
noncomputable abbrev B(s:String):Value:=.builtin s
noncomputable abbrev T(s:String):Value:=.type s
noncomputable abbrev R(a:Addr):Value:=.ref a
noncomputable def eS(P:Params)(n:Str)(t:Tok)(v:Value):DictEntry:=⟨if n.cps.isEmpty then 0 else reduceHash (P.strHash n.cps),.str n t,v⟩
noncomputable abbrev en(P:Params)(n:String)(t:Tok)(v:Value):DictEntry:=eS P (Str.ofString n) t v
noncomputable def bH(l:List Value):Obj:=⟨T "tuple",none,.seq ⟨l⟩ 0,⟨[]⟩⟩
noncomputable def o0(c:Value)(l:List Value):Obj:=⟨c,none,.fields ⟨l⟩,⟨[]⟩⟩
noncomputable def iX(l:List Value):Obj:=o0 .none l
noncomputable def xH(l:List Value):Obj:=o0 (T "code") l
noncomputable def ez(c:Value)(l:List DictEntry)(n:Nat):Obj:=⟨c,none,.dict ⟨l⟩ n,⟨[]⟩⟩
noncomputable def kO(n:String)(t a:Nat)(s:Option Value)(b:Value)(bs mro L0:List Value):Obj:=⟨T "type",none,.cls {name:=Str.ofString n,bases:=bs,mro:=R a::mro,ns:=a-1,qualname:=Str.ofString n,hasDict:=true,subclasses:=L0},⟨[s,none,some (S n t),some (S n (t+8)),some b,some (.bool true)]⟩⟩
noncomputable def dz:List Stmt:=behindTheImports pw
noncomputable def sT(i:Nat):Stmt:=dz.getD i (.Pass ⟨0,0,0,0⟩)
noncomputable def sM(i j:Nat):Stmt:=match sT i with|.ClassDef _ _ _ b _ _ _ _ _ _ _=>b.getD j (.Pass ⟨0,0,0,0⟩)|_=>.Pass ⟨0,0,0,0⟩
noncomputable def p0:Pos:=⟨0,0,0,0⟩
noncomputable def rc:Stmt->DefRec|.FunctionDef n a b _ _ _ sc _ _ pos=>⟨n,a,b,sc,pos⟩|_=>⟨Str.ofString "",⟨[],[],none,[],[],none,[]⟩,[],{kind:=.function,names:=[],isGenerator:=false,isCoroutine:=false,more:=[]},p0⟩
noncomputable def fd(r:DefRec)(q:Str)(g:Addr)(d m c:Value):FuncData:={name:=r.name,qualname:=q,params:=r.params,body:=.stmts r.body,scope:=r.scope,globals:=g,closure:=[],defaults:=d,kwdefaults:=.none,doc:=.none,pyModule:=m,code:=c,builtins:=0}
noncomputable def xI:List Str->Nat->List Value|[],_=>[]|s::r,t=>.str s t::xI r (t+1)
noncomputable def sv(l:List String)(t:Nat):List Value:=xI (l.map Str.ofString) t
noncomputable def iv:List Int->Nat->List Value|[],_=>[]|s::r,t=>.int s t::iv r (t+1)
noncomputable def cO(n q:Str)(t l ar fl a:Nat)(b:Bool)(x:List Value)(k:Nat):Obj:=xH ([.str n t,.str q (t+1),S "/claim/cut.py" (t+2),al l 0,al ar 0,al 0 0,al 0 0,al fl 0,R a,.bool b,al 181 0,R (a+1)]++(x++[al (t+3+k:Nat) 0,al l 0,S "/claim/cut.py" (t+4+k)]))
noncomputable abbrev fr(c d:Nat)(m:Value):Obj:=⟨T "frame",none,.plain,⟨[some (R c),some (R 3),some (R d),none,some m,none,some (R 0)]⟩⟩
noncomputable def lo(r:DefRec):Option (List Str×List Str):=localNames r.params r.scope (.stmts r.body)
noncomputable def nO(r:DefRec):Nat:=match lo r with|some _=>7|none=>5
noncomputable def nT(r:DefRec):Nat:=match lo r with|some l=>l.1.length+6|none=>6
noncomputable def fo(m d:Value)(r:DefRec)(q:Str)(a t:Nat):List Obj:=let g b l k(x:List Value):List Obj:=bH []::iX []::(b++[⟨.none,none,.func (fd r q 0 .none .none .none),⟨[]⟩⟩,cO r.name q t r.pos.line r.params.args.length 3 a true x k,⟨T "function",none,.func (fd r q 3 d m (R (a+l))),⟨[]⟩⟩]);match lo r with|some l=>g [bH (xI l.1 (t+3)),bH []] 5 l.1.length [N,R (a+2),R (a+3),R (a+4)]|none=>g [] 3 0 [N,N,N,R (a+2)]
noncomputable def ru(m d:Value)(g:Nat->Stmt)(c:String):Nat->Nat->Nat->Nat->List Obj|0,_,_,_=>[]|n+1,i,a,t=>let r:=rc (g i);fo m d r ⟨((Str.ofString c).cps.toList++r.name.cps.toList).toArray⟩ a t++ru m N g c n (i+1) (a+nO r) (t+nT r)
noncomputable def re(P:Params)(g:Nat->Stmt):Nat->Nat->Nat->Nat->List DictEntry|0,_,_,_=>[]|n+1,i,a,t=>let r:=rc (g i);eS P r.name (t+nT r-1) (R (a+nO r-1))::re P g n (i+1) (a+nO r) (t+nT r)
noncomputable def rt(g:Nat->Stmt):Nat->Nat->Nat->List Value|0,_,_=>[]|n+1,i,a=>let r:=rc (g i);al r.pos.line 0::al r.pos.col 0::R (a+nO r-2)::rt g n (i+1) (a+nO r)
noncomputable def ks(P:Params):Nat->List (String×Int)->List DictEntry|_,[]=>[]|t,(s,i)::r=>en P s (t+1) (al i t)::ks P (t+2) r
noncomputable def bs(P:Params)(f:String->Value):Nat->List String->List DictEntry|_,[]=>[]|t,s::r=>en P s t (f s)::bs P f (t+1) r
noncomputable def kE(P:Params)(n:String)(l t:Nat)(m:Value)(q:Bool)(ms:List DictEntry):List DictEntry:=en P "__module__" (t+5) m::((bif q then[en P "__qualname__" (t+7) (S n (t+6))]else[])++en P "__firstlineno__" (t+9) (al l (t+8))::ms)
noncomputable abbrev np:Obj:=o0 (T "builtin_function_or_method") [B "type.__prepare__",T "type"]
noncomputable abbrev ni(a:Nat):Obj:=o0 (T "builtin_function_or_method") [B "object.__init_subclass__",R a]
noncomputable abbrev su(a:Nat):Obj:=o0 (T "super") [R a,R a,R a]
noncomputable abbrev gd(t a:Nat):Obj:=o0 (T "getset_descriptor") [S "__dict__" t,R a,B "function.__dict__",B "function.__dict__#set"]
noncomputable abbrev gw(t a:Nat):Obj:=o0 (T "getset_descriptor") [S "__weakref__" t,R a,B "ExceptionGroup.__weakref__",N]
noncomputable def cF(P:Params)(n:String)(l t:Nat)(m:Value)(b:Nat)(bs:List Value)(ms:List DictEntry)(tl:List Value):List Obj:=[bH bs,np,ez (T "dict") (kE P n l t m true ms) (ms.length+3),bH [],iX tl,cO (Str.ofString n) (Str.ofString n) t l 0 0 (b+3) false [N,N,N,N] 0,fr (b+5) (b+2) m]
noncomputable def ev:List Obj->List Obj|[]=>[]|[x]=>[x]|x::_::r=>x::ev r
noncomputable def od:List Obj->List Obj|[]=>[]|[_]=>[]|_::y::r=>y::od r
noncomputable def se:Nat->List Obj->BT|0,_=>.nil|_+1,[]=>.nil|k+1,x::r=>.node x (se k (ev r)) (se k (od r))
noncomputable def kx(l:List Obj)(n toks:Nat)(os:OsState):SharedT:=⟨se 12 l,n,{},⟨[]⟩,boot_drawn,toks,os⟩
noncomputable def xJ:Env:={scope:=pw.main.scope,locals:=mainNs,globals:=mainNs,cells:=[],code:=R 13,frame:=some 14}
noncomputable def cE:Code:=.body dz xJ
noncomputable def lw(i n:Nat)(pos:Pos):Thread:=W.piecesOf ((dz.drop i).take n) xJ cE pos [topFrame p0]
noncomputable def jU(w:World)(n:Nat)(s:SharedT)(t:Thread):=PySem.W.Fast.tw10110043849684766642 PySem.W.Fast.tw14364793385576792824 pw w 11 (some (R 6)) 1 n s t
noncomputable abbrev m0:Value:=(S "__main__" 164)
noncomputable abbrev m1:Value:=(S "kindkeep.diags" 194)
noncomputable abbrev m2:Value:=(S "kindkeep.types" 347)
noncomputable abbrev m3:Value:=(S "kindkeep.hosts" 704)
noncomputable abbrev m4:Value:=(S "kindkeep.relbase" 1029)
noncomputable abbrev m5:Value:=(S "kindkeep.relsig" 1455)
noncomputable abbrev m6:Value:=(S "law_pq0593_01" 1818)
noncomputable def B8(P:Params):List DictEntry:=[re P (sM 7) 1 0 30 219,[en P "__static_attributes__" 229 (R 37)]].flatten
noncomputable def B9(P:Params):List DictEntry:=[re P (sM 8) 1 0 51 251,[en P "__static_attributes__" 262 (R 58)]].flatten
noncomputable def Ca(P:Params):List DictEntry:=[re P (sM 9) 1 0 71 279,[en P "__static_attributes__" 289 (R 78)]].flatten
noncomputable def Cb(P:Params):List DictEntry:=[re P (sM 10) 4 0 90 305,[en P "__static_attributes__" 339 (R 118)]].flatten
noncomputable def Cc(P:Params):List DictEntry:=[re P (sM 60) 3 0 157 475,[en P "__static_attributes__" 510 (R 178)]].flatten
noncomputable def Cd(P:Params):List DictEntry:=[re P (sM 84) 17 0 335 722,[en P "__static_attributes__" 872 (R 454)]].flatten
noncomputable def Ce(P:Params):List DictEntry:=[re P (sM 122) 5 0 585 1076,[en P "__static_attributes__" 1125 (R 620)]].flatten
noncomputable def Cg(P:Params):List DictEntry:=[re P (sM 123) 7 0 634 1145,[en P "__static_attributes__" 1217 (R 683)]].flatten
noncomputable def Ch(P:Params):List DictEntry:=[re P (sM 176) 1 0 1048 1771,[en P "__static_attributes__" 1781 (R 1055)]].flatten
noncomputable def Ci(P:Params):List DictEntry:=[re P (sM 177) 1 0 1067 1797,[en P "__static_attributes__" 1807 (R 1074)]].flatten
noncomputable def kz(P:Params)(x2:Obj)(x3:Obj)(uG:Obj):List Obj:=[[ez (T "dict") ([[en P "__name__" 1 (S "builtins" 160),en P "__doc__" 2 (B "builtins.__doc__:str#opaque"),en P "__package__" 3 (B "builtins.__package__:str#opaque"),en P "__loader__" 4 (B "builtins.__loader__:shared#opaque"),en P "__spec__" 5 (B "builtins.__spec__#opaque")],bs P .builtin 6 ["__build_class__","__import__","abs","all","any","ascii","bin","breakpoint","callable","chr","compile","delattr","dir","divmod","eval","exec","format","getattr","globals","hasattr","hash","hex","id","input","isinstance","issubclass","iter","aiter","len","locals","max","min","next","anext","oct","ord","pow","print","repr","round","setattr","sorted","sum","vars"],[en P "None" 50 N,en P "Ellipsis" 51 .ellipsis,en P "NotImplemented" 52 .notImplemented,en P "False" 53 (.bool false),en P "True" 54 (.bool true)],bs P .type 55 ["bool","memoryview","bytearray","bytes","classmethod","complex","dict","enumerate","filter","float","frozenset","property","int","list","map","object","range","reversed","set","slice","staticmethod","str","super","tuple","type","zip"],[en P "__debug__" 81 (.bool true)],bs P .type 82 ["BaseException","BaseExceptionGroup","Exception","GeneratorExit","KeyboardInterrupt","SystemExit","ArithmeticError","AssertionError","AttributeError","BufferError","EOFError","ImportError","LookupError","MemoryError","NameError","OSError","ReferenceError","RuntimeError","StopAsyncIteration","StopIteration","SyntaxError","SystemError","TypeError","ValueError","Warning","FloatingPointError","OverflowError","ZeroDivisionError","BytesWarning","DeprecationWarning","EncodingWarning","FutureWarning","ImportWarning","PendingDeprecationWarning","ResourceWarning","RuntimeWarning","SyntaxWarning","UnicodeWarning","UserWarning","BlockingIOError","ChildProcessError","ConnectionError","FileExistsError","FileNotFoundError","InterruptedError","IsADirectoryError","NotADirectoryError","PermissionError","ProcessLookupError","TimeoutError","IndentationError","_IncompleteInputError","IndexError","KeyError","ModuleNotFoundError","NotImplementedError","PythonFinalizationError","RecursionError","UnboundLocalError","UnicodeError","BrokenPipeError","ConnectionAbortedError","ConnectionRefusedError","ConnectionResetError","TabError","UnicodeDecodeError","UnicodeEncodeError","UnicodeTranslateError","ExceptionGroup"],[en P "EnvironmentError" 151 (T "OSError"),en P "IOError" 152 (T "OSError"),en P "open" 153 (B "open"),en P "quit" 154 (B "builtins.quit#opaque"),en P "exit" 155 (B "builtins.exit#opaque"),en P "copyright" 156 (B "builtins.copyright#opaque"),en P "credits" 157 (B "builtins.credits#opaque"),en P "license" 158 (B "builtins.license#opaque"),en P "help" 159 (B "builtins.help#opaque")]].flatten) 159],[ez (T "dict") [en P "builtins" 162 (R 4),en P "__main__" 163 (R 5)] 2,x2,x3,⟨(T "module"),(some 0),.plain,⟨[]⟩⟩,⟨(T "module"),(some 3),.plain,⟨[]⟩⟩,ez (T "dict") [] 0,bH [],iX [],xH [(S "<module>" 176),(S "<module>" 177),(S "/claim/cut.py" 178),(al 1 0),(al 0 0),(al 0 0),(al 0 0),(al 0 0),(R 7),(.bool false),(al 175 0),(R 8),N,N,N,N,(al 179 0),(al 1 0),(S "/claim/cut.py" 180)],⟨(T "frame"),none,.plain,⟨[some (R 9),some (R 3),some (R 3),none,some m0,none,some (R 0)]⟩⟩,bH [],uG,xH [(S "<module>" 182),(S "<module>" 183),(S "/claim/cut.py" 184),(al 1 0),(al 0 0),(al 0 0),(al 0 0),(al 0 0),(R 11),(.bool false),(al 181 0),(R 12),N,N,N,N,(al 185 0),(al 1 0),(S "/claim/cut.py" 186)],⟨(T "frame"),none,.plain,⟨[some (R 13),some (R 3),some (R 3),none,some m0,none,some (R 0)]⟩⟩]].flatten
noncomputable def lz(P:Params):List Obj:=[ru m0 N sT "" 1 0 15 187,cF P "KeepError" 10 208 m1 22 [(T "Exception")] (B8 P) (rt (sM 7) 1 0 30),[bH [(S "" 218)]],ru m1 (R 29) (sM 7) "KeepError." 1 0 30 219,[bH [(S "number" 227),(S "text" 228)],ez (T "dict") (kE P "KeepError" 10 208 m1 false (B8 P++[en P "__weakref__" 231 (R 40),en P "__doc__" 232 N])) 3,kO "KeepError" 206 39 (some (R 22)) (B "Exception.__new__") [(T "Exception")] [(T "Exception"),(T "BaseException"),(T "object")] [(R 60),(R 80)],gw 230 39,su 39,ni 39],cF P "TooDeep" 15 239 m1 43 [(R 39)] (B9 P) (rt (sM 8) 1 0 51),[bH [(al 2589 249),(S "" 250)]],ru m1 (R 50) (sM 8) "TooDeep." 1 0 51 251,[bH [(S "number" 260),(S "text" 261)],ez (T "dict") (kE P "TooDeep" 15 239 m1 false (B9 P++[en P "__doc__" 263 N])) 2,kO "TooDeep" 237 60 (some (R 43)) (B "Exception.__new__") [(R 39)] [(R 39),(T "Exception"),(T "BaseException"),(T "object")] [],su 60,ni 60],cF P "HostFault" 20 268 m1 63 [(R 39)] (Ca P) (rt (sM 9) 1 0 71),[bH [(S "" 278)]],ru m1 (R 70) (sM 9) "HostFault." 1 0 71 279,[bH [(S "number" 287),(S "text" 288)],ez (T "dict") (kE P "HostFault" 20 268 m1 false (Ca P++[en P "__doc__" 290 N])) 2,kO "HostFault" 266 80 (some (R 63)) (B "Exception.__new__") [(R 39)] [(R 39),(T "Exception"),(T "BaseException"),(T "object")] [],su 80,ni 80]].flatten
noncomputable def mF(P:Params):List Obj:=[cF P "Notes" 25 295 m1 83 [] (Cb P) (rt (sM 10) 4 0 90),ru m1 N (sM 10) "Notes." 4 0 90 305,[bH [(S "rows" 338)],ez (T "dict") (kE P "Notes" 25 295 m1 false (Cb P++[en P "__dict__" 341 (R 121),en P "__weakref__" 343 (R 122),en P "__doc__" 344 N])) 4,kO "Notes" 293 120 none (B "object.__new__") [(T "object")] [(T "object")] [],gd 340 120,gw 342 120,su 120,ni 120,bH [(al 1 349),(S "any" 439)],bH [(al 1 349),(S "unknown" 440)],bH [(al 1 349),(S "never" 441)],bH [(al 1 349),(S "void" 442)],bH [(al 1 349),(S "undefined" 443)],bH [(al 1 349),(S "null" 444)],bH [(al 1 349),(S "string" 445)],bH [(al 1 349),(S "number" 446)],bH [(al 2 351),(al 0 447),(al 0 448)],bH [(al 2 351),(al 1 449),(al 0 450)],bH [(al 1 349),(S "object" 451)],bH [],bH [],bH [],bH [],bH [],bH [(al 8 363),(R 136),(R 137),(R 138),(R 139),(R 140),(al 0 452)],bH [(al 8 453),(al 9 454)],bH [(al 6 359),(R 142)],bH [(al 1 349),(S "error" 455)],bH [(al 2 351),(al 0 456),(al 1 457)],bH [(al 2 351),(al 1 458),(al 1 459)],bH [(R 125),(R 126),(R 127),(R 128),(R 129),(R 130),(R 131),(R 132),(R 133),(R 134),(R 135),(R 141),(R 143),(R 144),(R 145),(R 146)],bH [(al 2 351),(al 3 353),(al 4 355),(al 5 357)],bH [(al 2 351),(al 3 353),(al 4 355),(al 5 357),(al 8 363)]]].flatten
noncomputable def nP(P:Params):List Obj:=[cF P "TypeTable" 90 465 m2 150 [] (Cc P) (rt (sM 60) 3 0 157),ru m2 N (sM 60) "TypeTable." 3 0 157 475,[bH (sv ["bounds","decls","defaults","index","names","origins","putting","renamed","rows","shaping"] 500),ez (T "dict") (kE P "TypeTable" 90 465 m2 false (Cc P++[en P "__dict__" 512 (R 181),en P "__weakref__" 514 (R 182),en P "__doc__" 515 N])) 4,kO "TypeTable" 463 180 none (B "object.__new__") [(T "object")] [(T "object")] [],gd 511 180,gw 513 180,su 180,ni 180,bH [(al 0 518)]],ru m2 (R 185) sT "" 1 61 186 519,[bH [(al 0 528)]],ru m2 (R 193) sT "" 1 62 194 529,[bH [(al 0 538)]],ru m2 (R 201) sT "" 1 63 202 539,[bH [(al 0 548)]],ru m2 (R 209) sT "" 4 64 210 549,[bH [(al 0 595)]],ru m2 (R 238) sT "" 1 68 239 596,[bH [],bH [(R 244),(al 0 602)]],ru m2 (R 245) sT "" 11 69 246 603].flatten
noncomputable def o3(P:Params):List Obj:=[ru m2 N sT "" 1 80 321 696,cF P "Thin" 226 712 m3 328 [] (Cd P) (rt (sM 84) 17 0 335),ru m3 N (sM 84) "Thin." 17 0 335 722,[bH (sv ["deep","most_deep","most_rounds","tab"] 868),ez (T "dict") (kE P "Thin" 226 712 m3 false (Cd P++[en P "__dict__" 874 (R 457),en P "__weakref__" 876 (R 458),en P "__doc__" 877 N])) 4,kO "Thin" 710 456 none (B "object.__new__") [(T "object")] [(T "object")] [],gd 873 456,gw 875 456,su 456,ni 456],ru m3 N sT "" 3 85 461 880].flatten
noncomputable def qr(P:Params):List Obj:=[ru m3 N sT "" 14 88 480 903,[bH [(al 1 349),(al 2 351),(al 3 353),(al 4 355),(al 5 357)],bH [(al 11 369),(al 12 371)],bH [(al 8 363),(al 9 365)],bH [(al 10 367),(al 14 375),(al 15 377),(al 16 379),(al 17 381),(al 18 383),(al 19 385)],bH [(al 6 359),(al 7 361)],bH [(al 6 359),(al 7 361),(al 10 367),(al 14 375),(al 15 377),(al 16 379),(al 17 381),(al 18 383),(al 19 385)]]].flatten
noncomputable def sf(P:Params)(L1:Obj):List Obj:=[cF P "RelRule" 392 1066 m4 578 [] (Ce P) (rt (sM 122) 5 0 585),ru m4 N (sM 122) "RelRule." 5 0 585 1076,[bH [],ez (T "dict") (kE P "RelRule" 392 1066 m4 false (Ce P++[en P "__dict__" 1127 (R 623),en P "__weakref__" 1129 (R 624),en P "__doc__" 1130 N])) 4,L1,gd 1126 622,gw 1128 622,su 622,ni 622],cF P "Rel" 408 1135 m4 627 [] (Cg P) (rt (sM 123) 7 0 634),ru m4 N (sM 123) "Rel." 7 0 634 1145,[bH (sv ["assumed","at","deep","host","known","missing","mode","notes","road","rules","telling","trail","twin"] 1204),ez (T "dict") (kE P "Rel" 408 1135 m4 false (Cg P++[en P "__dict__" 1219 (R 686),en P "__weakref__" 1221 (R 687),en P "__doc__" 1222 N])) 4,kO "Rel" 1133 685 none (B "object.__new__") [(T "object")] [(T "object")] [],gd 1218 685,gw 1220 685,su 685,ni 685],ru m4 N sT "" 3 124 690 1225].flatten
noncomputable def uH(P:Params):List Obj:=[ru m4 N sT "" 20 127 711 1256,ru m5 N sT "" 8 148 851 1457].flatten
noncomputable def xK(P:Params):List Obj:=ru m5 N sT "" 20 156 901 1534
noncomputable def Cj(P:Params):List Obj:=[cF P "SigRule" 889 1761 m5 1041 [(R 622)] (Ch P) (rt (sM 176) 1 0 1048),ru m5 N (sM 176) "SigRule." 1 0 1048 1771,[bH [],ez (T "dict") (kE P "SigRule" 889 1761 m5 false (Ch P++[en P "__doc__" 1782 N])) 2,kO "SigRule" 1759 1057 (some (R 1041)) (B "object.__new__") [(R 622)] [(R 622),(T "object")] [],su 1057,ni 1057],cF P "CallsRule" 893 1787 m5 1060 [(R 622)] (Ci P) (rt (sM 177) 1 0 1067),ru m5 N (sM 177) "CallsRule." 1 0 1067 1797,[bH [],ez (T "dict") (kE P "CallsRule" 893 1787 m5 false (Ci P++[en P "__doc__" 1808 N])) 2,kO "CallsRule" 1785 1076 (some (R 1060)) (B "object.__new__") [(R 622)] [(R 622),(T "object")] [],su 1076,ni 1076],ru m5 N sT "" 1 178 1079 1811,[bH (iv [4,32,1,3,8,36,192,256,512,260,2048,4096,0,1024,1536,24,64,33] 1820)],ru m6 N sT "" 10 181 1087 1839].flatten
noncomputable def L4(P:Params):List Obj:=ru m6 N sT "" 12 191 1153 1936
noncomputable def dF(P:Params):List DictEntry:=[[en P "__doc__" 166 N,en P "__package__" 167 N,en P "__loader__" 168 (B "__main__.__loader__#opaque"),en P "__spec__" 169 N,en P "__annotations__" 170 (R 6),en P "__builtins__" 171 (R 4),en P "__file__" 173 (S "/claim/cut.py" 172),en P "__cached__" 174 N],re P sT 1 0 15 187,ks P 196 [("U_ANY",1),("U_METHOD",2),("U_ENUM",10),("U_OPTION",11),("U_VAR",15)],[en P "KeepError" 236 (R 39),en P "TooDeep" 265 (R 60),en P "HostFault" 292 (R 80),en P "Notes" 346 (R 120)],ks P 349 [("Y_KEY",1),("Y_BOOL",2),("Y_STR",3),("Y_NUM",4),("Y_ENUM",5),("Y_UNION",6),("Y_INTER",7),("Y_OBJ",8),("Y_REF",9),("Y_PARAM",10),("Y_ARRAY",11),("Y_TUPLE",12),("Y_SIG",13),("Y_KEYOF",14),("Y_INDEX",15),("Y_COND",16),("Y_MAPPED",17),("Y_TPL",18),("Y_ALIAS",19),("ANY",0),("UNKNOWN",1),("NEVER",2),("VOID",3),("UNDEF",4),("NULLT",5),("STRING",6),("NUMBER",7),("FALSE_T",8),("TRUE_T",9),("OBJECTT",10),("EMPTY",11),("ERR",13),("FRESH_F",14),("FRESH_T",15),("E_NEED",0),("E_OPT",1),("E_REST",2),("E_SPREAD",3),("A_NEED",0),("A_OPT",1),("A_REST",2),("S_METHOD",1),("S_ABSTRACT",2),("S_PRIVATE",4),("MAX_UNION",400)],[en P "FIRST_ROWS" 460 (R 147),en P "LITERAL_ROWS" 461 (R 148),en P "MARKED_ROWS" 462 (R 149),en P "TypeTable" 517 (R 180)],re P sT 1 61 186 519,re P sT 1 62 194 529,re P sT 1 63 202 539,re P sT 4 64 210 549,re P sT 1 68 239 596,re P sT 12 69 246 603,[en P "MOST_ROUNDS" 707 (al 200 706),en P "MOST_SHAPES" 709 (al 40 708),en P "Thin" 879 (R 456)],re P sT 17 85 461 880,ks P 1031 [("R_ASSIGN",1),("R_COMPARE",2),("R_IDENT",3),("R_SUBTYPE",4),("RULE_MEET",1),("RULE_DEFERRED",2),("RULE_SIG",3),("RULE_LIST",4),("RULE_OBJECT",5),("RULE_CHOICE",6),("RULE_CALLS",8),("RULE_GENERIC",9),("RULE_PLACES",12)],[en P "VALUE_ROWS" 1057 (R 572),en P "LIST_ROWS" 1058 (R 573),en P "SHAPED_ROWS" 1059 (R 574),en P "DEFERRED_ROWS" 1060 (R 575),en P "OPEN_ROWS" 1061 (R 577),en P "MAX_OPEN" 1063 (al 60 1062),en P "RelRule" 1132 (R 622),en P "Rel" 1224 (R 685)],re P sT 23 124 690 1225,re P sT 28 148 851 1457,[en P "SigRule" 1784 (R 1057),en P "CallsRule" 1810 (R 1076)],re P sT 1 178 1079 1811,[en P "_law_masks" 1838 (R 1086)],re P sT 22 181 1087 1839].flatten
noncomputable def kA:List Value:=[rt sT 1 0 15,[(al 10 0),(al 0 0),(R 27),(al 15 0),(al 0 0),(R 48),(al 20 0),(al 0 0),(R 68),(al 25 0),(al 0 0),(R 88),(al 90 0),(al 0 0),(R 155)],rt sT 1 61 186,rt sT 1 62 194,rt sT 1 63 202,rt sT 4 64 210,rt sT 1 68 239,rt sT 12 69 246,[(al 226 0),(al 0 0),(R 333)],rt sT 17 85 461,[(al 392 0),(al 0 0),(R 583),(al 408 0),(al 0 0),(R 632)],rt sT 23 124 690,rt sT 28 148 851,[(al 889 0),(al 0 0),(R 1046),(al 893 0),(al 0 0),(R 1065)],rt sT 1 178 1079,rt sT 22 181 1087].flatten
noncomputable def v3(P:Params)(m:Value)(n:Nat):Obj:=ez (T "dict") (en P "__name__" 165 m::(dF P).take n) (n+1)
noncomputable def L6(P:Params):List Obj:=[kz P (ez N [] 0) (v3 P m0 8) (iX (kA.take 0))].flatten
noncomputable def sg(w:World)(os:OsState):SharedT:=kx (L6 w.params) 15 187 os
noncomputable def L7(P:Params):List Obj:=[kz P (ez N [en P "type.__subclasses__.Exception.0" 233 (al 39 0),en P "type.__subclasses__.Exception.n" 234 (al 1 0)] 2) (v3 P m1 17) (iX (kA.take 12)),lz P].flatten
noncomputable def Ck(w:World)(os:OsState):SharedT:=kx (L7 w.params) 83 293 os
noncomputable def L8(P:Params):List Obj:=[kz P (ez N [en P "type.__subclasses__.Exception.0" 233 (al 39 0),en P "type.__subclasses__.Exception.n" 234 (al 1 0)] 2) (v3 P m2 66) (iX (kA.take 15)),lz P,mF P].flatten
noncomputable def Cl(w:World)(os:OsState):SharedT:=kx (L8 w.params) 150 463 os
noncomputable def L9(P:Params):List Obj:=[kz P (ez N [en P "type.__subclasses__.Exception.0" 233 (al 39 0),en P "type.__subclasses__.Exception.n" 234 (al 1 0)] 2) (v3 P m2 86) (iX (kA.take 75)),lz P,mF P,nP P].flatten
noncomputable def Cm(w:World)(os:OsState):SharedT:=kx (L9 w.params) 321 696 os
noncomputable def Ma(P:Params):List Obj:=[kz P (ez N [en P "type.__subclasses__.Exception.0" 233 (al 39 0),en P "type.__subclasses__.Exception.n" 234 (al 1 0)] 2) (v3 P m3 93) (iX (kA.take 90)),lz P,mF P,nP P,o3 P].flatten
noncomputable def Cp(w:World)(os:OsState):SharedT:=kx (Ma w.params) 480 903 os
noncomputable def Mb(P:Params):List Obj:=[kz P (ez N [en P "type.__subclasses__.Exception.0" 233 (al 39 0),en P "type.__subclasses__.Exception.n" 234 (al 1 0)] 2) (v3 P m4 126) (iX (kA.take 132)),lz P,mF P,nP P,o3 P,qr P].flatten
noncomputable def Cq(w:World)(os:OsState):SharedT:=kx (Mb w.params) 578 1064 os
noncomputable def Mc(P:Params):List Obj:=[kz P (ez N [en P "type.__subclasses__.Exception.0" 233 (al 39 0),en P "type.__subclasses__.Exception.n" 234 (al 1 0)] 2) (v3 P m4 131) (iX (kA.take 147)),lz P,mF P,nP P,o3 P,qr P,sf P (kO "RelRule" 1064 622 none (B "object.__new__") [(T "object")] [(T "object")] [])].flatten
noncomputable def Cr(w:World)(os:OsState):SharedT:=kx (Mc w.params) 711 1256 os
noncomputable def Md(P:Params):List Obj:=[kz P (ez N [en P "type.__subclasses__.Exception.0" 233 (al 39 0),en P "type.__subclasses__.Exception.n" 234 (al 1 0)] 2) (v3 P m5 159) (iX (kA.take 231)),lz P,mF P,nP P,o3 P,qr P,sf P (kO "RelRule" 1064 622 none (B "object.__new__") [(T "object")] [(T "object")] []),uH P].flatten
noncomputable def Cs(w:World)(os:OsState):SharedT:=kx (Md w.params) 901 1534 os
noncomputable def Me(P:Params):List Obj:=[kz P (ez N [en P "type.__subclasses__.Exception.0" 233 (al 39 0),en P "type.__subclasses__.Exception.n" 234 (al 1 0)] 2) (v3 P m5 179) (iX (kA.take 291)),lz P,mF P,nP P,o3 P,qr P,sf P (kO "RelRule" 1064 622 none (B "object.__new__") [(T "object")] [(T "object")] []),uH P,xK P].flatten
noncomputable def Ct(w:World)(os:OsState):SharedT:=kx (Me w.params) 1041 1759 os
noncomputable def Mf(P:Params):List Obj:=[kz P (ez N [en P "type.__subclasses__.Exception.0" 233 (al 39 0),en P "type.__subclasses__.Exception.n" 234 (al 1 0)] 2) (v3 P m6 193) (iX (kA.take 330)),lz P,mF P,nP P,o3 P,qr P,sf P (kO "RelRule" 1064 622 none (B "object.__new__") [(T "object")] [(T "object")] [(R 1057),(R 1076)]),uH P,xK P,Cj P].flatten
noncomputable def Cu(w:World)(os:OsState):SharedT:=kx (Mf w.params) 1153 1936 os
noncomputable def mG(P:Params):List Obj:=[kz P (ez N [en P "type.__subclasses__.Exception.0" 233 (al 39 0),en P "type.__subclasses__.Exception.n" 234 (al 1 0)] 2) (v3 P m6 205) (iX (kA.take 366)),lz P,mF P,nP P,o3 P,qr P,sf P (kO "RelRule" 1064 622 none (B "object.__new__") [(T "object")] [(T "object")] [(R 1057),(R 1076)]),uH P,xK P,Cj P,L4 P].flatten
noncomputable def nQ(w:World)(os:OsState):SharedT:=kx (mG w.params) 1229 2056 os
theorem Mg(w:World)(os:OsState):jU w 813 (sg w os) (lw 0 10 ⟨0,0,0,0⟩)=some (.next,Ck w os,cE,⟨20,0,24,24⟩):=by kernel_rfl
theorem Mh(w:World)(os:OsState):jU w 879 (Ck w os) (lw 10 50 ⟨20,0,24,24⟩)=some (.next,Cl w os,cE,⟨89,0,89,11⟩):=by kernel_rfl
theorem Mi(w:World)(os:OsState):jU w 897 (Cl w os) (lw 60 20 ⟨89,0,89,11⟩)=some (.next,Cm w os,cE,⟨216,0,218,49⟩):=by kernel_rfl
theorem Mj(w:World)(os:OsState):jU w 892 (Cm w os) (lw 80 8 ⟨216,0,218,49⟩)=some (.next,Cp w os,cE,⟨288,0,291,67⟩):=by kernel_rfl
theorem Mk(w:World)(os:OsState):jU w 666 (Cp w os) (lw 88 34 ⟨288,0,291,67⟩)=some (.next,Cq w os,cE,⟨391,0,391,8⟩):=by kernel_rfl
theorem Ml(w:World)(os:OsState):jU w 885 (Cq w os) (lw 122 5 ⟨391,0,391,8⟩)=some (.next,Cr w os,cE,⟨449,0,453,15⟩):=by kernel_rfl
theorem Mm(w:World)(os:OsState):jU w 896 (Cr w os) (lw 127 29 ⟨449,0,453,15⟩)=some (.next,Cs w os,cE,⟨717,0,725,61⟩):=by kernel_rfl
theorem Mn(w:World)(os:OsState):jU w 666 (Cs w os) (lw 156 20 ⟨717,0,725,61⟩)=some (.next,Ct w os,cE,⟨884,0,888,72⟩):=by kernel_rfl
theorem Mq(w:World)(os:OsState):jU w 872 (Ct w os) (lw 176 15 ⟨884,0,888,72⟩)=some (.next,Cu w os,cE,⟨995,0,999,28⟩):=by kernel_rfl
theorem Mr(w:World)(os:OsState):jU w 377 (Cu w os) (lw 191 12 ⟨995,0,999,28⟩)=some (.next,nQ w os,cE,⟨1110,0,1151,15⟩):=by kernel_rfl
end Mine.H
namespace Mine.H
open PySem PySem.W PySem.Calls PyProof.Rows
theorem kC{w:World}{n:Nat}{s s':SharedT}{t:Thread}{f:Flow}{c:Code}{q:Pos}(h:jU w n s t=some (f,s',c,q)):segRun treeTable pw w 11 (some (R 6)) 1 n s.abs t=some (f,s'.abs,c,q):=by refine segRun_of ?_;rw[PySem.W.Fast.te10110043849684766642,PySem.W.Fast.te14364793385576792824];exact h
theorem Ms(w:World)(os:OsState):PySem.W.Fast.tw15667345088766844465 PySem.W.Fast.tw14364793385576792824 pw w 11 (some (R 6)) 12 ⟨boot_heap w.params,⟨[]⟩,boot_drawn,boot_toks,os⟩ (topStub pw)=some ((sg w os).abs,⟨PySem.W.Fast.tw11892475500146522536 PySem.W.Fast.tw14364793385576792824 cE,cE,p0,[topFrame p0]⟩):=by kernel_rfl
theorem Mt(w:World)(os:OsState):topGo treeTable pw w 11 (some (R 6)) 12 ⟨boot_heap w.params,⟨[]⟩,boot_drawn,boot_toks,os⟩ (topStub pw)=some ((sg w os).abs,⟨denote treeTable cE,cE,p0,[topFrame p0]⟩):=by rw[PySem.W.Fast.te15667345088766844465,PySem.W.Fast.te14364793385576792824,PySem.W.Fast.te11892475500146522536];exact Ms w os
theorem Mu(w:World)(os:OsState):jU w 1 (sg w os) (W.blockOf dz xJ cE p0 [topFrame p0])=some (.next,sg w os,cE,p0):=by kernel_rfl
theorem Mv(w:World)(os:OsState):topRun treeTable pw w 11 (some (R 6)) 2 (nQ w os).abs ⟨doneF .next,cE,⟨1110,0,1151,15⟩,[topFrame p0]⟩=some (nQ w os).abs:=by kernel_rfl
theorem Mw:dz=(dz.drop 0).take 10++((dz.drop 10).take 50++((dz.drop 60).take 20++((dz.drop 80).take 8++((dz.drop 88).take 34++((dz.drop 122).take 5++((dz.drop 127).take 29++((dz.drop 156).take 20++((dz.drop 176).take 15++((dz.drop 191).take 12++[]))))))))):=by kernel_rfl
theorem Mx(w:World)(os:OsState):topRun treeTable pw w 11 (some (R 6)) (12+(1+(813+(879+(897+(892+(666+(885+(896+(666+(872+(377+2)))))))))))) ⟨boot_heap w.params,⟨[]⟩,boot_drawn,boot_toks,os⟩ (topStub pw)=some (nQ w os).abs:=by refine go_top (Mt w os) (piece_block (kC (Mu w os)) ?_);rw[Mw];refine piece_app (kC (Mg w os)) ?_;refine piece_app (kC (Mh w os)) ?_;refine piece_app (kC (Mi w os)) ?_;refine piece_app (kC (Mj w os)) ?_;refine piece_app (kC (Mk w os)) ?_;refine piece_app (kC (Ml w os)) ?_;refine piece_app (kC (Mm w os)) ?_;refine piece_app (kC (Mn w os)) ?_;refine piece_app (kC (Mq w os)) ?_;refine piece_app (kC (Mr w os)) ?_;exact Mv w os
end Mine.H
namespace Mine.H
open PySem PySem.W PySem.Calls PyProof.Rows
noncomputable def ij(P:Params):Heap:=⟨⟨mG P⟩,{}⟩
theorem My(P:Params):absHeap (se 12 (mG P)) 1229 {}=ij P:=by kernel_rfl
theorem Mz(w:World)(os:OsState):(nQ w os).abs=⟨ij w.params,⟨[]⟩,boot_drawn,(nQ w os).toks,os⟩:=by show Shared.mk (absHeap (se 12 (mG w.params)) 1229 {}) ⟨[]⟩ boot_drawn _ os=_;rw[My]
noncomputable def MA:List Stmt:=pw.main.body.drop 202
noncomputable def qv:Program:={pw with main:={pw.main with body:=MA}}
noncomputable def o4:List Str:=(pw.main.scope.names.map (·.1)).filter (fun x=>x !=(Str.ofString "law"))
noncomputable abbrev uI(s:Shared):Bool:=xlAt qv [] s&&recOk PySem.Challenge.rw_pq0593_01.row.records s
theorem MB(w:World):((boot_heap w.params).isNs mainGlobals&&(Array.mk ([]:List GenState)).size==0,(boot_heap w.params).objs.size,(boot_heap w.params).nsMap mainGlobals "__annotations__")=(true,11,some (R 6)):=by kernel_rfl
theorem MC(w:World)(os:OsState):(staticsOk (importedModules pw.main.body) (boot_heap w.params) (ij w.params))=true:=by kernel_rfl
theorem MD(w:World)(os:OsState):namesBound pw (ij w.params)=true:=by kernel_rfl
theorem ME(w:World)(os:OsState):laidKept (boot_heap w.params) (ij w.params)=true:=by kernel_rfl
end Mine.H
namespace Mine.H
open PySem PySem.W PySem.Calls PyProof.Rows
theorem MF(w:World)(os:OsState):PySem.W.Fast.tw4187177175401517315 qv o4 (importedModules pw.main.body) uI true ⟨ij w.params,⟨[]⟩,boot_drawn,(nQ w os).toks,os⟩=openGood qv o4:=by kernel_rfl
end Mine.H
namespace Mine.H
open PySem PySem.W PySem.Calls PyProof.Rows
theorem MG(w:World)(os:OsState):openSeen qv o4 (importedModules pw.main.body) uI true ⟨ij w.params,⟨[]⟩,boot_drawn,(nQ w os).toks,os⟩=openGood qv o4:=by rw[PySem.W.Fast.te4187177175401517315];exact MF w os
theorem MH:opening pw=plainProg pw.main.scope.names:=by kernel_rfl
theorem MI(s:Shared):fenceModules? pw s=some s:=by kernel_rfl
theorem MJ:LeftO pw qv o4 uI (fun s=>s.heap) (fun w=>ij w.params) 16000:=by refine LeftO.of_pieces (H₀:=boot_heap) (H₁:=ij) (gs₀:=⟨[]⟩) (gs₁:=⟨[]⟩) (d₀:=boot_drawn) (d₁:=boot_drawn) (k₀:=boot_toks) (k₁:=2056) (m₀:=11) (ann:=some (R 6)) (boot_open MH rfl MI) MB (fun w os=>(Mx w os).trans (congrArg some (Mz w os))) rfl fun w=>funext fun os=>?_;show(((staticsOk (importedModules pw.main.body) (boot_heap w.params) (ij w.params)&&namesBound pw (ij w.params)&&true&&laidKept (boot_heap w.params) (ij w.params))),_,ij w.params)=_;rw[MC w os,MD w os,ME w os];exact Prod.ext rfl (Prod.ext (MG w os) rfl)
abbrev hE:OpenRow:=PySem.Challenge.rw_pq0593_01.row
noncomputable abbrev nR:DefRec:=rc (sT 202)
theorem MK:defOf qv hE.name=some (nR,[]):=by kernel_rfl
theorem ML:pw.theDef hE.name=some (nR.params,nR.body,nR.scope):=by kernel_rfl
theorem MM:kwWritten? nR.params.kwonlyargs nR.params.kw_defaults=some []:=by kernel_rfl
theorem MN:(chainsOk qv&&opensWell hE.prog&&(frees hE.toRowW&&hE.within.isEmpty))=true:=by kernel_rfl
theorem MO:hE.prog.bare:=⟨rfl,rfl,rfl,rfl,rfl,by decide+kernel⟩
theorem MP:hE.toRowW.promised:=by w_witness2
def YP(w:World)(h:Heap):Prop:=∀a o,(ij w.params).get? a=some o->h.get? a=some o
theorem MQ(h1:hE.wellSaid=true)(call:WalkO qv o4 (XL qv []) YP hE.toRowW nR [] fun f vs=>PySem.call f vs):hE.Holds:=holds_open (Xt:=uI) (Yf:=fun s=>s.heap) (Ya:=fun w=>ij w.params) (N:=16000) MJ (fun w s e=>by intro a o h;rw[show s.heap=ij w.params from e];exact h) (fun w h h' y k a o e=>k a o (y a o e)) (fun s e=>xl_of s (Bool.and_eq_true_iff.mp e).1) XL.keeps MK ML MM (fun s e=>recFacts_of (Bool.and_eq_true_iff.mp e).2) rfl h1 MN MO MP call
end Mine.H
namespace Mine
open PySem
open _root_.Option renaming some->D,none->I,casesOn->cN,isNone_iff_eq_none->nI,bind_some->qh,map_eq_some_iff->qm,ne_none_iff_exists'->r5,isSome_iff_exists->BK,map->KE,isSome_eq_false_iff->KM,any_eq_true->LX,bind_eq_some_iff->Z1
open _root_.Bool renaming true->Y,false->aj,and_eq_true_iff->fe,and_eq_true->gG,eq_false_iff->jJ,or_eq_true->jS,and_true->lh,false_ne_true->oS,or_eq_true_iff->rW,eq_iff_iff->uo,and_false->uy,or_false->xu,casesOn->xw,true_and->KH,false_or->KK,or_true->KN,not_eq_true->KO,and_comm->KP,not_not->KT,not_eq_true'->YI,false_and->YU
noncomputable def ae:=@absurd
def af:=@if_pos
def am:=@if_neg
def aI:=@congrArg
def aN:=@decide_eq_true
def aV:=@beq_iff_eq
def bS:=@decide_eq_false
def cK:=@of_decide_eq_true
def fy:=@bne_iff_ne
def gl:=@beq_eq_false_iff_ne
def iF:=@decide_eq_decide
open _root_.PySem renaming wpAny_bind->aA,Value->aH,wpAny_pure->aX,Str->bh,Addr->bu,Shared->cJ,Expr->cP,Obj->iG,Stmt->jq,mainGlobals->jr,Heap->ln,wpAny_mono->lr,assignEach->lu,Around->mw,sysModules->mz,wpAny_holding->mA,Env->mE,DictEntry->nN,compareOp->oZ,Scope->qj,World->qk,builtinsNs->qo,NameKind->qp,wpAny_call_entry->sd,wpAny_field->uB,Params->uF,wpAny_newObj_type->xF,eqIsQuiet_byValue->BU,entryOfKey->BW,IsPart->BY,sliceBounds->BZ,getMethod_builtin->B2,wpAny_standAt->B4,swapsWith->B5,cellsFrom->B6,mem_of_lookup->B7,wpAny_specialOf->Ld,wpAny_seqItems->Le,wpAny_truthy_bool->Lh,wpAny_typeOf->Lv,call_meets->LD,wpAny_listPart->LF,getitemInPython->LH,wpAny_UnaryOp->LI,behindInMarks->LJ,wpAny_Compare1->LK,methodCallPos->LN,letOwnedTupleGo->LO,wpAny_load->LP,wpAny_execs_nil->LS,bindL->LV,bindC->LW,wpAny_pyHash_int->Zm,wpAny_pyHash_str->Zn,concat_meets->Zv,noFill_tuple_add->Zw,seq_tuple_add->Zx,wpAny_delItem_slot->ZF,size_of_entries->ZH,wpAny_sequenceKey->ZX,wpAny_callSpecial?_slot->ZY,wpAny_loadPart->Z3,aRefKeyMayBeTheName->Z4,slot_list_append->Z5,call_meetsIn->Z8,slot_list_setitem->a',recursionLimit->d?,codeAny_mono->e?,wpAny_Constant_none->f?,markedBehindIn_of_false->g?,wpAny_assign_Name->m?,assignInOrder->n?,wpAny_pyIter_slot->q?,wpAny_comprehension_free->w?
open _root_.Nat renaming le_refl->aE,le_trans->bj,zero_le->bQ,le_add_right->b8,le_of_ble_eq_true->cm,beq->cu,le_succ->dh,lt_of_le_of_lt->dM,add_assoc->eL,add_le_add_left->eP,succ_pos->fg,le_antisymm->fx,zero_add->gj,lt_or_gt_of_ne->gk,le_of_eq->gF,lt_trans->gY,not_lt->g9,lt_of_lt_of_le->iW,ne_of_gt->jl,testBit_two_pow->jm,eq_of_beq_eq_true->jK,add_le_add->jL,sub_self->jN,testBit_or->jR,min_le_right->jT,le_of_not_lt->kt,blt->k9,ne_of_lt->lb,le_of_succ_le_succ->lf,le_of_lt->li,le_succ_of_le->lj,lt_succ_self->mf,succ_le_succ->mi,min_eq_left->mj,or_zero->mq,add_comm->nz,zero_testBit->nH,casesOn->nM,add_mul->oT,le_of_lt_succ->oU,lt_irrefl->oW,not_succ_le_zero->qe,lt_or_ge->qf,sub_le->qi,zero_mul->rR,one_mul->rS,sub_add_cancel->rT,min_eq_right->rY,two_pow_pos->uj,mul_le_mul_right->uk,add_right_comm->um,and_le_left->uq,add_le_add_right->ur,le_sub_of_add_le->ut,min_le_left->uv,add_sub_cancel'->uw,not_lt_zero->xm,pow_lt_pow_right->xn,not_le->xp,lt_of_le_of_ne->xt,add_sub_cancel_left->xv,sub_eq_zero_of_le->xA,succ_ne_zero->xB,ble_eq_true_of_le->Bu,mod_lt->BA,lt_succ_of_le->BG,testBit_and->BI,zero_and->BJ,max_le->BQ,le_of_succ_le->Kz,lt_add_of_pos_right->KA,le_add_left->KI,zero_or->KQ,or_self->KS,not_succ_le_self->KZ,add_zero->K4,or_assoc->K5,le_of_sub_eq_zero->K6,add_add_add_comm->YC,mul_add->YD,mul_assoc->YE,lt_of_not_le->YG,mul_le_mul_left->YH,eq_zero_or_pos->YO,le_of_pred_lt->YQ,le_zero->YV,le_max_left->YW,le_max_right->YX,add_sub_cancel->Y3,mul_succ->Zb,lt_succ_of_lt->ZN,blt_eq->j?,sub_lt_sub_left->v?,sub_sub_self->x?
open _root_.List renaming length_map->aJ,length_append->aU,mem_cons_self->aW,mem_singleton->ba,getElem?_eq_some_iff->bp,not_mem_nil->bK,append_nil->bO,mem_cons->ce,mem_cons_of_mem->cI,prefix_refl->dg,append_assoc->dy,mem_append->dI,getElem?_eq_getElem->dL,casesOn->eQ,nodup_cons->fh,all_eq_true->fR,getElem?_map->gm,mem_map->gZ,map_append->g7,getElem?_append_left->ib,length_take->ie,map_cons->ii,length_cons->iD,range->iV,getElem?_eq_none->jo,lookup_cons->js,getElem?_append_right->jM,mem_append_right->jO,nodup_nil->jP,mem_of_getElem?->jQ,take_append_drop->ku,mem_append_left->mh,eq_nil_of_length_eq_zero->nD,isEmpty_iff->nK,nodup_append->oV,length_set->oX,length_filter_le->oY,length_singleton->qg,getElem?_set_ne->rU,length->rV,take_length->rX,length_drop->rZ,getElem?_set_self->ul,map_nil->uu,drop_zero->ux,take_of_length_le->uz,getElem_inj->xo,nil_append->xq,drop_append_of_le_length->xr,drop_nil->xx,take_nil->xy,getElem_mem->xz,find?_cons->xD,replicate->Bv,all_append->Bz,map_map->BC,mem_range->BD,flatten_cons->BE,dropLast_concat_getLast->BF,drop_length->BL,filter_cons_of_pos->BM,getElem?_take_of_lt->BN,dropLast_eq_take->BO,forIn_cons->BS,all_map->KD,set_append_right->KG,drop_left->KJ,range'->KU,range_eq_range'->KV,filter_cons_of_neg->KX,filter_append->KY,getElem?_of_mem->K0,length_range->K7,drop_eq_getElem_cons->K8,take_add_one->K9,pairwise_cons->Lm,filterMap_cons->Lr,size_toArray->Lw,zip_append->LU,cons_ne_nil->YB,prefix_append->YL,mem_singleton_self->YM,flatten_nil->YN,map_take->YR,dropLast_concat->YS,ext_getElem?->YY,filter_nil->Y0,filter->Y1,map_id->Y2,filter_eq_nil_iff->Y4,mem_filter->Y5,contains_iff_mem->Y6,dropLast_subset->Y7,length_dropLast->Y8,length_eq_one_iff->Y9,getElem?_drop->Za,Pairwise->Zg,map_id'->Zh,drop_of_length_le->Zi,range_succ->Zj,getD->Zk,any_cons->ZD,filterMap_map->ZU,length_filterMap_le->ZZ,take_take->c?,findIdx?_cons->o?,elem_iff->u?,lookup->y?,of_mem_zip->z?
open _root_.Option.some renaming inj->b9
open _root_.Int renaming ofNat_lt->cw,not_le->cY,le_refl->fS,natCast_nonneg->hZ,toNat_natCast->ic,not_lt->ig,ofNat->ko,toNat_of_nonneg->lk,natCast_pos->l8,le_of_lt->my,ofNat_le->nA,lt_trans->rQ,le_trans->uA,le_antisymm->BH,ofNat_sub->BP,lt_of_lt_of_le->Kv,ofNat_inj->KB,lt_iff_le_and_ne->KL,toNat_lt->Ln,min_eq_left->Lq,add_sub_cancel->YJ,add_comm->YK,le_of_lt_add_one->YT,sub_neg->Zd,natCast_pow->Ze,ne_of_gt->Zs,fdiv_eq_ediv_of_nonneg->Zt,natAbs_of_nonneg->Zu,le_of_eq->ZO,zero_add->ZP,max_comm->ZQ,eq_ofNat_of_zero_le->ZR,max_eq_right->ZS,le_min->ZT
open _root_.Int.ofNat renaming inj->dr
open _root_.PySem.Heap renaming get?_push_of_some->gp,get?_push_size->kw,lt_size->r9,get?_update_self->Lk,get?_update_other->Ll,size_push->k?
open _root_.PySem.Expr renaming casesOn->gH,Constant->ao0,Tuple->au0
open _root_.List.cons renaming inj->gX
open _root_.Ne renaming symm->g8
open _root_.PySem.Builtin renaming bitNot->jp,bitAnd->km,bitOr->qd,bitXor->Kw
open _root_.PySem.PyData renaming strOk->mc,eqv->xC,keyHash->xG,depthAll->BV,canLayAll0->Lf,eqvAll->Lg,list->ZC
open _root_.ForInStep renaming yield->mu
open _root_.Array renaming length_toList->mB,getElem?_toList->BX,toList_push->Lb,forIn_toList->Zp,toList_append->ZB,mem_toList_iff->ZE,getElem?_eq_some_iff->ZI,eraseIdxIfInBounds->ZJ,toList_eraseIdx->ZK,getElem?_eq_none->p?
open _root_.Decidable renaming byContradiction->nJ,not_not->un
open _root_.PySem.Stmt renaming casesOn->r6
open _root_.PySem.W renaming Looks->uC,emptyDict->B3,plainGet_of->Ly,looks_nsIn->LG,keeps_K->LM,getL->Z2,looks_findIn->l?
open _root_.PySem.Code renaming builtin->uD
open _root_.PySem.Value renaming casesOn->uE,isInt_shape->Li,ref->Lj,bool->Z0
open _root_.PyProof.Rows renaming IntsAre->xE,slot_tuple_getitem->Lu,slicePart_none->ZV,subscriptTail->g',add_int->T?,sub_int->U?,mul_int->V',floordiv_int->V?,mod_int'->W?,and_int->X',or_int->X?,xor_int->Y',lshift_int_small->Y?,rshift_int->Z',add_str->Z?,truthy_none->aa0,truthy_tuple->ab0,eq_bool->ac0,ne_bool->ad0,neg_int->am0,invert_int->an0
open _root_.Iff renaming rfl->Bw
open _root_.Eq renaming symm->By
open _root_.Prod renaming ext->BB,casesOn->KW
open _root_.PySem.BoolOp renaming casesOn->BR
open _root_.PySem.Builtin.Tuple renaming tupleExact->B0,tupleHashOf->Zl,tupleItemsOf->Zo,tupleIsExact->ah0
open _root_.PySem.Sem renaming wp_mono->B1,wp_bind'->Lx,wp_holding->h?,wp_cmd_standAt->i?,wp_operate->j'
open _root_.PySem.Str renaming ofString->Kx
open _root_.And renaming right->La
open _root_.PySem.Builtin.Slice renaming slicePlaces->Ls,sliceAdjust->ZW,slicePartIndex->af0,sliceApplied->ag0
open _root_.PySem.Obj renaming putName->Lz,mapSeq->LC,mapDictKeys->ZL,data_mapDictKeys->ZM
open _root_.PySem.F renaming plainAttrs_list->LA,slot_dict_get->LB,slot_tuple_add->Zy,entry_tuple_add->Zz,args_tuple_add_2->ZA,slot_dict_delitem->ZG,slot_list_extend->Z6,slot_list_pop->Z7,entry_dict_get->Z9,slot_list_delitem->b?,slot_tuple_iterator_iter->r?,slot_range_iterator_iter->s?
open _root_.PySem.W.Looks renaming of_pure->LL
open _root_.PySem.NameKind renaming cell->LQ
open _root_.PySem.W.WTm renaming holds->LY,value->A'
open _root_.PySem.Challenge renaming rw_pq0593_01->LZ
open _root_.False renaming elim->YF
open _root_.Exists renaming elim->YZ
open _root_.Nat.succ renaming inj->Zc
open _root_.Nat.le renaming dest->Zf
open _root_.PySem.SeqAt renaming compareEq_reads->Zq,compareNe_reads->Zr
open _root_.PySem.Builtin.List renaming listSubscript?->a?,listTooLong->aj0,listItems->al0
open _root_.PySem.Builtin.Range renaming rangeSize->t?,small->ap0
open _root_.PySem.W.WData renaming int->A?
open _root_.Classical renaming byContradiction->N?,not_not->O',em->R?
open _root_.List.Perm renaming swap->O?
open _root_.List.Pairwise renaming imp_of_mem->P?
open _root_.List.Sublist renaming append->Q?,refl->R'
open _root_.PySem.Builtin.Int renaming intBits->S?
open _root_.PySem.Builtin.Dict renaming takeOut->ae0
open _root_.PySem.DictEntry renaming refKey->ai0
open _root_.PySem.MeetsSeq renaming list_pop_last->ak0
open _root_.PySem.AutoIntOps renaming iadd_0->aq0,isub_0->ar0
open _root_.PySem.W.Fast renaming tw9446332074065402090->av0,te9446332074065402090->aw0
@[elab_as_elim]theorem qt.{u}{bA:Sort u}{a b:bA}{motive:bA->Prop}(h:a=b)(k:motive b):motive a:=by cases h;exact k
@[elab_as_elim]theorem uJ.{u}{bA:Sort u}{a b:bA}{motive:bA->Prop}(h:b=a)(k:motive b):motive a:=by cases h;exact k
@[elab_as_elim]theorem Cv{a b:Prop}{motive:Prop->Prop}(h:b↔a)(k:motive b):motive a:=by cases propext h;exact k
theorem cps{G:Prop}(h:∀P:Prop,(G->P)->P):G:=h G id
theorem xL.{u}{bA:Sort u}{a b c:bA}(h:a=b)(k:a=c):b=c:=h.symm.trans k
@[elab_as_elim]theorem xM{a b:Prop}{motive:Prop->Prop}(h:a↔b)(k:motive b):motive a:=by cases propext h;exact k
set_option genInjectivity true in set_option genCtorIdx true in inductive aa where|none|bool(b:Bool)|int(i:Int)|str(s:bh)|ab(l:List aa)|ref(n:Nat)
mutual noncomputable def aa.beq:aa->aa->Bool
|.none,b=>match b with|.none=>Y|_=>aj
|.bool a,b=>match b with|.bool b=>a==b|_=>aj
|.int a,b=>match b with|.int b=>decide (a=b)|_=>aj
|.str a,b=>match b with|.str b=>a==b|_=>aj
|.ab a,b=>match b with|.ab b=>aa.xN a b|_=>aj
|.ref a,b=>match b with|.ref b=>decide (a=b)|_=>aj noncomputable def aa.xN:List aa->List aa->Bool
|[],l=>match l with|[]=>Y|_::_=>aj
|a::r,l=>match l with|[]=>aj|b::q=>aa.beq a b&&aa.xN r q end
theorem aa.ff{a b:aa}(h:a=b->False):aj=Y↔a=b:=iff_of_false oS h
mutual theorem aa.uK:∀a b:aa,aa.beq a b=Y↔a=b
|.none,b=>by cases b<;>first|exact iff_of_true rfl rfl|exact aa.ff aa.noConfusion
|.bool a,b=>by cases b<;>first|exact aa.ff aa.noConfusion|exact aV.trans ⟨aI aa.bool,aa.bool.inj⟩
|.int a,b=>by cases b<;>first|exact aa.ff aa.noConfusion|exact decide_eq_true_iff.trans ⟨aI aa.int,aa.int.inj⟩
|.str a,b=>by cases b<;>first|exact aa.ff aa.noConfusion|exact aV.trans ⟨aI aa.str,aa.str.inj⟩
|.ab a,b=>by cases b<;>first|exact aa.ff aa.noConfusion|exact(aa.xO a _).trans ⟨aI aa.ab,aa.ab.inj⟩
|.ref a,b=>by cases b<;>first|exact aa.ff aa.noConfusion|exact decide_eq_true_iff.trans ⟨aI aa.ref,aa.ref.inj⟩theorem aa.xO:∀a b:List aa,aa.xN a b=Y↔a=b
|[],b=>by cases b<;>first|exact iff_of_true rfl rfl|exact iff_of_false oS (YB _ _).symm
|a::r,b=>by cases b with|nil=>exact iff_of_false oS (YB _ _)|cons b q=>exact fe.trans ⟨fun h=>by rw[(aa.uK a b).mp h.1,(aa.xO r q).mp h.2],fun h=>⟨(aa.uK a b).mpr (gX h).1,(aa.xO r q).mpr (gX h).2⟩⟩end
noncomputable instance:DecidableEq aa:=fun a b=>if h:aa.beq a b=Y then .isTrue ((aa.uK a b).mp h)else .isFalse fun e=>h ((aa.uK a b).mpr e)
set_option genCtorIdx true in inductive AO where|list(xs:List aa)|dict(es:List (aa×aa))|bl(c:Nat)(fs:List (Nat×aa))
noncomputable abbrev AH:=List AO
set_option genCtorIdx true in inductive iY where|add|sub|mul|fdiv|mod|band|bor|bxor|shl|shr
set_option genCtorIdx true in inductive qx where|eq|ne|lt|le|gt|ge
set_option genCtorIdx true in inductive Bi where|len|max|min|sorted|tuple|str
inductive Tg where|ag(i:Nat)|fT(l:List Nat)
mutual inductive Ex where|lit(d:aa)|var(i:Nat)|ai(g:Nat)|ao(e:Ex)(f:Nat)|ad(a i:Ex)|hG(a lo hi:Ex)|aK(op:iY)(a b:Ex)|neg(a:Ex)|nU(a:Ex)|ah(op:qx)(a b:Ex)|dA(p:Bool)(a:Ex)|aY(p:Bool)(a b:Ex)|no(a:Ex)|and(a b:Ex)|or(a b:Ex)|ite(t:Te)(a b:Ex)|ab(es:Es)|dB(es:Es)|il|comp(tg:Tg)(it:It)(cond:Te)(kD:Ex)(nc:List (Option bh))|call(f:Nat)(es:Es)|new(c:Nat)(es:Es)|aR(m:Nat)(o:Ex)(es:Es)|bi(b:Bi)(es:Es)|iZ inductive Es where|nil|cons(e:Ex)(es:Es)inductive Te where|ex(e:Ex)|no(t:Te)|and(a b:Te)|or(a b:Te)|gq(a b c:Ex)inductive It where|ex(e:Ex)|range(n:Ex)end
mutual inductive Sm where|an(t:Tg)(e:Ex)|cT(o:Ex)(f:Nat)(e:Ex)|gr(o i e:Ex)|qy(i:Nat)(op:iY)(e:Ex)|o5(o:Ex)(f:Nat)(op:iY)(e:Ex)|expr(e:Ex)|ifs(t:Te)(a b:Ss)|for(t:Tg)(it:It)(b:Ss)|while(t:Te)(b:Ss)|ret(e:Ex)|si|cont|o6(o i:Ex)|qz(o lo:Ex)|iZ inductive Ss where|nil|cons(s:Sm)(ss:Ss)end
noncomputable abbrev Lc:=List (Option aa)
noncomputable abbrev Po:=aa->AH->Prop
noncomputable abbrev jt:=Nat->List aa->AH->Po->Prop
noncomputable def av:Nat:=2^24-100
noncomputable def small(i:Int):Bool:=match i with|.ofNat n=>k9 n (2^60)|.negSucc n=>k9 (n+1) (2^60)
theorem xP{i:Int}:small i=Y↔-(2^60)<i/\i<2^60:=by rw[show(2:Int)^60=((2^60:Nat):Int)by decide+kernel];have z:(0:Int)<((2^60:Nat):Int):=l8.mpr (uj 60);unfold small;generalize 2^60=k at z;cases i with|ofNat n=>exact⟨fun h=>⟨Kv (Int.neg_neg_of_pos z) (hZ n),cw.mpr (cm h)⟩,fun h=>Bu (cw.mp h.2)⟩|negSucc n=>exact⟨fun h=>⟨Int.neg_lt_neg (cw.mpr (cm h)),rQ (Int.negSucc_lt_zero n) z⟩,fun h=>Bu (cw.mp (Int.lt_of_neg_lt_neg h.1))⟩
mutual noncomputable def cf:Nat->aa->Bool|n,d=>match d with|.none=>Y|.int _=>Y|.str s=>mc s|.ab l=>(match n with|0=>aj|n+1=>gs n l)|.bool _=>aj|.ref _=>aj noncomputable def gs:Nat->List aa->Bool|n,l=>match l with|[]=>Y|d::r=>cf n d&&gs n r end
mutual noncomputable def fi:Nat->aa->Bool|n,d=>match d with|.int _=>Y|.str s=>mc s|.ab l=>(match n with|0=>aj|n+1=>kF n l)|.none=>aj|.bool _=>aj|.ref _=>aj noncomputable def kF:Nat->List aa->Bool|n,l=>match l with|[]=>Y|d::r=>fi n d&&kF n r end
noncomputable def eG(d:aa):Bool:=fi 6 d
noncomputable def cg(d:aa):Bool:=cf 40 d
noncomputable def hH(σ:AH)(a b:aa):Option Bool:=match a with|.int x=>(match b with|.int y=>D (decide (x=y))|b=>if cg b then D aj else I)|.bool x=>(match b with|.bool y=>D (x==y)|_=>I)|.ref i=>(match b with|.ref j=>(match σ[i]? with|some (.list xs)=>(match σ[j]? with|some (.list ys)=>if xs.all cg&&ys.all cg then D (decide (xs=ys))else I|_=>I)|_=>I)|_=>I)|a=>if cg a&&cg b then D (decide (a=b))else I
noncomputable def lA(σ:AH)(d:aa):Option Bool:=match d with|.none=>D aj|.bool b=>D b|.int i=>D (decide (i≠0))|.str _=>I|.ab l=>if l.length<av then D (!l.isEmpty)else I|.ref i=>match σ[i]? with|some (.list xs)=>if xs.length<av then D (!xs.isEmpty)else I|_=>I
noncomputable def qA(op:iY)(x y:Int):Option Int:=match op with|.add=>D (x+y)|.sub=>D (x-y)|.mul=>if small x||small y then D (x*y)else I|.fdiv=>if 0<y&&y<1000000000 then D (x/y)else I|.mod=>if 0<y then D (x%y)else I|.band=>D (km x y)|.bor=>D (qd x y)|.bxor=>D (Kw x y)|.shl=>if 0<=y&&y<60&&small x then D (x*2^y.toNat)else I|.shr=>if 0<=y&&y<60 then D (x/2^y.toNat)else I
noncomputable def iY.uL:iY->Bool|.add=>Y|.sub=>aj|.mul=>aj|.fdiv=>aj|.mod=>aj|.band=>aj|.bor=>aj|.bxor=>aj|.shl=>aj|.shr=>aj
noncomputable def lB(op:iY)(σ:AH)(a b:aa):Option (aa×AH):=match a with|.int x=>(match b with|.int y=>(qA op x y).map fun z=>(.int z,σ)|_=>I)|.ab x=>(match b with|.ab y=>if op.uL&&decide (x.length+y.length<av)then D (.ab (x++y),σ)else I|_=>I)|.str x=>(match b with|.str y=>if op.uL&&decide (x.cps.size+y.cps.size<1000)then D (.str (x++y),σ)else I|_=>I)|_=>I
noncomputable def kG(op:qx)(x y:Int):Bool:=match op with|.eq=>decide (x=y)|.ne=>decide (x≠y)|.lt=>decide (x<y)|.le=>decide (x<=y)|.gt=>decide (x>y)|.ge=>decide (x>=y)
noncomputable def sj(f:Int->Int->Bool)(a b:aa):Option Bool:=match a with|.int x=>(match b with|.int y=>D (f x y)|_=>I)|_=>I
noncomputable def nV(op:qx)(σ:AH)(a b:aa):Option Bool:=match op with|.eq=>hH σ a b|.ne=>(match hH σ a b with|some c=>D (!c)|none=>I)|.lt=>sj (kG .lt) a b|.le=>sj (kG .le) a b|.gt=>sj (kG .gt) a b|.ge=>sj (kG .ge) a b
noncomputable def lD(l:List aa)(i:Int):Option aa:=if small i&&decide (l.length<av)then if 0<=i then l[i.toNat]? else if 0<=i+l.length then l[(i+l.length).toNat]? else I else I
noncomputable def MS(s:bh)(i:Int):Option aa:=if 0<=i&&small i then(s.cps[i.toNat]?).map fun c=>.str ⟨#[c]⟩else I
noncomputable def ca:List (aa×aa)->aa->Option aa|[],_=>I|(k',v')::r,k=>if k'=k then D v' else ca r k
noncomputable def eR:List (aa×aa)->aa->aa->List (aa×aa)|[],k,v=>[(k,v)]|(k',v')::r,k,v=>if k'=k then(k',v)::r else(k',v')::eR r k v
noncomputable def o7:List (aa×aa)->aa->List (aa×aa)|[],_=>[]|(k',v')::r,k=>if k'=k then r else(k',v')::o7 r k
noncomputable def jV:List (Nat×aa)->Nat->Option aa|[],_=>I|(f',v')::r,f=>if f'=f then D v' else jV r f
noncomputable def iH:List (Nat×aa)->Nat->aa->List (Nat×aa)|[],f,v=>[(f,v)]|(f',v')::r,f,v=>if f'=f then(f',v)::r else(f',v')::iH r f v
noncomputable def ci(d:aa):Nat:=match d with|.int _=>1|.ab _=>2|_=>0
noncomputable def dd(es:List (aa×aa))(k:aa):Bool:=eG k&&ci k !=0&&es.all fun p=>ci p.1==ci k
noncomputable def cZ(σ:AH)(a i:aa):Option aa:=match a with|.ab l=>(match i with|.int k=>lD l k|_=>I)|.str s=>(match i with|.int k=>MS s k|_=>I)|.ref j=>(match σ[j]? with|some (.list xs)=>(match i with|.int k=>lD xs k|_=>I)|some (.dict es)=>if dd es i&&ci i==2 then ca es i else I|_=>I)|_=>I
noncomputable def bound(n:Nat)(uM:Nat)(d:aa):Option Nat:=match d with|.none=>D uM|.int i=>if small i then D (if i<0 then(i+n).toNat else min i.toNat n)else I|_=>I
noncomputable def dT(l:List aa)(lo hi:aa):Option (List aa):=if l.length<av then match bound l.length 0 lo with|some a=>(match bound l.length l.length hi with|some b=>D ((l.take b).drop a)|none=>I)|none=>I else I
noncomputable def qB(σ:AH)(a lo hi:aa):Option (aa×AH):=match a with|.ab l=>(match dT l lo hi with|some r=>D (.ab r,σ)|none=>I)|.ref j=>(match σ[j]? with|some (.list xs)=>(match dT xs lo hi with|some r=>D (.ref σ.length,σ++[.list r])|none=>I)|_=>I)|_=>I
noncomputable def io(σ:AH)(a b:aa):Option Bool:=match b with|.ab l=>if cg a&&l.all cg then D (l.contains a)else I|.ref j=>(match σ[j]? with|some (.list xs)=>if cg a&&xs.all cg then D (xs.contains a)else I|some (.dict es)=>if dd es a then D (ca es a).isSome else I|_=>I)|_=>I
noncomputable def ju:List aa->Option (List Int)|[]=>D []|.int i::r=>(ju r).map (i::·)|_::_=>I
noncomputable def nW(x:Int):List Int->List Int|[]=>[x]|y::r=>if x<=y then x::y::r else y::nW x r
noncomputable def jW:List Int->List Int|[]=>[]|x::r=>nW x (jW r)
noncomputable def lE:Int->List Int->Int|m,[]=>m|m,x::r=>lE (if x<m then x else m) r
noncomputable def xQ(σ:AH)(d:aa):Option aa:=match d with|.ab l=>if l.length<av then D (.int l.length)else I|.ref j=>(match σ[j]? with|some (.list xs)=>if xs.length<av then D (.int xs.length)else I|_=>I)|_=>I
noncomputable def nX(as:List aa):Option aa:=match as with|[x]=>D x|_=>I
noncomputable def o8(as:List aa):Option (Int×Int):=match as with|[.int x,.int y]=>D (x,y)|_=>I
noncomputable def nY(σ:AH)(d:aa):Option (List aa):=match d with|.ref j=>(match σ[j]? with|some (.list xs)=>D xs|_=>I)|_=>I
noncomputable def dictAt(σ:AH)(d:aa):Option (List (aa×aa)):=match d with|.ref j=>(match σ[j]? with|some (.dict es)=>D es|_=>I)|_=>I
noncomputable def xR(σ:AH)(d:aa):Option aa:=(nY σ d).bind fun xs=>(ju xs).bind fun l=>match l with|x::r=>if r.length<av then D (.int (lE x r))else I|[]=>I
noncomputable def qC(σ:AH)(d:aa):Option (aa×AH):=match d with|.ref j=>(match σ[j]? with|some (.dict es)=>(ju (es.map (·.1))).bind fun l=>if l.length<60 then D (.ref σ.length,σ++[.list ((jW l).map .int)])else I|_=>I)|_=>I
noncomputable def xS(σ:AH)(d:aa):Option aa:=match d with|.ab l=>D (.ab l)|d=>(nY σ d).bind fun xs=>if xs.length<av then D (.ab xs)else I
noncomputable def xT(d:aa):Option aa:=match d with|.int i=>if 0<=i&&i<10 then D (.str ⟨#[48+i.toNat]⟩)else I|_=>I
noncomputable def iI(b:Bi)(σ:AH)(as:List aa):Option (aa×AH):=match b with|.len=>(nX as).bind fun x=>(xQ σ x).map fun d=>(d,σ)|.max=>(o8 as).map fun p=>(.int (if p.2>p.1 then p.2 else p.1),σ)|.min=>(match as with|[x]=>(xR σ x).map fun d=>(d,σ)|as=>(o8 as).map fun p=>(.int (if p.2<p.1 then p.2 else p.1),σ))|.sorted=>(nX as).bind fun x=>qC σ x|.tuple=>(nX as).bind fun x=>(xS σ x).map fun d=>(d,σ)|.str=>(nX as).bind fun x=>(xT x).map fun d=>(d,σ)
noncomputable def qD(m:Nat)(j:Nat)(xs:List aa)(σ:AH)(as:List aa):Option (aa×AH):=match m with|0=>(nX as).bind fun v=>if xs.length<av&&j !=0 then D (.none,σ.set j (.list (xs++[v])))else I|1=>(nX as).bind fun v=>(match v with|.ref k=>(match σ[k]? with|some (.list ys)=>if xs.length+ys.length<av&&j !=k&&j !=0 then D (.none,σ.set j (.list (xs++ys)))else I|_=>I)|_=>I)|2=>(match as with|[]=>(match xs.getLast? with|some v=>if xs.length<av&&j !=0 then D (v,σ.set j (.list xs.dropLast))else I|none=>I)|_::_=>I)|_=>I
noncomputable def uN(m:Nat)(es:List (aa×aa))(σ:AH)(as:List aa):Option (aa×AH):=match m with|3=>(match as with|[k]=>if dd es k&&ci k==1 then D ((ca es k).getD .none,σ)else I|[k,d]=>if dd es k&&ci k==2 then D ((ca es k).getD d,σ)else I|_=>I)|_=>I
structure Wd where
mH:Nat->Option aa
gu:Nat->Nat->Bool
nZ:Nat->Nat->Option Nat
uO:Nat->Option (Option Nat)
noncomputable def n5:Lc->List Nat->List aa->Option Lc|lc,[],[]=>D lc|lc,i::is,d::ds=>if i<lc.length then n5 (lc.set i (D d)) is ds else I|_,_,_=>I
noncomputable def fj(lc:Lc)(t:Tg)(d:aa):Option Lc:=match t with|.ag i=>if i<lc.length then D (lc.set i (D d))else I|.fT is=>match d with|.ab l=>n5 lc is l|_=>I
def lF(g:Option (Nat×List aa))(σ:AH):Prop:=match g with|none=>True|some (i,xs)=>σ[i]?=D (.list xs)
noncomputable def sk(σ:AH)(d:aa):Option (List aa×Option (Nat×List aa)):=match d with
|.ab l=>if l.length<av then D (l,I)else I|.ref i=>match σ[i]? with|some (.list xs)=>if xs.length<av then D (xs,D (i,xs))else I|_=>I
|_=>I
noncomputable def eU(W:Wd)(σ:AH)(d:aa)(f:Nat):Option aa:=match d with
|.ref i=>match σ[i]? with|some (.bl c fs)=>if W.gu c f then jV fs f else I|_=>I
|_=>I
noncomputable def o9(W:Wd)(σ:AH)(d:aa)(f:Nat)(v:aa):Option AH:=match d with
|.ref j=>match σ[j]? with|some (.bl c fs)=>if W.gu c f&&decide (fs.length<500)&&j !=0 then D (σ.set j (.bl c (iH fs f v)))else I|_=>I
|_=>I
noncomputable def i6(σ:AH)(j:Nat)(k v:aa):Option AH:=match σ[j]? with|some (.dict es)=>if dd es k&&decide (es.length<av)&&j !=0 then D (σ.set j (.dict (eR es k v)))else I|some (.list xs)=>(match k with|.int k=>if 0<=k&&small k&&decide (k.toNat<xs.length)&&decide (xs.length<av)&&j !=0 then D (σ.set j (.list (xs.set k.toNat v)))else I|_=>I)|_=>I
noncomputable def uP(σ:AH)(j:Nat)(k:aa):Option AH:=match σ[j]? with|some (.dict es)=>if dd es k&&ci k==2&&(ca es k).isSome&&decide (es.length<av)&&j !=0 then D (σ.set j (.dict (o7 es k)))else I|_=>I
noncomputable def pb(σ:AH)(j:Nat)(l:aa):Option AH:=match σ[j]? with
|some (.list xs)=>match l with|.int i=>if 0<=i&&small i&&decide (xs.length<av)&&j !=0 then D (σ.set j (.list (xs.take i.toNat)))else I|_=>I
|_=>I
noncomputable def iJ(d:aa):Bool:=match d with|.ref _=>aj|.ab _=>aj|_=>Y
noncomputable def xU(op:iY)(x y:Int):Option Int:=match op with|.add=>D (x+y)|.sub=>D (x-y)|_=>I
def br(c:Bool)(A B:Prop):Prop:=match c with|true=>A|false=>B
def gO{bA:Type}(o:Option bA)(p:bA->Prop):Prop:=match o with|some v=>p v|none=>False
def gP{bA:Type}(o:Option (bA×AH))(p:bA->AH->Prop):Prop:=match o with|some (v,w)=>p v w|none=>False
def gL(o:Option (Option aa))(p:aa->Prop):Prop:=match o with|some (D v)=>p v|_=>False
def jX(d:aa)(p:Int->Prop):Prop:=match d with|.int i=>p i|_=>False
def pe(d:aa)(p:Nat->Prop):Prop:=match d with|.ref i=>p i|_=>False
def Cw(d:aa)(p:Prop):Prop:=match d with|.none=>p|_=>False
noncomputable def jY(g:Option (Nat×List aa))(t:Tg)(c:Lc->AH->(Bool->AH->Prop)->Prop)(e:Lc->AH->Po->Prop):List aa->List aa->Lc->AH->Po->Prop|[],dN,lc,σ,k=>lF g σ/\k (.ref σ.length) (σ++[.list dN])|x::r,dN,lc,σ,k=>lF g σ/\gO (fj lc t x) fun jZ=>c jZ σ fun b σ=>br b (e jZ σ fun v σ=>jY g t c e r (dN++[v]) jZ σ k) (jY g t c e r dN jZ σ k)
section
variable(W:Wd)(K:jt)
def dt(m j:Nat)(uQ σ:AH)(vs:List aa)(k:Po):Prop:=gO uQ[j]? fun o=>match o with|.bl c fs=>jV fs m=I/\gO (W.nZ c m) fun f=>K f (.ref j::vs) σ k|.list _=>gO (nY σ (.ref j)) fun xs=>gP (qD m j xs σ vs) k|.dict _=>gO (dictAt σ (.ref j)) fun es=>gP (uN m es σ vs) k
def lG(c:Nat)(vs:List aa)(σ:AH)(k:Po):Prop:=gO (W.uO c) fun i=>match i with|some f=>K f (.ref σ.length::vs) (σ++[.bl c []]) fun d au=>Cw d (k (.ref σ.length) au)|none=>(match vs with|[]=>k (.ref σ.length) (σ++[.bl c []])|_=>False)
mutual noncomputable def wE:Ex->Lc->AH->Po->Prop|.lit d,_,σ,k=>k d σ|.var i,lc,σ,k=>gL lc[i]? fun d=>k d σ|.ai g,_,σ,k=>gO (W.mH g) fun d=>k d σ|.ao e f,lc,σ,k=>wE e lc σ fun d σ=>gO (eU W σ d f) fun v=>k v σ|.ad a i,lc,σ,k=>wE a lc σ fun x σ=>wE i lc σ fun y σ=>gO (cZ σ x y) fun d=>k d σ|.hG a lo hi,lc,σ,k=>wE a lc σ fun x σ=>wE lo lc σ fun l σ=>wE hi lc σ fun h σ=>gP (qB σ x l h) k|.aK op a b,lc,σ,k=>wE a lc σ fun x σ=>wE b lc σ fun y σ=>gP (lB op σ x y) k|.neg a,lc,σ,k=>wE a lc σ fun x σ=>jX x fun i=>k (.int (-i)) σ|.nU a,lc,σ,k=>wE a lc σ fun x σ=>jX x fun i=>k (.int (-i-1)) σ|.ah op a b,lc,σ,k=>wE a lc σ fun x σ=>wE b lc σ fun y σ=>gO (nV op σ x y) fun c=>k (.bool c) σ|.dA p a,lc,σ,k=>wE a lc σ fun x σ=>k (.bool (decide (x=.none)==p)) σ|.aY p a b,lc,σ,k=>wE a lc σ fun x σ=>wE b lc σ fun y σ=>gO (io σ x y) fun c=>k (.bool (c==p)) σ|.no a,lc,σ,k=>wE a lc σ fun x σ=>gO (lA σ x) fun c=>k (.bool (!c)) σ|.and a b,lc,σ,k=>wE a lc σ fun x σ=>gO (lA σ x) fun c=>br c (wE b lc σ k) (k x σ)|.or a b,lc,σ,k=>wE a lc σ fun x σ=>gO (lA σ x) fun c=>br c (k x σ) (wE b lc σ k)|.ite t a b,lc,σ,k=>wT t lc σ fun c σ=>br c (wE a lc σ k) (wE b lc σ k)|.ab es,lc,σ,k=>lH es lc σ fun vs σ=>k (.ab vs) σ|.dB es,lc,σ,k=>lH es lc σ fun vs σ=>k (.ref σ.length) (σ++[.list vs])|.il,_,σ,k=>k (.ref σ.length) (σ++[.dict []])|.comp tg it cond kD _,lc,σ,k=>wI it lc σ fun xs g σ=>jY g tg (wT cond) (wE kD) xs [] lc σ k|.call f es,lc,σ,k=>lH es lc σ fun vs σ=>K f vs σ k|.new c es,lc,σ,k=>lH es lc σ fun vs σ=>lG W K c vs σ k|.aR m o es,lc,σ,k=>wE o lc σ fun d uQ=>lH es lc uQ fun vs σ=>pe d fun j=>dt W K m j uQ σ vs k|.bi b es,lc,σ,k=>lH es lc σ fun vs σ=>gP (iI b σ vs) k|.iZ,_,_,_=>False noncomputable def lH:Es->Lc->AH->(List aa->AH->Prop)->Prop|.nil,_,σ,k=>k [] σ|.cons e es,lc,σ,k=>wE e lc σ fun v σ=>lH es lc σ fun vs σ=>k (v::vs) σ noncomputable def wT:Te->Lc->AH->(Bool->AH->Prop)->Prop|.ex e,lc,σ,k=>wE e lc σ fun x σ=>gO (lA σ x) fun c=>k c σ|.no a,lc,σ,k=>wT a lc σ fun b σ=>k (!b) σ|.and a b,lc,σ,k=>wT a lc σ fun c σ=>br c (wT b lc σ k) (k aj σ)|.or a b,lc,σ,k=>wT a lc σ fun c σ=>br c (k Y σ) (wT b lc σ k)|.gq a b c,lc,σ,k=>wE a lc σ fun x σ=>wE b lc σ fun y σ=>jX x fun i=>jX y fun j=>br (decide (i<=j)) (wE c lc σ fun z σ=>jX z fun l=>k (decide (j<l)) σ) (k aj σ)noncomputable def wI:It->Lc->AH->(List aa->Option (Nat×List aa)->AH->Prop)->Prop|.range n,lc,σ,k=>wE n lc σ fun x σ=>jX x fun i=>(i<1000000&&small i)=Y/\k ((iV i.toNat).map fun i=>.int (ko i)) I σ|.ex e,lc,σ,k=>wE e lc σ fun x σ=>gO (sk σ x) fun p=>k p.1 p.2 σ end
noncomputable abbrev Kn:=Lc->AH->Prop
structure Kt where
kn:Kn
kr:Po
kc:Kn
noncomputable def kR(k:Po):Kt:=⟨fun _ σ=>k .none σ,k,fun _ σ=>k .none σ⟩
noncomputable def lI(aw:Kt)(K:Kn):Kt:=⟨K,aw.kr,K⟩
noncomputable def kS(f:Lc->AH->Kt->Prop)(aw:Kt):Kt:=⟨fun lc σ=>f lc σ aw,aw.kr,aw.kc⟩
noncomputable def qE(t:Lc->AH->(Bool->AH->Prop)->Prop)(b:Lc->AH->Kn->Prop):Nat->Lc->AH->Kn->Prop|0,_,_,_=>False|n+1,lc,σ,kn=>t lc σ fun c σ=>br c (b lc σ fun lc σ=>qE t b n lc σ kn) (kn lc σ)
noncomputable def pf(g:Option (Nat×List aa))(t:Tg)(b:Lc->AH->Kn->Prop):List aa->Lc->AH->Kn->Prop|[],lc,σ,kn=>lF g σ/\kn lc σ|x::r,lc,σ,kn=>lF g σ/\gO (fj lc t x) fun jZ=>b jZ σ fun lc σ=>pf g t b r lc σ kn
mutual noncomputable def wS:Sm->Lc->AH->Kt->Prop|.an t e,lc,σ,aw=>wE W K e lc σ fun v σ=>gO (fj lc t v) fun jZ=>aw.kn jZ σ|.cT o f e,lc,σ,aw=>wE W K e lc σ fun v σ=>wE W K o lc σ fun d σ=>gO (o9 W σ d f v) fun au=>aw.kn lc au|.gr o i e,lc,σ,aw=>wE W K e lc σ fun v σ=>wE W K o lc σ fun d σ=>pe d fun j=>wE W K i lc σ fun x σ=>gO (i6 σ j x v) fun au=>aw.kn lc au|.qy i op e,lc,σ,aw=>gL lc[i]? fun x=>wE W K e lc σ fun d σ=>jX x fun x=>jX d fun v=>gO (xU op x v) fun z=>gO (fj lc (.ag i) (.int z)) fun jZ=>aw.kn jZ σ|.o5 o f op e,lc,σ,aw=>wE W K o lc σ fun d σ=>gO (eU W σ d f) fun a=>wE W K e lc σ fun y σ=>jX a fun a=>jX y fun v=>gO (xU op a v) fun z=>gO (o9 W σ d f (.int z)) fun au=>aw.kn lc au|.expr e,lc,σ,aw=>wE W K e lc σ fun d σ=>br (iJ d) (aw.kn lc σ) False|.ifs t a b,lc,σ,aw=>wT W K t lc σ fun c σ=>br c (aP a lc σ aw) (aP b lc σ aw)|.for t it b,lc,σ,aw=>wI W K it lc σ fun xs g σ=>pf g t (fun lc σ k=>aP b lc σ (lI aw k)) xs lc σ aw.kn|.while t b,lc,σ,aw=>∃n,qE (wT W K t) (fun lc σ k=>aP b lc σ (lI aw k)) n lc σ aw.kn|.ret e,lc,σ,aw=>wE W K e lc σ aw.kr|.si,lc,σ,aw=>aw.kr .none σ|.cont,lc,σ,aw=>aw.kc lc σ|.o6 o i,lc,σ,aw=>wE W K o lc σ fun d σ=>pe d fun j=>wE W K i lc σ fun x σ=>gO (uP σ j x) fun au=>aw.kn lc au|.qz o lo,lc,σ,aw=>wE W K o lc σ fun d σ=>pe d fun j=>wE W K lo lc σ fun x σ=>gO (pb σ j x) fun au=>aw.kn lc au|.iZ,lc,σ,aw=>False noncomputable def aP:Ss->Lc->AH->Kt->Prop|.nil,lc,σ,aw=>aw.kn lc σ|.cons s ss,lc,σ,aw=>wS s lc σ (kS (aP ss) aw)end
end
structure Fn where
dU:Nat
hJ:List aa
kH:Nat
body:Ss
noncomputable def bindL(F:Fn)(vs:List aa):Option Lc:=if vs.length<=F.dU&&decide (F.dU<=vs.length+F.hJ.length)then D ((vs++F.hJ.drop (F.hJ.length-(F.dU-vs.length))).map D++Bv (F.kH-F.dU) I)else I
noncomputable def iK(W:Wd)(fn:Nat->Option Fn):Nat->jt|0,_,_,_,_=>False|n+1,f,vs,σ,k=>∃F lc,fn f=D F/\bindL F vs=D lc/\aP W (iK W fn n) F.body lc σ (kR k)
theorem MT{W:Wd}{fn:Nat->Option Fn}{n f:Nat}{vs:List aa}{σ:AH}{k:Po}(F:Fn)(lc:Lc)(h1:fn f=D F)(h2:bindL F vs=D lc)(h:aP W (iK W fn n) F.body lc σ (kR k)):iK W fn (n+1) f vs σ k:=⟨F,lc,h1,h2,h⟩
theorem Cx{W:Wd}{fn:Nat->Option Fn}{n f:Nat}{vs:List aa}{σ:AH}{k:Po}(h:iK W fn (n+1) f vs σ k):∃F lc,fn f=D F/\bindL F vs=D lc/\aP W (iK W fn n) F.body lc σ (kR k):=h
theorem MU{W:Wd}{fn:Nat->Option Fn}{f:Nat}{vs:List aa}{σ:AH}{k:Po}(h:iK W fn 0 f vs σ k):False:=h
noncomputable abbrev S0(s:String):Str:=Kx s
noncomputable abbrev Cy:Ss:=.cons (.cT (.var 0) 6 (.dB .nil)) .nil
noncomputable abbrev Cz:Ss:=.cons (.expr (.aR 0 (.ao (.var 0) 6) (.cons (.ab (.cons (.var 1) (.cons (.var 2) .nil))) .nil))) .nil
noncomputable abbrev CA:Ss:=.cons (.an (.ag 1) .il) (.cons (.for (.fT [2,3]) (.ex (.ao (.var 0) 6)) (.cons (.gr (.var 1) (.var 2) (.var 3)) .nil)) (.cons (.ret (.bi .sorted (.cons (.var 1) .nil))) .nil))
noncomputable abbrev CB:Ss:=.cons (.cT (.var 0) 6 (.dB .nil)) (.cons (.cT (.var 0) 16 .il) (.cons (.cT (.var 0) 15 (.dB (.cons (.lit (.none)) .nil))) (.cons (.cT (.var 0) 14 (.dB .nil)) (.cons (.cT (.var 0) 13 (.dB .nil)) (.cons (.cT (.var 0) 12 (.dB .nil)) (.cons (.cT (.var 0) 11 .il) (.cons (.cT (.var 0) 10 .il) (.cons (.cT (.var 0) 9 (.lit (.int 0))) (.cons (.cT (.var 0) 8 (.lit (.int 0))) (.cons (.for (.ag 1) (.ex (.ai 50)) (.cons (.expr (.aR 7 (.var 0) (.cons (.var 1) .nil))) .nil)) .nil))))))))))
noncomputable abbrev CC:Ss:=.cons (.ifs (.ex (.aY Y (.var 1) (.ao (.var 0) 16))) (.cons (.ret (.ad (.ao (.var 0) 16) (.var 1))) .nil) .nil) (.cons (.an (.ag 2) (.bi .len (.cons (.ao (.var 0) 6) .nil))) (.cons (.expr (.aR 0 (.ao (.var 0) 6) (.cons (.var 1) .nil))) (.cons (.gr (.ao (.var 0) 16) (.var 1) (.var 2)) (.cons (.ret (.var 2)) .nil))))
noncomputable abbrev CD:Ss:=.cons (.ret (.aR 7 (.var 0) (.cons (.ab (.cons (.ai 7) (.cons (.var 1) (.cons (.var 2) .nil)))) .nil))) .nil
noncomputable abbrev CE:Ss:=.cons (.ret (.aR 7 (.var 0) (.cons (.ab (.cons (.ai 8) (.cons (.var 1) (.cons (.var 2) .nil)))) .nil))) .nil
noncomputable abbrev CF:Ss:=.cons (.ret (.aR 7 (.var 0) (.cons (.ab (.cons (.ai 6) (.cons (.ite (.ex (.var 1)) (.lit (.int 1)) (.lit (.int 0))) (.cons (.var 2) .nil)))) .nil))) .nil
noncomputable abbrev xV:Ss:=.cons (.ret (.aR 7 (.var 0) (.cons (.ab (.cons (.ai 15) (.cons (.var 1) (.cons (.var 2) .nil)))) .nil))) .nil
noncomputable abbrev CG:Ss:=.cons (.an (.ag 2) (.neg (.lit (.int 1)))) (.cons (.for (.ag 3) (.range (.bi .len (.cons (.var 0) .nil))) (.cons (.ifs (.ex (.aY Y (.ad (.ad (.var 0) (.var 3)) (.lit (.int 1))) (.var 1))) (.cons (.an (.ag 2) (.var 3)) .nil) .nil) .nil)) (.cons (.ret (.var 2)) .nil))
noncomputable abbrev CH:Ss:=.cons (.an (.ag 2) (.call 15 (.cons (.var 1) (.cons (.ab (.cons (.ai 39) .nil)) .nil)))) (.cons (.an (.ag 3) (.dB .nil)) (.cons (.for (.ag 4) (.range (.bi .len (.cons (.var 1) .nil))) (.cons (.an (.fT [5,6]) (.ad (.var 1) (.var 4))) (.cons (.ifs (.and (.ex (.ah .eq (.var 6) (.ai 40))) (.ex (.ah .lt (.var 4) (.var 2)))) (.cons (.expr (.aR 0 (.var 3) (.cons (.ab (.cons (.call 27 (.cons (.var 0) (.cons (.var 5) .nil))) (.cons (.ai 39) .nil))) .nil))) .nil) (.cons (.expr (.aR 0 (.var 3) (.cons (.ab (.cons (.var 5) (.cons (.var 6) .nil))) .nil))) .nil)) .nil))) (.cons (.ret (.var 3)) .nil)))
noncomputable abbrev CJ:Ss:=.cons (.an (.ag 2) (.neg (.lit (.int 1)))) (.cons (.for (.ag 3) (.range (.bi .len (.cons (.var 1) .nil))) (.cons (.ifs (.and (.ex (.ah .lt (.var 2) (.lit (.int 0)))) (.ex (.ah .eq (.ad (.ad (.var 1) (.var 3)) (.lit (.int 1))) (.ai 41)))) (.cons (.an (.ag 2) (.var 3)) .nil) .nil) .nil)) (.cons (.an (.ag 4) (.call 15 (.cons (.var 1) (.cons (.ab (.cons (.ai 41) (.cons (.ai 40) .nil))) .nil)))) (.cons (.ifs (.or (.ex (.ah .lt (.var 2) (.lit (.int 0)))) (.ex (.ah .le (.var 4) (.var 2)))) (.cons (.ret (.var 1)) .nil) .nil) (.cons (.an (.ag 5) (.dB .nil)) (.cons (.for (.fT [6,7]) (.ex (.hG (.var 1) (.var 2) (.aK .add (.var 4) (.lit (.int 1))))) (.cons (.expr (.aR 0 (.var 5) (.cons (.ite (.ex (.ah .eq (.var 7) (.ai 40))) (.call 27 (.cons (.var 0) (.cons (.var 6) .nil))) (.var 6)) .nil))) .nil)) (.cons (.ret (.aK .add (.aK .add (.hG (.var 1) (.lit .none) (.var 2)) (.dB (.cons (.ab (.cons (.call 26 (.cons (.var 0) (.cons (.var 5) .nil))) (.cons (.ai 41) .nil))) .nil))) (.hG (.var 1) (.aK .add (.var 4) (.lit (.int 1))) (.lit .none)))) .nil))))))
noncomputable abbrev uR:Ss:=.cons (.an (.ag 3) (.comp (.fT [4,5]) (.ex (.var 1)) (.ex (.lit (.bool Y))) (.ab (.cons (.var 4) (.cons (.var 5) .nil))) [I,I,I,I,D (S0 "given"),D (S0 "mark")])) (.cons (.ifs (.ex (.ah .lt (.call 15 (.cons (.var 3) (.cons (.ab (.cons (.ai 42) .nil)) .nil))) (.lit (.int 0)))) (.cons (.an (.ag 3) (.call 17 (.cons (.var 0) (.cons (.call 16 (.cons (.var 0) (.cons (.var 3) .nil))) .nil)))) (.cons (.ifs (.and (.ex (.ah .eq (.bi .len (.cons (.var 3) .nil)) (.lit (.int 1)))) (.ex (.ah .eq (.ad (.ad (.var 3) (.lit (.int 0))) (.lit (.int 1))) (.ai 41)))) (.cons (.ret (.call 14 (.cons (.var 0) (.cons (.ad (.ad (.var 3) (.lit (.int 0))) (.lit (.int 0))) (.cons (.var 2) .nil))))) .nil) .nil) .nil)) .nil) (.cons (.ret (.aR 7 (.var 0) (.cons (.ab (.cons (.ai 16) (.cons (.bi .tuple (.cons (.var 3) .nil)) (.cons (.var 2) .nil)))) .nil))) .nil))
noncomputable abbrev xW:Ss:=.cons (.ret (.aR 7 (.var 0) (.cons (.ab (.cons (.ai 17) (.cons (.bi .tuple (.cons (.var 1) .nil)) (.cons (.bi .tuple (.cons (.var 2) .nil)) (.cons (.var 3) (.cons (.var 4) (.cons (.var 5) .nil))))))) .nil))) .nil
noncomputable abbrev CK:Ss:=.cons (.ifs (.ex (.ah .eq (.var 1) (.ai 26))) (.cons (.ret (.ab .nil)) .nil) .nil) (.cons (.an (.ag 2) (.ad (.ao (.var 0) 6) (.var 1))) (.cons (.ifs (.ex (.ah .eq (.ad (.var 2) (.lit (.int 0))) (.ai 10))) (.cons (.ret (.ad (.var 2) (.lit (.int 1)))) .nil) .nil) (.cons (.ret (.ab (.cons (.var 1) .nil))) .nil)))
noncomputable abbrev CL:Ss:=.cons (.an (.ag 1) (.ad (.var 0) (.lit (.int 0)))) (.cons (.ifs (.or (.ex (.ah .eq (.var 1) (.ai 7))) (.ex (.ah .eq (.var 1) (.ai 22)))) (.cons (.ret (.ai 30)) .nil) .nil) (.cons (.ifs (.ex (.ah .eq (.var 1) (.ai 8))) (.cons (.ret (.ai 31)) .nil) .nil) (.cons (.ifs (.ex (.ah .eq (.var 1) (.ai 9))) (.cons (.ret (.ite (.ex (.iZ)) (.ai 30) (.ai 31))) .nil) .nil) (.cons (.ret (.neg (.lit (.int 1)))) .nil))))
noncomputable abbrev CM:Ss:=.cons (.an (.ag 2) (.ad (.ao (.var 0) 6) (.var 1))) (.cons (.ifs (.and (.ex (.aY Y (.ad (.var 2) (.lit (.int 0))) (.ai 52))) (.ex (.ah .eq (.ad (.var 2) (.neg (.lit (.int 1)))) (.lit (.int 1))))) (.cons (.ret (.aR 3 (.ao (.var 0) 16) (.cons (.aK .add (.hG (.var 2) (.lit .none) (.neg (.lit (.int 1)))) (.ab (.cons (.lit (.int 0)) .nil))) (.cons (.neg (.lit (.int 1))) .nil)))) .nil) .nil) (.cons (.ret (.neg (.lit (.int 1)))) .nil))
noncomputable abbrev CN:Ss:=.cons (.ifs (.and (.or (.ex (.aY Y (.ai 32) (.var 0))) (.ex (.aY Y (.ai 37) (.var 0)))) (.or (.ex (.aY Y (.ai 33) (.var 0))) (.ex (.aY Y (.ai 38) (.var 0))))) (.cons (.gr (.var 0) (.ai 32) (.lit (.int 1))) (.cons (.gr (.var 0) (.ai 33) (.lit (.int 1))) .nil)) .nil) .nil
noncomputable abbrev CO:Ss:=.cons (.ifs (.ex (.aY Y (.call 22 (.cons (.var 0) (.cons (.var 2) .nil))) (.var 1))) (.cons (.ret (.lit (.bool aj))) .nil) .nil) (.cons (.ret (.aY aj (.call 21 (.cons (.ad (.ao (.var 0) 6) (.var 2)) .nil)) (.var 1))) .nil)
noncomputable abbrev CP:Ss:=.cons (.for (.ag 1) (.ex (.ab (.cons (.ai 24) (.cons (.ai 36) (.cons (.ai 25) .nil))))) (.cons (.ifs (.ex (.aY Y (.var 1) (.var 0))) (.cons (.ret (.var 1)) .nil) .nil) .nil)) (.cons (.ret (.neg (.lit (.int 1)))) .nil)
noncomputable abbrev CQ:Ss:=.cons (.an (.ag 2) .il) (.cons (.for (.ag 3) (.ex (.var 1)) (.cons (.for (.ag 4) (.ex (.call 20 (.cons (.var 0) (.cons (.var 3) .nil)))) (.cons (.gr (.var 2) (.var 4) (.lit (.int 1))) .nil)) .nil)) (.cons (.an (.ag 5) (.call 25 (.cons (.var 2) .nil))) (.cons (.ifs (.ex (.ah .ge (.var 5) (.lit (.int 0)))) (.cons (.ret (.var 5)) .nil) .nil) (.cons (.expr (.call 23 (.cons (.var 2) .nil))) (.cons (.an (.ag 6) (.comp (.ag 7) (.ex (.bi .sorted (.cons (.var 2) .nil))) (.ex (.call 24 (.cons (.var 0) (.cons (.var 2) (.cons (.var 7) .nil))))) (.var 7) [D (S0 "tab"),I,D (S0 "got"),I,I,I,I,D (S0 "t")])) (.cons (.ifs (.no (.ex (.var 6))) (.cons (.ret (.ai 26)) .nil) .nil) (.cons (.ifs (.ex (.ah .eq (.bi .len (.cons (.var 6) .nil)) (.lit (.int 1)))) (.cons (.ret (.ad (.var 6) (.lit (.int 0)))) .nil) .nil) (.cons (.ifs (.ex (.ah .gt (.bi .len (.cons (.var 6) .nil)) (.ai 49))) (.cons .iZ .nil) .nil) (.cons (.ret (.aR 7 (.var 0) (.cons (.ab (.cons (.ai 10) (.cons (.bi .tuple (.cons (.var 6) .nil)) .nil))) .nil))) .nil)))))))))
noncomputable abbrev CR:Ss:=.cons (.ret (.call 26 (.cons (.var 0) (.cons (.ab (.cons (.var 1) (.cons (.ai 28) .nil))) .nil)))) .nil
noncomputable abbrev CS:Ss:=.cons (.ret (.aY Y (.ad (.ad (.ao (.var 0) 6) (.var 1)) (.lit (.int 0))) (.ai 51))) .nil
noncomputable abbrev CT:Ss:=.cons (.an (.ag 2) (.ad (.ao (.var 0) 6) (.var 1))) (.cons (.ret (.and (.aY Y (.ad (.var 2) (.lit (.int 0))) (.ai 52)) (.ah .eq (.ad (.var 2) (.neg (.lit (.int 1)))) (.lit (.int 1))))) .nil)
noncomputable abbrev CU:Ss:=.cons (.ifs (.ex (.call 29 (.cons (.var 0) (.cons (.var 1) .nil)))) (.cons (.ret (.aR 7 (.var 0) (.cons (.aK .add (.hG (.ad (.ao (.var 0) 6) (.var 1)) (.lit .none) (.neg (.lit (.int 1)))) (.ab (.cons (.lit (.int 0)) .nil))) .nil))) .nil) .nil) (.cons (.ret (.var 1)) .nil)
noncomputable abbrev CV:Ss:=.cons (.cT (.var 0) 20 (.var 1)) (.cons (.cT (.var 0) 19 (.lit (.int 0))) (.cons (.cT (.var 0) 18 (.ai 53)) (.cons (.cT (.var 0) 17 (.ai 54)) .nil)))
noncomputable abbrev CX:Ss:=.cons (.ret (.var 1)) .nil
noncomputable abbrev CY:Ss:=.cons (.ret (.bi .len (.cons (.comp (.fT [1,2]) (.ex (.ad (.var 0) (.lit (.int 1)))) (.ex (.ah .eq (.var 2) (.ai 39))) (.var 2) [I,D (S0 "given"),D (S0 "mark")]) .nil))) .nil
noncomputable abbrev CZ:Ss:=.cons (.for (.fT [1,2]) (.ex (.ad (.var 0) (.lit (.int 1)))) (.cons (.ifs (.or (.ex (.ah .eq (.var 2) (.ai 41))) (.ex (.ah .eq (.var 2) (.ai 42)))) (.cons (.ret (.neg (.lit (.int 1)))) .nil) .nil) .nil)) (.cons (.ret (.bi .len (.cons (.ad (.var 0) (.lit (.int 1))) .nil))) .nil)
noncomputable abbrev C0:Ss:=.cons (.ifs (.ex (.ah .eq (.ad (.var 1) (.lit (.int 1))) (.ai 42))) (.cons (.ret (.ai 25)) .nil) .nil) (.cons (.ret (.ite (.ex (.ah .eq (.ad (.var 1) (.lit (.int 1))) (.ai 40))) (.call 27 (.cons (.var 0) (.cons (.ad (.var 1) (.lit (.int 0))) .nil))) (.ad (.var 1) (.lit (.int 0))))) .nil)
noncomputable abbrev C1:Ss:=.cons (.ifs (.ex (.ah .eq (.ad (.var 0) (.lit (.int 0))) (.ai 15))) (.cons (.ret (.lit (.int 0))) .nil) .nil) (.cons (.for (.ag 1) (.range (.bi .len (.cons (.ad (.var 0) (.lit (.int 1))) .nil))) (.cons (.ifs (.ex (.aY Y (.ad (.ad (.ad (.var 0) (.lit (.int 1))) (.var 1)) (.lit (.int 1))) (.ab (.cons (.ai 41) (.cons (.ai 42) .nil))))) (.cons (.ret (.var 1)) .nil) .nil) .nil)) (.cons (.ret (.bi .len (.cons (.ad (.var 0) (.lit (.int 1))) .nil))) .nil))
noncomputable abbrev C2:Ss:=.cons (.an (.ag 2) (.hG (.ad (.var 1) (.lit (.int 1))) (.call 51 (.cons (.var 1) .nil)) (.lit .none))) (.cons (.ret (.ite (.ex (.var 2)) (.call 26 (.cons (.ao (.var 0) 20) (.cons (.comp (.ag 3) (.ex (.var 2)) (.ex (.lit (.bool Y))) (.call 50 (.cons (.ao (.var 0) 20) (.cons (.var 3) .nil))) [D (S0 "host"),I,I,D (S0 "elem")]) .nil))) (.neg (.lit (.int 1))))) .nil)
noncomputable abbrev C3:Ss:=.cons (.ifs (.or (.no (.ex (.ad (.var 1) (.lit (.int 2))))) (.ex (.ah .ne (.ad (.ad (.ad (.var 1) (.lit (.int 2))) (.neg (.lit (.int 1)))) (.lit (.int 2))) (.ai 45)))) (.cons (.ret (.ab .nil)) .nil) .nil) (.cons (.an (.ag 2) (.aR 22 (.var 0) (.cons (.ad (.ad (.ad (.var 1) (.lit (.int 2))) (.neg (.lit (.int 1)))) (.lit (.int 1))) .nil))) (.cons (.ret (.ite (.ex (.ah .eq (.var 2) (.ai 26))) (.ab (.cons (.var 2) .nil)) (.call 20 (.cons (.ao (.var 0) 20) (.cons (.var 2) .nil))))) .nil))
noncomputable abbrev C4:Ss:=.cons (.ret (.bi .len (.cons (.comp (.ag 1) (.ex (.ad (.var 0) (.lit (.int 2)))) (.ex (.ah .ne (.ad (.var 1) (.lit (.int 2))) (.ai 45))) (.var 1) [I,D (S0 "param")]) .nil))) .nil
noncomputable abbrev C5:Ss:=.cons (.ifs (.ex (.ah .lt (.var 2) (.call 51 (.cons (.var 1) .nil)))) (.cons (.ret (.call 50 (.cons (.ao (.var 0) 20) (.cons (.ad (.ad (.var 1) (.lit (.int 1))) (.var 2)) .nil)))) .nil) .nil) (.cons (.ret (.call 52 (.cons (.var 0) (.cons (.var 1) .nil)))) .nil)
noncomputable abbrev C6:Ss:=.cons (.an (.ag 3) (.ad (.ao (.ao (.var 0) 20) 6) (.var 1))) (.cons (.ifs (.ex (.ah .eq (.ad (.var 3) (.lit (.int 0))) (.ai 15))) (.cons (.ret (.ad (.var 3) (.lit (.int 1)))) .nil) .nil) (.cons (.ifs (.ex (.ah .eq (.ad (.var 3) (.lit (.int 0))) (.ai 16))) (.cons (.ret (.call 57 (.cons (.var 0) (.cons (.var 3) (.cons (.var 2) .nil))))) .nil) .nil) (.cons (.ifs (.ex (.aY Y (.var 1) (.ab (.cons (.ai 24) (.cons (.ai 36) (.cons (.ai 26) .nil)))))) (.cons (.ret (.var 1)) .nil) .nil) (.cons (.ret (.aR 23 (.var 0) (.cons (.ab (.cons (.ai 19) (.cons (.var 1) (.cons (.ai 31) .nil)))) .nil))) .nil))))
noncomputable abbrev C7:Ss:=.cons (.an (.ag 3) (.ad (.ao (.ao (.var 0) 20) 6) (.var 1))) (.cons (.an (.ag 4) (.call 56 (.cons (.var 3) .nil))) (.cons (.ifs (.ex (.ah .lt (.var 2) (.var 4))) (.cons (.an (.ag 5) (.ad (.ad (.var 3) (.lit (.int 2))) (.var 2))) (.cons (.an (.ag 6) (.aR 22 (.var 0) (.cons (.ad (.var 5) (.lit (.int 1))) .nil))) (.cons (.ret (.ite (.ex (.ah .eq (.ad (.var 5) (.lit (.int 2))) (.ai 44))) (.call 27 (.cons (.ao (.var 0) 20) (.cons (.var 6) .nil))) (.var 6))) .nil))) .nil) (.cons (.an (.ag 7) (.comp (.ag 9) (.ex (.call 55 (.cons (.var 0) (.cons (.var 3) .nil)))) (.ex (.lit (.bool Y))) (.call 58 (.cons (.var 0) (.cons (.var 9) (.cons (.aK .sub (.var 2) (.var 4)) .nil)))) [D (S0 "host"),I,D (S0 "place"),I,D (S0 "fixed"),I,I,I,I,D (S0 "part"),I])) (.cons (.an (.ag 8) (.comp (.ag 10) (.ex (.var 7)) (.ex (.ah .ge (.var 10) (.lit (.int 0)))) (.aR 22 (.var 0) (.cons (.var 10) .nil)) [D (S0 "host"),I,I,I,I,I,I,I,I,I,D (S0 "t")])) (.cons (.ret (.ite (.ex (.var 8)) (.call 26 (.cons (.ao (.var 0) 20) (.cons (.var 8) .nil))) (.neg (.lit (.int 1))))) .nil)))))
noncomputable abbrev C8:Ss:=.cons (.an (.ag 1) (.lit (.int 0))) (.cons (.for (.ag 2) (.range (.bi .len (.cons (.ad (.var 0) (.lit (.int 2))) .nil))) (.cons (.ifs (.ex (.ah .eq (.ad (.ad (.ad (.var 0) (.lit (.int 2))) (.var 2)) (.lit (.int 2))) (.ai 43))) (.cons (.an (.ag 1) (.aK .add (.var 2) (.lit (.int 1)))) .nil) .nil) .nil)) (.cons (.ret (.var 1)) .nil))
noncomputable abbrev C9:Ss:=.cons (.an (.ag 2) (.call 62 (.cons (.var 0) (.cons (.var 1) .nil)))) (.cons (.while (.and (.ex (.ah .gt (.var 2) (.lit (.int 0)))) (.ex (.aY Y (.ai 27) (.call 20 (.cons (.ao (.var 0) 20) (.cons (.call 59 (.cons (.var 0) (.cons (.var 1) (.cons (.aK .sub (.var 2) (.lit (.int 1))) .nil)))) .nil)))))) (.cons (.qy 2 .sub (.lit (.int 1))) .nil)) (.cons (.ret (.var 2)) .nil))
noncomputable abbrev Da:Ss:=.cons (.an (.ag 2) (.ad (.ao (.ao (.var 0) 20) 6) (.var 1))) (.cons (.an (.ag 3) (.dB .nil)) (.cons (.for (.ag 4) (.ex (.call 55 (.cons (.var 0) (.cons (.var 2) .nil)))) (.cons (.an (.ag 5) (.ad (.ao (.ao (.var 0) 20) 6) (.var 4))) (.cons (.expr (.aR 0 (.var 3) (.cons (.ite (.ex (.ah .eq (.ad (.var 5) (.lit (.int 0))) (.ai 16))) (.call 48 (.cons (.var 5) .nil)) (.lit (.int 0))) .nil))) .nil))) (.cons (.an (.ag 6) (.ite (.ex (.var 3)) (.bi .min (.cons (.var 3) .nil)) (.lit (.int 0)))) (.cons (.ret (.ite (.ex (.ah .gt (.var 6) (.lit (.int 0)))) (.aK .add (.call 56 (.cons (.var 2) .nil)) (.var 6)) (.call 60 (.cons (.var 2) .nil)))) .nil))))
noncomputable abbrev Db:Ss:=.cons (.an (.ag 2) (.ad (.ao (.ao (.var 0) 20) 6) (.var 1))) (.cons (.an (.ag 3) (.lit (.int 0))) (.cons (.for (.ag 4) (.ex (.call 55 (.cons (.var 0) (.cons (.var 2) .nil)))) (.cons (.an (.ag 5) (.ad (.ao (.ao (.var 0) 20) 6) (.var 4))) (.cons (.an (.ag 6) (.ite (.ex (.ah .eq (.ad (.var 5) (.lit (.int 0))) (.ai 16))) (.call 49 (.cons (.var 5) .nil)) (.neg (.lit (.int 1))))) (.cons (.ifs (.ex (.ah .lt (.var 6) (.lit (.int 0)))) (.cons (.ret (.neg (.lit (.int 1)))) .nil) .nil) (.cons (.an (.ag 3) (.bi .max (.cons (.var 3) (.cons (.var 6) .nil)))) .nil))))) (.cons (.ret (.aK .add (.call 56 (.cons (.var 2) .nil)) (.var 3))) .nil)))
noncomputable abbrev Dc:Ss:=.cons (.an (.ag 2) (.ad (.ao (.ao (.var 0) 20) 6) (.var 1))) (.cons (.an (.ag 3) (.dB .nil)) (.cons (.for (.ag 4) (.ex (.call 55 (.cons (.var 0) (.cons (.var 2) .nil)))) (.cons (.an (.ag 5) (.ad (.ao (.ao (.var 0) 20) 6) (.var 4))) (.cons (.expr (.aR 0 (.var 3) (.cons (.ite (.ex (.ah .eq (.ad (.var 5) (.lit (.int 0))) (.ai 16))) (.call 51 (.cons (.var 5) .nil)) (.lit (.int 0))) .nil))) .nil))) (.cons (.ret (.aK .add (.call 56 (.cons (.var 2) .nil)) (.ite (.ex (.var 3)) (.bi .min (.cons (.var 3) .nil)) (.lit (.int 0))))) .nil)))
noncomputable abbrev Dd:Ss:=.cons (.cT (.var 0) 35 (.var 1)) (.cons (.cT (.var 0) 34 (.var 2)) (.cons (.cT (.var 0) 33 .il) (.cons (.cT (.var 0) 32 .il) (.cons (.cT (.var 0) 31 .il) (.cons (.cT (.var 0) 30 (.dB .nil)) (.cons (.cT (.var 0) 29 (.dB .nil)) (.cons (.cT (.var 0) 19 (.lit (.int 0))) (.cons (.cT (.var 0) 28 (.new 3 .nil)) (.cons (.cT (.var 0) 27 (.lit (.bool Y))) (.cons (.cT (.var 0) 26 (.lit (.none))) (.cons (.cT (.var 0) 25 (.lit (.str (S0 "")))) (.cons (.cT (.var 0) 24 (.lit (.int 0))) .nil))))))))))))
noncomputable abbrev De:Ss:=.cons (.ret (.call 83 (.cons (.var 0) (.cons (.var 1) (.cons (.var 2) .nil))))) .nil
noncomputable abbrev Df:Ss:=.cons (.ifs (.ex (.ao (.var 0) 27)) (.cons (.expr (.aR 7 (.ao (.var 0) 28) (.cons (.var 1) (.cons (.ao (.var 0) 24) .nil)))) .nil) .nil) .nil
noncomputable abbrev Dg:Ss:=.cons (.ret (.ab (.cons (.bi .len (.cons (.ao (.ao (.var 0) 28) 6) .nil)) (.cons (.bi .len (.cons (.ao (.var 0) 30) .nil)) .nil)))) .nil
noncomputable abbrev Dh:Ss:=.cons (.expr (.call 81 (.cons (.var 0) (.cons (.var 1) .nil)))) .nil
noncomputable abbrev Di:Ss:=.cons (.an (.ag 4) (.aR 3 (.ao (.var 0) 33) (.cons (.var 1) .nil))) (.cons (.ret (.and (.dA aj (.var 4)) (.aR 37 (.var 4) (.cons (.var 0) (.cons (.var 2) (.cons (.var 3) .nil)))))) .nil)
noncomputable abbrev Dj:Ss:=.cons (.qz (.ao (.ao (.var 0) 28) 6) (.ad (.var 1) (.lit (.int 0)))) (.cons (.while (.ex (.ah .gt (.bi .len (.cons (.ao (.var 0) 30) .nil)) (.ad (.var 1) (.lit (.int 1))))) (.cons (.o6 (.ao (.var 0) 32) (.aR 2 (.ao (.var 0) 30) .nil)) .nil)) .nil)
noncomputable abbrev Dk:Ss:=.cons (.an (.ag 1) (.aR 22 (.var 0) (.cons (.var 1) .nil))) (.cons (.ifs (.ex (.call 28 (.cons (.ao (.var 0) 20) (.cons (.var 1) .nil)))) (.cons (.ret (.call 30 (.cons (.ao (.var 0) 20) (.cons (.var 1) .nil)))) .nil) .nil) (.cons (.ret (.var 1)) .nil))
noncomputable abbrev xX:Ss:=.cons (.ifs (.ex (.ah .eq (.var 1) (.var 2))) (.cons (.ret (.lit (.bool Y))) .nil) .nil) (.cons (.an (.ag 1) (.call 82 (.cons (.ao (.var 0) 35) (.cons (.var 1) .nil)))) (.cons (.an (.ag 2) (.call 82 (.cons (.ao (.var 0) 35) (.cons (.var 2) .nil)))) (.cons (.ifs (.ex (.ah .eq (.var 1) (.var 2))) (.cons (.ret (.lit (.bool Y))) .nil) .nil) (.cons (.ifs (.ex (.ah .eq (.ao (.var 0) 34) (.ai 57))) (.cons (.an (.ag 3) (.ao (.ao (.ao (.var 0) 35) 20) 6)) (.cons (.ifs (.or (.ex (.ah .eq (.var 1) (.ai 36))) (.ex (.ah .eq (.var 2) (.ai 36)))) (.cons (.ret (.lit (.bool Y))) .nil) .nil) (.cons (.ifs (.or (.ex (.aY Y (.ad (.ad (.var 3) (.var 1)) (.lit (.int 0))) (.ai 68))) (.ex (.aY Y (.ad (.ad (.var 3) (.var 2)) (.lit (.int 0))) (.ai 68)))) (.cons (.ret (.lit (.bool aj))) .nil) .nil) (.cons (.ret (.call 84 (.cons (.var 0) (.cons (.var 1) (.cons (.var 2) .nil))))) .nil)))) .nil) (.cons (.an (.ag 4) (.call 86 (.cons (.var 0) (.cons (.var 1) (.cons (.var 2) .nil))))) (.cons (.ifs (.or (.ex (.ah .eq (.var 4) (.lit (.int 1)))) (.and (.ex (.ah .eq (.ao (.var 0) 34) (.ai 56))) (.and (.ex (.ah .ne (.var 2) (.ai 26))) (.ex (.ah .eq (.call 86 (.cons (.var 0) (.cons (.var 2) (.cons (.var 1) .nil)))) (.lit (.int 1))))))) (.cons (.ret (.lit (.bool Y))) .nil) .nil) (.cons (.ret (.and (.ah .lt (.var 4) (.lit (.int 0))) (.call 84 (.cons (.var 0) (.cons (.var 1) (.cons (.var 2) .nil)))))) .nil)))))))
noncomputable abbrev Dl:Ss:=.cons (.an (.ag 3) (.ab (.cons (.var 1) (.cons (.var 2) .nil)))) (.cons (.ifs (.ex (.aY Y (.var 3) (.ao (.var 0) 31))) (.cons (.ret (.ad (.ao (.var 0) 31) (.var 3))) .nil) .nil) (.cons (.ifs (.ex (.aY Y (.var 3) (.ao (.var 0) 32))) (.cons (.ret (.lit (.bool Y))) .nil) .nil) (.cons (.ifs (.ex (.ah .ge (.ao (.var 0) 19) (.ai 73))) (.cons (.expr (.aR 40 (.var 0) (.cons (.ai 4) .nil))) (.cons (.ret (.lit (.bool Y))) .nil)) .nil) (.cons (.an (.ag 4) (.aR 39 (.var 0) .nil)) (.cons (.gr (.ao (.var 0) 32) (.var 3) (.lit (.int 1))) (.cons (.expr (.aR 0 (.ao (.var 0) 30) (.cons (.var 3) .nil))) (.cons (.o5 (.var 0) 19 .add (.lit (.int 1))) (.cons (.an (.ag 5) (.ite (.ex (.ah .eq (.ao (.var 0) 34) (.ai 57))) (.call 98 (.cons (.var 0) (.cons (.var 1) (.cons (.var 2) .nil)))) (.call 92 (.cons (.var 0) (.cons (.var 1) (.cons (.var 2) .nil)))))) (.cons (.o5 (.var 0) 19 .sub (.lit (.int 1))) (.cons (.ifs (.no (.ex (.var 5))) (.cons (.expr (.call 81 (.cons (.var 0) (.cons (.var 4) .nil)))) (.cons (.ifs (.or (.ex (.ah .eq (.ad (.var 4) (.lit (.int 1))) (.lit (.int 0)))) (.ex (.ah .ne (.ao (.var 0) 34) (.ai 58)))) (.cons (.gr (.ao (.var 0) 31) (.var 3) (.lit (.bool aj))) .nil) .nil) .nil)) (.cons (.ifs (.ex (.ah .eq (.ad (.var 4) (.lit (.int 1))) (.lit (.int 0)))) (.cons (.expr (.call 85 (.cons (.var 0) (.cons (.ah .eq (.bi .len (.cons (.ao (.ao (.var 0) 28) 6) .nil)) (.ad (.var 4) (.lit (.int 0)))) .nil)))) .nil) .nil) .nil)) (.cons (.ret (.var 5)) .nil)))))))))))
noncomputable abbrev Dm:Ss:=.cons (.for (.ag 2) (.ex (.ao (.var 0) 30)) (.cons (.o6 (.ao (.var 0) 32) (.var 2)) (.cons (.ifs (.ex (.var 1)) (.cons (.gr (.ao (.var 0) 31) (.var 2) (.lit (.bool Y))) .nil) .nil) .nil))) (.cons (.cT (.var 0) 30 (.dB .nil)) .nil)
noncomputable abbrev Dn:Ss:=.cons (.an (.ag 3) (.call 87 (.cons (.var 0) (.cons (.var 1) (.cons (.var 2) .nil))))) (.cons (.ifs (.ex (.ah .ge (.var 3) (.lit (.int 0)))) (.cons (.ret (.var 3)) .nil) .nil) (.cons (.an (.ag 4) (.ao (.ao (.ao (.var 0) 35) 20) 6)) (.cons (.an (.ag 5) (.ad (.ad (.var 4) (.var 1)) (.lit (.int 0)))) (.cons (.an (.ag 6) (.ad (.ad (.var 4) (.var 2)) (.lit (.int 0)))) (.cons (.ifs (.or (.ex (.aY Y (.var 5) (.ai 72))) (.ex (.aY Y (.var 6) (.ai 72)))) (.cons (.ret (.neg (.lit (.int 1)))) .nil) .nil) (.cons (.ifs (.ex (.ah .eq (.var 2) (.ai 34))) (.cons (.ret (.ite (.ex (.aY Y (.var 5) (.ai 68))) (.lit (.int 0)) (.neg (.lit (.int 1))))) .nil) .nil) (.cons (.ifs (.ex (.aY Y (.var 6) (.ai 68))) (.cons (.ret (.ite (.ex (.aY Y (.var 5) (.ai 68))) (.call 90 (.cons (.var 0) (.cons (.var 1) (.cons (.var 2) .nil)))) (.lit (.int 0)))) .nil) .nil) (.cons (.ifs (.or (.ex (.ah .eq (.var 1) (.ai 28))) (.or (.ex (.ah .eq (.var 1) (.ai 29))) (.ex (.ah .eq (.var 1) (.ai 27))))) (.cons (.ret (.lit (.int 0))) .nil) .nil) (.cons (.ret (.neg (.lit (.int 1)))) .nil)))))))))
noncomputable abbrev Do:Ss:=.cons (.ifs (.or (.ex (.ah .eq (.var 2) (.ai 24))) (.or (.ex (.ah .eq (.var 2) (.ai 36))) (.or (.ex (.ah .eq (.var 1) (.ai 26))) (.ex (.ah .eq (.var 1) (.ai 36)))))) (.cons (.ret (.lit (.int 1))) .nil) .nil) (.cons (.ifs (.and (.ex (.ah .eq (.var 1) (.ai 24))) (.ex (.ah .eq (.ao (.var 0) 34) (.ai 58)))) (.cons (.ret (.lit (.int 0))) .nil) .nil) (.cons (.ifs (.ex (.ah .eq (.var 2) (.ai 25))) (.cons (.ret (.lit (.int 1))) .nil) .nil) (.cons (.ifs (.ex (.ah .eq (.var 1) (.ai 24))) (.cons (.ifs (.ex (.ah .eq (.var 2) (.ai 26))) (.cons (.ret (.lit (.int 0))) .nil) .nil) (.cons (.expr (.aR 40 (.var 0) (.cons (.ai 0) .nil))) (.cons (.ret (.lit (.int 1))) .nil))) .nil) (.cons (.ifs (.ex (.ah .eq (.var 1) (.ai 25))) (.cons (.ret (.call 88 (.cons (.var 0) (.cons (.var 2) .nil)))) .nil) .nil) (.cons (.ifs (.and (.ex (.ah .eq (.var 2) (.ai 26))) (.ex (.aY aj (.ad (.ad (.ao (.ao (.ao (.var 0) 35) 20) 6) (.var 1)) (.lit (.int 0))) (.ai 72)))) (.cons (.ret (.lit (.int 0))) .nil) .nil) (.cons (.ret (.neg (.lit (.int 1)))) .nil))))))
noncomputable abbrev Dp:Ss:=.cons (.ifs (.ex (.aY Y (.ad (.ad (.ao (.ao (.ao (.var 0) 35) 20) 6) (.var 1)) (.lit (.int 0))) (.ai 71))) (.cons (.ret (.neg (.lit (.int 1)))) .nil) .nil) (.cons (.an (.ag 2) (.call 20 (.cons (.ao (.ao (.var 0) 35) 20) (.cons (.var 1) .nil)))) (.cons (.ifs (.ex (.ah .eq (.ao (.var 0) 34) (.ai 58))) (.cons (.ret (.lit (.int 0))) .nil) .nil) (.cons (.ret (.ite (.and (.ex (.aY Y (.ai 35) (.var 2))) (.and (.ex (.aY Y (.ai 29) (.var 2))) (.ex (.aY Y (.ai 28) (.var 2))))) (.lit (.int 1)) (.lit (.int 0)))) .nil)))
noncomputable abbrev Dq:Ss:=.cons (.ret (.and (.ah .eq (.ad (.var 0) (.lit (.int 0))) (.ai 9)) (.ah .eq (.call 21 (.cons (.var 0) .nil)) (.ai 31)))) .nil
noncomputable abbrev Ds:Ss:=.cons (.ifs (.ex (.ah .eq (.var 1) (.ai 28))) (.cons (.ret (.ite (.ex (.ah .eq (.var 2) (.ai 27))) (.lit (.int 1)) (.lit (.int 0)))) .nil) .nil) (.cons (.an (.ag 3) (.ad (.ao (.ao (.ao (.var 0) 35) 20) 6) (.var 1))) (.cons (.an (.ag 4) (.ad (.ao (.ao (.ao (.var 0) 35) 20) 6) (.var 2))) (.cons (.ifs (.and (.ex (.ah .eq (.call 21 (.cons (.var 3) .nil)) (.var 2))) (.ex (.ah .ge (.call 21 (.cons (.var 3) .nil)) (.lit (.int 0))))) (.cons (.ret (.lit (.int 1))) .nil) .nil) (.cons (.ifs (.and (.ex (.ah .eq (.ao (.var 0) 34) (.ai 56))) (.ex (.ah .eq (.call 21 (.cons (.var 4) .nil)) (.var 1)))) (.cons (.ret (.lit (.int 1))) .nil) .nil) (.cons (.ifs (.and (.ex (.ah .eq (.ad (.var 3) (.lit (.int 0))) (.ai 9))) (.and (.ex (.ah .eq (.ad (.var 4) (.lit (.int 0))) (.ai 9))) (.ex (.ah .eq (.ad (.var 3) (.lit (.int 1))) (.ad (.var 4) (.lit (.int 1))))))) (.cons (.ret (.ite (.ex (.ah .eq (.ad (.var 3) (.lit (.int 3))) (.ad (.var 4) (.lit (.int 3))))) (.lit (.int 1)) (.lit (.int 0)))) .nil) .nil) (.cons (.ifs (.ex (.ah .eq (.ad (.var 3) (.lit (.int 0))) (.ai 9))) (.cons (.ret (.ite (.and (.ex (.aY Y (.ad (.var 4) (.lit (.int 0))) (.ab (.cons (.ai 7) (.cons (.ai 8) .nil))))) (.and (.ex (.ah .eq (.call 21 (.cons (.var 4) .nil)) (.call 21 (.cons (.var 3) .nil)))) (.ex (.ah .eq (.ad (.var 4) (.lit (.int 1))) (.ad (.var 3) (.lit (.int 3))))))) (.lit (.int 1)) (.lit (.int 0)))) .nil) .nil) (.cons (.ret (.call 91 (.cons (.var 0) (.cons (.var 1) (.cons (.var 3) (.cons (.var 4) .nil)))))) .nil)))))))
noncomputable abbrev Dt:Ss:=.cons (.ifs (.or (.ex (.ah .eq (.ao (.var 0) 34) (.ai 58))) (.no (.ex (.call 89 (.cons (.var 3) .nil))))) (.cons (.ret (.lit (.int 0))) .nil) .nil) (.cons (.ifs (.or (.ex (.ah .eq (.var 1) (.ai 31))) (.and (.ex (.ah .eq (.ad (.var 2) (.lit (.int 0))) (.ai 8))) (.ex (.ah .eq (.ad (.var 2) (.lit (.int 1))) (.ad (.var 3) (.lit (.int 3))))))) (.cons (.expr (.aR 40 (.var 0) (.cons (.ai 2) .nil))) (.cons (.ret (.lit (.int 1))) .nil)) .nil) (.cons (.ret (.lit (.int 0))) .nil))
noncomputable abbrev Du:Ss:=.cons (.an (.ag 3) (.ao (.ao (.ao (.var 0) 35) 20) 6)) (.cons (.an (.ag 4) (.ad (.ad (.var 3) (.var 1)) (.lit (.int 0)))) (.cons (.an (.ag 5) (.ad (.ad (.var 3) (.var 2)) (.lit (.int 0)))) (.cons (.ifs (.ex (.ah .eq (.var 4) (.ai 10))) (.cons (.ret (.call 94 (.cons (.var 0) (.cons (.var 1) (.cons (.var 2) .nil))))) .nil) .nil) (.cons (.ifs (.ex (.ah .eq (.var 5) (.ai 10))) (.cons (.ret (.call 97 (.cons (.var 0) (.cons (.var 1) (.cons (.var 2) .nil))))) .nil) .nil) (.cons (.ret (.call 77 (.cons (.var 0) (.cons (.call 93 (.cons (.var 4) (.cons (.var 5) .nil))) (.cons (.var 1) (.cons (.var 2) .nil)))))) .nil)))))
noncomputable abbrev Dv:Ss:=.cons (.ifs (.or (.ex (.ah .eq (.var 0) (.ai 11))) (.ex (.ah .eq (.var 1) (.ai 11)))) (.cons (.ret (.ai 59)) .nil) .nil) (.cons (.ifs (.or (.ex (.aY Y (.var 0) (.ai 71))) (.ex (.aY Y (.var 1) (.ai 71)))) (.cons (.ret (.ai 60)) .nil) .nil) (.cons (.ifs (.and (.ex (.ah .eq (.var 0) (.ai 17))) (.ex (.ah .eq (.var 1) (.ai 17)))) (.cons (.ret (.ai 61)) .nil) .nil) (.cons (.ifs (.and (.ex (.aY Y (.var 0) (.ai 69))) (.ex (.aY Y (.var 1) (.ai 69)))) (.cons (.ret (.ai 62)) .nil) .nil) (.cons (.ret (.ai 63)) .nil))))
noncomputable abbrev Dw:Ss:=.cons (.for (.ag 3) (.ex (.call 20 (.cons (.ao (.ao (.var 0) 35) 20) (.cons (.var 1) .nil)))) (.cons (.ifs (.ex (.aR 36 (.var 0) (.cons (.var 3) (.cons (.var 2) .nil)))) (.cons (.ifs (.ex (.ah .eq (.ao (.var 0) 34) (.ai 56))) (.cons (.ret (.lit (.bool Y))) .nil) .nil) .nil) (.cons (.ifs (.ex (.ah .ne (.ao (.var 0) 34) (.ai 56))) (.cons (.ret (.lit (.bool aj))) .nil) .nil) .nil)) .nil)) (.cons (.ret (.ah .ne (.ao (.var 0) 34) (.ai 56))) .nil)
noncomputable abbrev Dx:Ss:=.cons (.an (.ag 3) (.lit (.none))) (.cons (.for (.ag 4) (.ex (.var 2)) (.cons (.an (.ag 5) (.aR 39 (.var 0) .nil)) (.cons (.ifs (.ex (.aR 36 (.var 0) (.cons (.var 1) (.cons (.var 4) .nil)))) (.cons (.ifs (.ex (.ah .eq (.bi .len (.cons (.ao (.ao (.var 0) 28) 6) .nil)) (.ad (.var 5) (.lit (.int 0))))) (.cons (.ret (.lit (.bool Y))) .nil) .nil) (.cons (.ifs (.ex (.dA Y (.var 3))) (.cons (.an (.ag 3) (.ab (.cons (.hG (.ao (.ao (.var 0) 28) 6) (.ad (.var 5) (.lit (.int 0))) (.lit .none)) (.cons (.hG (.ao (.var 0) 30) (.ad (.var 5) (.lit (.int 1))) (.lit .none)) .nil)))) .nil) .nil) (.cons (.expr (.aR 41 (.var 0) (.cons (.var 5) .nil))) .nil))) .nil) .nil))) (.cons (.ifs (.ex (.dA Y (.var 3))) (.cons (.ret (.lit (.bool aj))) .nil) .nil) (.cons (.expr (.call 96 (.cons (.var 0) (.cons (.var 3) .nil)))) (.cons (.ret (.lit (.bool Y))) .nil))))
noncomputable abbrev Dy:Ss:=.cons (.expr (.aR 1 (.ao (.ao (.var 0) 28) 6) (.cons (.ad (.var 1) (.lit (.int 0))) .nil))) (.cons (.for (.ag 2) (.ex (.ad (.var 1) (.lit (.int 1)))) (.cons (.ifs (.and (.ex (.aY aj (.var 2) (.ao (.var 0) 32))) (.ex (.aY aj (.var 2) (.ao (.var 0) 31)))) (.cons (.gr (.ao (.var 0) 32) (.var 2) (.lit (.int 1))) (.cons (.expr (.aR 0 (.ao (.var 0) 30) (.cons (.var 2) .nil))) .nil)) .nil) .nil)) .nil)
noncomputable abbrev Dz:Ss:=.cons (.an (.ag 3) (.ao (.ao (.var 0) 35) 20)) (.cons (.an (.ag 4) (.call 20 (.cons (.var 3) (.cons (.var 2) .nil)))) (.cons (.ifs (.or (.ex (.aY Y (.var 1) (.var 4))) (.ex (.call 95 (.cons (.var 0) (.cons (.var 1) (.cons (.var 4) .nil)))))) (.cons (.ret (.lit (.bool Y))) .nil) .nil) (.cons (.an (.ag 5) (.ad (.ad (.ao (.var 3) 6) (.var 1)) (.lit (.int 0)))) (.cons (.ifs (.ex (.aY Y (.var 5) (.ai 71))) (.cons (.ret (.call 77 (.cons (.var 0) (.cons (.ai 60) (.cons (.var 1) (.cons (.var 2) .nil)))))) .nil) .nil) (.cons (.ifs (.and (.ex (.ah .eq (.var 5) (.ai 11))) (.ex (.call 77 (.cons (.var 0) (.cons (.ai 59) (.cons (.var 1) (.cons (.var 2) .nil))))))) (.cons (.ret (.lit (.bool Y))) .nil) .nil) (.cons (.ifs (.or (.ex (.ah .eq (.var 5) (.ai 11))) (.ex (.aY Y (.var 5) (.ai 70)))) (.cons (.ret (.call 77 (.cons (.var 0) (.cons (.ai 64) (.cons (.var 1) (.cons (.var 2) .nil)))))) .nil) .nil) (.cons (.ret (.and (.ah .eq (.var 5) (.ai 16)) (.call 77 (.cons (.var 0) (.cons (.ai 67) (.cons (.var 1) (.cons (.var 2) .nil))))))) .nil)))))))
noncomputable abbrev DA:Ss:=.cons (.an (.ag 3) (.ao (.ao (.ao (.var 0) 35) 20) 6)) (.cons (.an (.ag 4) (.ad (.var 3) (.var 1))) (.cons (.an (.ag 5) (.ad (.var 3) (.var 2))) (.cons (.ifs (.and (.ex (.ah .eq (.ad (.var 4) (.lit (.int 0))) (.ad (.var 5) (.lit (.int 0))))) (.or (.ex (.ah .eq (.ad (.var 4) (.lit (.int 0))) (.ai 10))) (.ex (.ah .eq (.ad (.var 4) (.lit (.int 0))) (.ai 11))))) (.cons (.ret (.and (.call 99 (.cons (.var 0) (.cons (.ad (.var 4) (.lit (.int 1))) (.cons (.ad (.var 5) (.lit (.int 1))) .nil)))) (.call 99 (.cons (.var 0) (.cons (.ad (.var 5) (.lit (.int 1))) (.cons (.ad (.var 4) (.lit (.int 1))) .nil)))))) .nil) .nil) (.cons (.ifs (.or (.ex (.aY Y (.ad (.var 4) (.lit (.int 0))) (.ab (.cons (.ai 10) (.cons (.ai 11) .nil))))) (.ex (.aY Y (.ad (.var 5) (.lit (.int 0))) (.ab (.cons (.ai 10) (.cons (.ai 11) .nil)))))) (.cons (.ret (.lit (.bool aj))) .nil) .nil) (.cons (.ret (.call 77 (.cons (.var 0) (.cons (.call 93 (.cons (.ad (.var 4) (.lit (.int 0))) (.cons (.ad (.var 5) (.lit (.int 0))) .nil))) (.cons (.var 1) (.cons (.var 2) .nil)))))) .nil)))))
noncomputable abbrev DB:Ss:=.cons (.for (.ag 3) (.ex (.var 1)) (.cons (.ifs (.no (.ex (.call 95 (.cons (.var 0) (.cons (.var 3) (.cons (.var 2) .nil)))))) (.cons (.ret (.lit (.bool aj))) .nil) .nil) .nil)) (.cons (.ret (.lit (.bool Y))) .nil)
noncomputable abbrev DC:Ss:=.cons (.an (.ag 3) (.call 63 (.cons (.ao (.var 0) 35) (.cons (.var 2) .nil)))) (.cons (.ifs (.ex (.ah .lt (.var 3) (.lit (.int 0)))) (.cons (.ifs (.ex (.ah .gt (.call 61 (.cons (.ao (.var 0) 35) (.cons (.var 1) .nil))) (.call 64 (.cons (.ao (.var 0) 35) (.cons (.var 2) .nil))))) (.cons (.expr (.aR 40 (.var 0) (.cons (.ai 3) .nil))) .nil) .nil) (.cons (.ret (.lit (.bool Y))) .nil)) .nil) (.cons (.ifs (.ex (.ah .gt (.call 61 (.cons (.ao (.var 0) 35) (.cons (.var 1) .nil))) (.var 3))) (.cons (.ret (.lit (.bool aj))) .nil) .nil) (.cons (.an (.ag 4) (.call 63 (.cons (.ao (.var 0) 35) (.cons (.var 1) .nil)))) (.cons (.ifs (.or (.ex (.ah .lt (.var 4) (.lit (.int 0)))) (.ex (.ah .gt (.var 4) (.var 3)))) (.cons (.ifs (.ex (.ah .eq (.ao (.var 0) 34) (.ai 58))) (.cons (.ret (.lit (.bool aj))) .nil) .nil) (.cons (.expr (.aR 40 (.var 0) (.cons (.ai 3) .nil))) .nil)) .nil) (.cons (.ret (.lit (.bool Y))) .nil)))))
noncomputable abbrev DD:Ss:=.cons (.an (.ag 2) (.ad (.ad (.ao (.ao (.var 0) 20) 6) (.var 1)) (.lit (.int 2)))) (.cons (.ifs (.or (.no (.ex (.var 2))) (.ex (.ah .ne (.ad (.ad (.var 2) (.neg (.lit (.int 1)))) (.lit (.int 2))) (.ai 45)))) (.cons (.ret (.neg (.lit (.int 1)))) .nil) .nil) (.cons (.an (.ag 3) (.aR 22 (.var 0) (.cons (.ad (.ad (.var 2) (.neg (.lit (.int 1)))) (.lit (.int 1))) .nil))) (.cons (.ifs (.ex (.aY Y (.ad (.ad (.ao (.ao (.var 0) 20) 6) (.var 3)) (.lit (.int 0))) (.ab (.cons (.ai 15) (.cons (.ai 16) .nil))))) (.cons (.ret (.neg (.lit (.int 1)))) .nil) .nil) (.cons (.ret (.var 3)) .nil))))
noncomputable abbrev DE:Ss:=.cons (.an (.ag 2) (.call 101 (.cons (.var 0) (.cons (.var 1) .nil)))) (.cons (.ifs (.ex (.ah .ge (.var 2) (.lit (.int 0)))) (.cons (.ret (.and (.ah .ne (.var 2) (.ai 24)) (.ah .ne (.var 2) (.ai 36)))) .nil) .nil) (.cons (.an (.ag 3) (.ad (.ad (.ao (.ao (.var 0) 20) 6) (.var 1)) (.lit (.int 2)))) (.cons (.ifs (.or (.no (.ex (.var 3))) (.ex (.ah .ne (.ad (.ad (.var 3) (.neg (.lit (.int 1)))) (.lit (.int 2))) (.ai 45)))) (.cons (.ret (.lit (.bool aj))) .nil) .nil) (.cons (.an (.ag 4) (.ad (.ao (.ao (.var 0) 20) 6) (.aR 22 (.var 0) (.cons (.ad (.ad (.var 3) (.neg (.lit (.int 1)))) (.lit (.int 1))) .nil)))) (.cons (.ifs (.ex (.ah .ne (.ad (.var 4) (.lit (.int 0))) (.ai 16))) (.cons (.ret (.lit (.bool aj))) .nil) .nil) (.cons (.ret (.or (.aY Y (.ai 41) (.comp (.ag 5) (.ex (.hG (.ad (.var 4) (.lit (.int 1))) (.lit .none) (.neg (.lit (.int 1))))) (.ex (.lit (.bool Y))) (.ad (.var 5) (.lit (.int 1))) [I,I,I,I,I,D (S0 "elem"),I])) (.aY Y (.ai 42) (.comp (.ag 6) (.ex (.ad (.var 4) (.lit (.int 1)))) (.ex (.lit (.bool Y))) (.ad (.var 6) (.lit (.int 1))) [I,I,I,I,I,I,D (S0 "elem")])))) .nil))))))
noncomputable abbrev DF:Ss:=.cons (.an (.ag 2) (.ad (.ao (.ao (.var 0) 20) 6) (.var 1))) (.cons (.ifs (.ex (.ah .eq (.ad (.var 2) (.lit (.int 0))) (.ai 15))) (.cons (.ret (.dB (.cons (.ab (.cons (.ad (.var 2) (.lit (.int 1))) (.cons (.ai 41) .nil))) .nil))) .nil) .nil) (.cons (.ret (.ite (.ex (.ah .eq (.ad (.var 2) (.lit (.int 0))) (.ai 16))) (.comp (.ag 3) (.ex (.ad (.var 2) (.lit (.int 1)))) (.ex (.lit (.bool Y))) (.var 3) [I,I,I,D (S0 "elem")]) (.dB (.cons (.ab (.cons (.var 1) (.cons (.ai 42) .nil))) .nil)))) .nil))
noncomputable abbrev uS:Ss:=.cons (.an (.ag 3) (.hG (.ad (.ad (.ao (.ao (.var 0) 20) 6) (.var 1)) (.lit (.int 2))) (.var 2) (.lit .none))) (.cons (.ifs (.and (.ex (.ah .eq (.bi .len (.cons (.var 3) .nil)) (.lit (.int 1)))) (.ex (.ah .ge (.call 101 (.cons (.var 0) (.cons (.var 1) .nil))) (.lit (.int 0))))) (.cons (.ret (.call 101 (.cons (.var 0) (.cons (.var 1) .nil)))) .nil) .nil) (.cons (.an (.ag 4) (.dB .nil)) (.cons (.for (.ag 5) (.ex (.var 3)) (.cons (.ifs (.ex (.ah .eq (.ad (.var 5) (.lit (.int 2))) (.ai 45))) (.cons (.expr (.aR 1 (.var 4) (.cons (.call 103 (.cons (.var 0) (.cons (.aR 22 (.var 0) (.cons (.ad (.var 5) (.lit (.int 1))) .nil)) .nil))) .nil))) .nil) (.cons (.expr (.aR 0 (.var 4) (.cons (.ab (.cons (.ad (.var 5) (.lit (.int 1))) (.cons (.ite (.ex (.ah .eq (.ad (.var 5) (.lit (.int 2))) (.ai 44))) (.ai 40) (.ai 39)) .nil))) .nil))) .nil)) .nil)) (.cons (.ret (.call 18 (.cons (.ao (.var 0) 20) (.cons (.var 4) (.cons (.lit (.int 1)) .nil))))) .nil))))
noncomputable abbrev DG:Ss:=.cons (.an (.ag 5) (.call 104 (.cons (.ao (.var 0) 35) (.cons (.var 1) (.cons (.var 3) .nil))))) (.cons (.an (.ag 6) (.call 104 (.cons (.ao (.var 0) 35) (.cons (.var 2) (.cons (.var 3) .nil))))) (.cons (.ret (.call 110 (.cons (.var 0) (.cons (.var 5) (.cons (.var 6) (.cons (.var 4) .nil)))))) .nil))
noncomputable abbrev DH:Ss:=.cons (.an (.ag 2) (.call 63 (.cons (.var 0) (.cons (.var 1) .nil)))) (.cons (.ifs (.ex (.ah .ge (.var 2) (.lit (.int 0)))) (.cons (.ret (.var 2)) .nil) .nil) (.cons (.an (.ag 3) (.ad (.ad (.ao (.ao (.var 0) 20) 6) (.var 1)) (.lit (.int 2)))) (.cons (.an (.ag 4) (.lit (.int 1))) (.cons (.for (.ag 5) (.ex (.call 20 (.cons (.ao (.var 0) 20) (.cons (.aR 22 (.var 0) (.cons (.ad (.ad (.var 3) (.neg (.lit (.int 1)))) (.lit (.int 1))) .nil)) .nil)))) (.cons (.an (.ag 6) (.ad (.ao (.ao (.var 0) 20) 6) (.var 5))) (.cons (.ifs (.ex (.ah .eq (.ad (.var 6) (.lit (.int 0))) (.ai 16))) (.cons (.an (.ag 4) (.bi .max (.cons (.var 4) (.cons (.bi .len (.cons (.ad (.var 6) (.lit (.int 1))) .nil)) .nil)))) .nil) .nil) .nil))) (.cons (.ret (.aK .add (.aK .sub (.bi .len (.cons (.var 3) .nil)) (.lit (.int 1))) (.var 4))) .nil)))))
noncomputable abbrev DI:Ss:=.cons (.an (.ag 2) (.comp (.ag 5) (.ex (.call 20 (.cons (.ao (.var 0) 20) (.cons (.var 1) .nil)))) (.and (.ex (.ah .ne (.var 5) (.ai 28))) (.ex (.ah .ne (.var 5) (.ai 29)))) (.var 5) [I,I,I,I,I,D (S0 "part")])) (.cons (.ifs (.or (.ex (.ah .ne (.bi .len (.cons (.var 2) .nil)) (.lit (.int 1)))) (.ex (.aY aj (.ad (.ad (.ao (.ao (.var 0) 20) 6) (.ad (.var 2) (.lit (.int 0)))) (.lit (.int 0))) (.ai 70)))) (.cons (.ret (.neg (.lit (.int 1)))) .nil) .nil) (.cons (.an (.ag 3) (.ad (.ao (.ao (.var 0) 20) 6) (.aR 21 (.var 0) (.cons (.ad (.var 2) (.lit (.int 0))) .nil)))) (.cons (.ifs (.or (.ex (.ah .ne (.ad (.var 3) (.lit (.int 1))) (.ab .nil))) (.or (.ex (.ah .ne (.bi .len (.cons (.ad (.var 3) (.lit (.int 2))) .nil)) (.lit (.int 1)))) (.or (.ex (.ah .ne (.ad (.var 3) (.lit (.int 3))) (.ab .nil))) (.or (.ex (.ah .ne (.ad (.var 3) (.lit (.int 4))) (.ab .nil))) (.ex (.ah .ne (.ad (.var 3) (.lit (.int 5))) (.ab .nil))))))) (.cons (.ret (.neg (.lit (.int 1)))) .nil) .nil) (.cons (.an (.ag 4) (.ad (.ao (.ao (.var 0) 20) 6) (.ad (.ad (.var 3) (.lit (.int 2))) (.lit (.int 0))))) (.cons (.ret (.ite (.and (.ex (.ah .eq (.ad (.var 4) (.lit (.int 1))) (.ab .nil))) (.ex (.ah .eq (.ad (.var 4) (.lit (.int 4))) (.ab .nil)))) (.ad (.ad (.var 3) (.lit (.int 2))) (.lit (.int 0))) (.neg (.lit (.int 1))))) .nil)))))
noncomputable abbrev DJ:Ss:=.cons (.an (.ag 3) (.call 107 (.cons (.ao (.var 0) 35) (.cons (.var 1) .nil)))) (.cons (.an (.ag 4) (.call 107 (.cons (.ao (.var 0) 35) (.cons (.var 2) .nil)))) (.cons (.an (.ag 5) (.call 20 (.cons (.ao (.ao (.var 0) 35) 20) (.cons (.var 1) .nil)))) (.cons (.an (.ag 6) (.call 20 (.cons (.ao (.ao (.var 0) 35) 20) (.cons (.var 2) .nil)))) (.cons (.an (.ag 7) (.and (.ah .eq (.aY Y (.ai 28) (.var 5)) (.aY Y (.ai 28) (.var 6))) (.ah .eq (.aY Y (.ai 29) (.var 5)) (.aY Y (.ai 29) (.var 6))))) (.cons (.ifs (.and (.ex (.var 7)) (.and (.ex (.ah .ge (.var 3) (.lit (.int 0)))) (.ex (.ah .ge (.var 4) (.lit (.int 0)))))) (.cons (.ret (.call 108 (.cons (.var 0) (.cons (.var 4) (.cons (.var 3) .nil))))) .nil) .nil) (.cons (.ret (.aR 36 (.var 0) (.cons (.var 1) (.cons (.var 2) .nil)))) .nil))))))
noncomputable abbrev DK:Ss:=.cons (.an (.ag 4) (.aR 39 (.var 0) .nil)) (.cons (.ifs (.ex (.aR 36 (.var 0) (.cons (.var 2) (.cons (.var 1) .nil)))) (.cons (.ret (.lit (.bool Y))) .nil) .nil) (.cons (.expr (.aR 41 (.var 0) (.cons (.var 4) .nil))) (.cons (.ifs (.and (.ex (.var 3)) (.and (.ex (.ah .ne (.ao (.var 0) 34) (.ai 58))) (.ex (.call 109 (.cons (.var 0) (.cons (.var 1) (.cons (.var 2) .nil))))))) (.cons (.expr (.aR 40 (.var 0) (.cons (.ai 1) .nil))) (.cons (.ret (.lit (.bool Y))) .nil)) .nil) (.cons (.ret (.lit (.bool aj))) .nil))))
noncomputable abbrev DL:Ss:=.cons (.ifs (.ex (.ah .ne (.ao (.var 0) 34) (.ai 58))) (.cons (.ret (.lit (.bool aj))) .nil) .nil) (.cons (.ifs (.or (.ex (.ah .lt (.var 3) (.call 61 (.cons (.ao (.var 0) 35) (.cons (.var 1) .nil))))) (.ex (.ah .ge (.var 3) (.call 61 (.cons (.ao (.var 0) 35) (.cons (.var 2) .nil)))))) (.cons (.ret (.lit (.bool aj))) .nil) .nil) (.cons (.ret (.aR 36 (.var 0) (.cons (.var 4) (.cons (.var 5) .nil)))) .nil))
noncomputable abbrev DM:Ss:=.cons (.an (.ag 4) (.ao (.var 0) 35)) (.cons (.an (.ag 5) (.bi .max (.cons (.call 106 (.cons (.var 4) (.cons (.var 1) .nil))) (.cons (.call 106 (.cons (.var 4) (.cons (.var 2) .nil))) .nil)))) (.cons (.ifs (.or (.ex (.call 102 (.cons (.var 4) (.cons (.var 1) .nil)))) (.ex (.call 102 (.cons (.var 4) (.cons (.var 2) .nil))))) (.cons (.an (.ag 5) (.bi .max (.cons (.lit (.int 0)) (.cons (.aK .sub (.bi .min (.cons (.bi .len (.cons (.ad (.ad (.ao (.ao (.var 4) 20) 6) (.var 1)) (.lit (.int 2))) .nil)) (.cons (.bi .len (.cons (.ad (.ad (.ao (.ao (.var 4) 20) 6) (.var 2)) (.lit (.int 2))) .nil)) .nil))) (.lit (.int 1))) .nil)))) (.cons (.ifs (.no (.ex (.call 105 (.cons (.var 0) (.cons (.var 1) (.cons (.var 2) (.cons (.var 5) (.cons (.var 3) .nil)))))))) (.cons (.ret (.lit (.bool aj))) .nil) .nil) .nil)) .nil) (.cons (.for (.ag 6) (.range (.var 5)) (.cons (.an (.ag 7) (.call 59 (.cons (.var 4) (.cons (.var 1) (.cons (.var 6) .nil))))) (.cons (.an (.ag 8) (.call 59 (.cons (.var 4) (.cons (.var 2) (.cons (.var 6) .nil))))) (.cons (.ifs (.or (.ex (.ah .lt (.var 7) (.lit (.int 0)))) (.ex (.ah .lt (.var 8) (.lit (.int 0))))) (.cons .cont .nil) .nil) (.cons (.ifs (.or (.no (.ex (.call 110 (.cons (.var 0) (.cons (.var 7) (.cons (.var 8) (.cons (.var 3) .nil))))))) (.ex (.call 111 (.cons (.var 0) (.cons (.var 1) (.cons (.var 2) (.cons (.var 6) (.cons (.var 7) (.cons (.var 8) .nil))))))))) (.cons (.ret (.lit (.bool aj))) .nil) .nil) .nil))))) (.cons (.ret (.lit (.bool Y))) .nil))))
noncomputable abbrev DN:Ss:=.cons (.ifs (.or (.ex (.ah .eq (.var 1) (.ab .nil))) (.or (.ex (.ah .ne (.ad (.var 1) (.lit (.int 0))) (.ad (.var 2) (.lit (.int 0))))) (.ex (.ah .ne (.ad (.var 1) (.lit (.int 2))) (.ad (.var 2) (.lit (.int 2))))))) (.cons (.ret (.lit (.bool aj))) .nil) .nil) (.cons (.ifs (.or (.ex (.ah .lt (.ad (.var 1) (.lit (.int 1))) (.lit (.int 0)))) (.ex (.ah .lt (.ad (.var 2) (.lit (.int 1))) (.lit (.int 0))))) (.cons (.ret (.ah .eq (.ad (.var 1) (.lit (.int 1))) (.ad (.var 2) (.lit (.int 1))))) .nil) .nil) (.cons (.ret (.aR 36 (.var 0) (.cons (.ad (.var 1) (.lit (.int 1))) (.cons (.ad (.var 2) (.lit (.int 1))) .nil)))) .nil))
noncomputable abbrev DO:Ss:=.cons (.an (.ag 3) (.ad (.ao (.ao (.ao (.var 0) 35) 20) 6) (.var 1))) (.cons (.an (.ag 4) (.ad (.ao (.ao (.ao (.var 0) 35) 20) 6) (.var 2))) (.cons (.ifs (.ex (.ah .eq (.aR 22 (.ao (.var 0) 35) (.cons (.ad (.var 4) (.lit (.int 3))) .nil)) (.ai 27))) (.cons (.ret (.lit (.bool Y))) .nil) .nil) (.cons (.ifs (.ex (.ah .ne (.ad (.var 4) (.lit (.int 4))) (.ab .nil))) (.cons (.ret (.call 113 (.cons (.var 0) (.cons (.ad (.var 3) (.lit (.int 4))) (.cons (.ad (.var 4) (.lit (.int 4))) .nil))))) .nil) .nil) (.cons (.ret (.aR 36 (.var 0) (.cons (.ad (.var 3) (.lit (.int 3))) (.cons (.ad (.var 4) (.lit (.int 3))) .nil)))) .nil))))
noncomputable abbrev DP:Ss:=.cons (.an (.ag 2) (.ad (.ao (.ao (.var 0) 20) 6) (.var 1))) (.cons (.ifs (.or (.ex (.ah .ne (.ad (.var 2) (.lit (.int 1))) (.ab .nil))) (.or (.ex (.ah .ne (.bi .len (.cons (.ad (.var 2) (.lit (.int 2))) .nil)) (.lit (.int 1)))) (.or (.ex (.ah .ne (.ad (.ad (.ad (.var 2) (.lit (.int 2))) (.lit (.int 0))) (.lit (.int 2))) (.ai 45))) (.ex (.ah .ne (.ad (.var 2) (.lit (.int 4))) (.ab .nil)))))) (.cons (.ret (.neg (.lit (.int 1)))) .nil) .nil) (.cons (.an (.ag 3) (.aR 22 (.var 0) (.cons (.ad (.ad (.ad (.var 2) (.lit (.int 2))) (.lit (.int 0))) (.lit (.int 1))) .nil))) (.cons (.an (.ag 4) (.ad (.ao (.ao (.var 0) 20) 6) (.var 3))) (.cons (.an (.ag 5) (.ite (.ex (.ah .eq (.ad (.var 4) (.lit (.int 0))) (.ai 15))) (.aR 22 (.var 0) (.cons (.ad (.var 4) (.lit (.int 1))) .nil)) (.var 3))) (.cons (.an (.ag 6) (.aR 22 (.var 0) (.cons (.ad (.var 2) (.lit (.int 3))) .nil))) (.cons (.ret (.ite (.and (.ex (.aY Y (.var 5) (.ab (.cons (.ai 24) (.cons (.ai 26) .nil))))) (.ex (.aY Y (.var 6) (.ab (.cons (.ai 24) (.cons (.ai 25) .nil)))))) (.var 5) (.neg (.lit (.int 1))))) .nil))))))
noncomputable abbrev DQ:Ss:=.cons (.an (.ag 3) (.call 115 (.cons (.ao (.var 0) 35) (.cons (.var 2) .nil)))) (.cons (.ifs (.ex (.ah .lt (.var 3) (.lit (.int 0)))) (.cons (.ret (.lit (.bool aj))) .nil) .nil) (.cons (.ifs (.ex (.ah .eq (.ao (.var 0) 34) (.ai 58))) (.cons (.ret (.ah .lt (.call 115 (.cons (.ao (.var 0) 35) (.cons (.var 1) .nil))) (.lit (.int 0)))) .nil) .nil) (.cons (.an (.ag 4) (.aR 22 (.ao (.var 0) 35) (.cons (.ad (.ad (.ad (.ad (.ao (.ao (.ao (.var 0) 35) 20) 6) (.var 2)) (.lit (.int 2))) (.lit (.int 0))) (.lit (.int 1))) .nil))) (.cons (.ifs (.ex (.ah .eq (.var 3) (.ai 24))) (.cons (.expr (.aR 40 (.var 0) (.cons (.ai 0) .nil))) .nil) (.cons (.ifs (.and (.ex (.ah .ne (.var 4) (.ai 26))) (.ex (.ah .gt (.call 61 (.cons (.ao (.var 0) 35) (.cons (.var 1) .nil))) (.lit (.int 0))))) (.cons (.expr (.aR 40 (.var 0) (.cons (.ai 3) .nil))) .nil) .nil) .nil)) (.cons (.ret (.lit (.bool Y))) .nil)))))
noncomputable abbrev DS:Ss:=.cons (.ret (.and (.call 112 (.cons (.var 0) (.cons (.var 1) (.cons (.var 2) (.cons (.var 3) .nil))))) (.call 114 (.cons (.var 0) (.cons (.var 1) (.cons (.var 2) .nil)))))) .nil
noncomputable abbrev DT:Ss:=.cons (.ifs (.ex (.ah .eq (.var 1) (.var 2))) (.cons (.ret (.lit (.bool Y))) .nil) .nil) (.cons (.ifs (.ex (.ah .eq (.ao (.var 0) 34) (.ai 57))) (.cons (.ret (.call 121 (.cons (.var 0) (.cons (.var 1) (.cons (.var 2) .nil))))) .nil) .nil) (.cons (.ifs (.ex (.call 116 (.cons (.var 0) (.cons (.var 1) (.cons (.var 2) .nil))))) (.cons (.ret (.lit (.bool Y))) .nil) .nil) (.cons (.ifs (.no (.ex (.call 100 (.cons (.var 0) (.cons (.var 1) (.cons (.var 2) .nil)))))) (.cons (.ret (.lit (.bool aj))) .nil) .nil) (.cons (.an (.ag 4) (.ao (.ao (.ao (.var 0) 35) 20) 6)) (.cons (.an (.ag 5) (.or (.var 3) (.ah .ne (.aK .band (.aK .bor (.ad (.ad (.var 4) (.var 1)) (.lit (.int 5))) (.ad (.ad (.var 4) (.var 2)) (.lit (.int 5)))) (.ai 46)) (.lit (.int 0))))) (.cons (.an (.ag 6) (.aR 3 (.ao (.var 0) 33) (.cons (.ai 66) .nil))) (.cons (.ifs (.or (.ex (.ah .eq (.ad (.ad (.var 4) (.var 1)) (.lit (.int 1))) (.ab .nil))) (.ex (.dA Y (.var 6)))) (.cons (.ret (.call 117 (.cons (.var 0) (.cons (.var 1) (.cons (.var 2) (.cons (.var 5) .nil)))))) .nil) .nil) (.cons (.ret (.ite (.ex (.var 5)) (.aR 42 (.var 6) (.cons (.var 0) (.cons (.var 1) (.cons (.var 2) .nil)))) (.aR 37 (.var 6) (.cons (.var 0) (.cons (.var 1) (.cons (.var 2) .nil)))))) .nil))))))))
noncomputable abbrev DU:Ss:=.cons (.ifs (.ex (.ah .ne (.bi .len (.cons (.var 1) .nil)) (.bi .len (.cons (.var 2) .nil)))) (.cons (.ret (.lit (.bool aj))) .nil) .nil) (.cons (.for (.ag 3) (.range (.bi .len (.cons (.var 1) .nil))) (.cons (.ifs (.or (.ex (.ah .ne (.ad (.ad (.var 1) (.var 3)) (.lit (.int 2))) (.ad (.ad (.var 2) (.var 3)) (.lit (.int 2))))) (.no (.ex (.aR 36 (.var 0) (.cons (.ad (.ad (.var 1) (.var 3)) (.lit (.int 1))) (.cons (.ad (.ad (.var 2) (.var 3)) (.lit (.int 1))) .nil)))))) (.cons (.ret (.lit (.bool aj))) .nil) .nil) .nil)) (.cons (.ret (.lit (.bool Y))) .nil))
noncomputable abbrev DV:Ss:=.cons (.ifs (.or (.ex (.ah .eq (.var 1) (.ab .nil))) (.ex (.ah .eq (.var 2) (.ab .nil)))) (.cons (.ret (.ah .eq (.var 1) (.var 2))) .nil) .nil) (.cons (.ret (.call 113 (.cons (.var 0) (.cons (.var 1) (.cons (.var 2) .nil))))) .nil)
noncomputable abbrev DW:Ss:=.cons (.an (.ag 3) (.ao (.var 0) 35)) (.cons (.an (.ag 4) (.ad (.ad (.ao (.ao (.var 3) 20) 6) (.var 1)) (.lit (.int 1)))) (.cons (.an (.ag 5) (.ad (.ao (.ao (.var 3) 20) 6) (.var 2))) (.cons (.ifs (.ex (.ah .ne (.bi .len (.cons (.var 4) .nil)) (.bi .len (.cons (.ad (.var 5) (.lit (.int 1))) .nil)))) (.cons (.ret (.lit (.bool aj))) .nil) .nil) (.cons (.ifs (.ex (.var 4)) (.cons (.an (.ag 1) (.call 78 (.cons (.var 0) (.cons (.ai 66) (.cons (.var 1) (.cons (.var 2) .nil)))))) (.cons (.ifs (.ex (.ah .lt (.var 1) (.lit (.int 0)))) (.cons (.ret (.lit (.bool aj))) .nil) .nil) .nil)) .nil) (.cons (.an (.ag 6) (.ad (.ao (.ao (.var 3) 20) 6) (.var 1))) (.cons (.ifs (.ex (.ah .ne (.aK .band (.aK .bxor (.ad (.var 6) (.lit (.int 5))) (.ad (.var 5) (.lit (.int 5)))) (.aK .bor (.ai 47) (.ai 48))) (.lit (.int 0)))) (.cons (.ret (.lit (.bool aj))) .nil) .nil) (.cons (.ret (.and (.call 119 (.cons (.var 0) (.cons (.ad (.var 6) (.lit (.int 2))) (.cons (.ad (.var 5) (.lit (.int 2))) .nil)))) (.and (.call 120 (.cons (.var 0) (.cons (.ad (.var 6) (.lit (.int 4))) (.cons (.ad (.var 5) (.lit (.int 4))) .nil)))) (.aR 36 (.var 0) (.cons (.ad (.var 6) (.lit (.int 3))) (.cons (.ad (.var 5) (.lit (.int 3))) .nil)))))) .nil)))))))
noncomputable abbrev DX:Ss:=.cons (.ret (.call 118 (.cons (.var 1) (.cons (.var 2) (.cons (.var 3) (.cons (.lit (.bool aj)) .nil)))))) .nil
noncomputable abbrev DY:Ss:=.cons (.gr (.ao (.var 0) 33) (.ai 61) (.new 8 .nil)) (.cons (.gr (.ao (.var 0) 33) (.ai 65) (.new 9 .nil)) .nil)
noncomputable abbrev DZ:Ss:=.cons (.an (.ag 3) (.ad (.var 1) (.lit (.int 0)))) (.cons (.gr (.var 1) (.lit (.int 0)) (.aK .add (.var 3) (.lit (.int 1)))) (.cons (.an (.ag 4) (.bi .len (.cons (.var 0) .nil))) (.cons (.ret (.aK .mod (.aK .add (.ad (.var 0) (.aK .mod (.var 3) (.var 4))) (.aK .mul (.aK .fdiv (.var 3) (.var 4)) (.aK .add (.aK .mod (.ad (.var 0) (.lit (.int 0))) (.lit (.int 7))) (.aK .mul (.lit (.int 3)) (.var 3))))) (.var 2))) .nil)))
noncomputable abbrev xY:Ss:=.cons (.ifs (.ex (.aK .band (.var 0) (.lit (.int 4096)))) (.cons (.ret (.lit (.int 4096))) .nil) .nil) (.cons (.ifs (.ex (.aK .band (.var 0) (.lit (.int 2048)))) (.cons (.ret (.lit (.int 2048))) .nil) .nil) (.cons (.ifs (.ex (.aK .band (.var 0) (.lit (.int 4)))) (.cons (.an (.ag 0) (.aK .band (.var 0) (.nU (.lit (.int 3))))) .nil) .nil) (.cons (.ifs (.ex (.aK .band (.var 0) (.lit (.int 32)))) (.cons (.an (.ag 0) (.aK .band (.var 0) (.nU (.lit (.int 24))))) .nil) .nil) (.cons (.ret (.var 0)) .nil))))
noncomputable abbrev D0:Ss:=.cons (.an (.ag 2) (.call 132 (.cons (.aK .bor (.ad (.var 0) (.lit (.int 0))) (.var 1)) .nil))) (.cons (.ret (.ab (.cons (.var 2) (.cons (.ite (.ex (.aK .band (.var 2) (.lit (.int 6144)))) (.lit (.none)) (.ad (.var 0) (.lit (.int 1)))) .nil)))) .nil)
noncomputable abbrev D1:Ss:=.cons (.an (.ag 3) (.call 131 (.cons (.var 0) (.cons (.var 1) (.cons (.lit (.int 22)) .nil))))) (.cons (.ifs (.or (.ex (.ah .lt (.var 3) (.lit (.int 18)))) (.ex (.ah .gt (.var 2) (.lit (.int 1))))) (.cons (.ret (.ab (.cons (.ad (.ai 74) (.aK .mod (.var 3) (.lit (.int 18)))) (.cons (.lit (.none)) .nil)))) .nil) .nil) (.cons (.ret (.ab (.cons (.ad (.ab (.cons (.lit (.int 0)) (.cons (.lit (.int 0)) (.cons (.lit (.int 512)) (.cons (.lit (.int 256)) .nil))))) (.aK .sub (.var 3) (.lit (.int 18)))) (.cons (.call 136 (.cons (.var 0) (.cons (.var 1) (.cons (.aK .add (.var 2) (.lit (.int 1))) .nil)))) .nil)))) .nil))
noncomputable abbrev xZ:Ss:=.cons (.an (.ag 2) (.call 131 (.cons (.var 0) (.cons (.var 1) (.cons (.lit (.int 6)) .nil))))) (.cons (.ifs (.ex (.ah .lt (.var 2) (.lit (.int 3)))) (.cons (.ret (.ab .nil)) .nil) .nil) (.cons (.an (.ag 3) (.ite (.ex (.ah .eq (.var 2) (.lit (.int 5)))) (.lit (.none)) (.ab (.cons (.ad (.ai 74) (.call 131 (.cons (.var 0) (.cons (.var 1) (.cons (.lit (.int 18)) .nil))))) (.cons (.lit (.none)) .nil))))) (.cons (.ret (.ab (.cons (.aK .sub (.call 131 (.cons (.var 0) (.cons (.var 1) (.cons (.lit (.int 2)) .nil)))) (.lit (.int 1))) (.cons (.var 3) (.cons (.aK .mod (.var 2) (.lit (.int 2))) .nil))))) .nil)))
noncomputable abbrev qF:Ss:=.cons (.an (.ag 3) (.ite (.ex (.ah .eq (.var 2) (.lit (.int 0)))) (.aK .add (.call 131 (.cons (.var 0) (.cons (.var 1) (.cons (.lit (.int 3)) .nil)))) (.lit (.int 1))) (.call 131 (.cons (.var 0) (.cons (.var 1) (.cons (.lit (.int 2)) .nil)))))) (.cons (.an (.ag 4) (.call 131 (.cons (.var 0) (.cons (.var 1) (.cons (.aK .add (.var 3) (.lit (.int 1))) .nil))))) (.cons (.an (.ag 5) (.dB .nil)) (.cons (.for (.ag 6) (.range (.var 3)) (.cons (.expr (.aR 0 (.var 5) (.cons (.ab (.cons (.call 134 (.cons (.var 0) (.cons (.var 1) (.cons (.var 2) .nil)))) (.cons (.ite (.ex (.ah .lt (.var 6) (.aK .sub (.var 3) (.var 4)))) (.lit (.int 0)) (.lit (.int 1))) .nil))) .nil))) .nil)) (.cons (.an (.ag 7) (.lit (.none))) (.cons (.an (.ag 8) (.var 3)) (.cons (.an (.ag 9) (.call 131 (.cons (.var 0) (.cons (.var 1) (.cons (.lit (.int 6)) .nil))))) (.cons (.ifs (.and (.ex (.ah .eq (.ad (.var 1) (.lit (.int 1))) (.lit (.int 0)))) (.ex (.ah .lt (.var 2) (.lit (.int 2))))) (.cons (.ifs (.ex (.ah .gt (.var 9) (.lit (.int 2)))) (.cons (.an (.ag 7) (.call 134 (.cons (.var 0) (.cons (.var 1) (.cons (.lit (.int 2)) .nil))))) .nil) .nil) (.cons (.ifs (.ex (.ah .eq (.aK .mod (.var 9) (.lit (.int 3))) (.lit (.int 1)))) (.cons (.an (.ag 8) (.call 131 (.cons (.var 0) (.cons (.var 1) (.cons (.aK .add (.var 3) (.lit (.int 1))) .nil))))) .nil) .nil) .nil)) .nil) (.cons (.an (.ag 10) (.call 134 (.cons (.var 0) (.cons (.var 1) (.cons (.var 2) .nil))))) (.cons (.an (.ag 11) (.call 135 (.cons (.var 0) (.cons (.var 1) .nil)))) (.cons (.ret (.ab (.cons (.bi .tuple (.cons (.var 5) .nil)) (.cons (.var 8) (.cons (.var 7) (.cons (.var 10) (.cons (.var 11) (.cons (.ad (.ab (.cons (.lit (.int 0)) (.cons (.lit (.int 0)) (.cons (.lit (.int 1)) (.cons (.lit (.int 0)) (.cons (.lit (.int 2)) (.cons (.lit (.int 5)) .nil))))))) (.call 131 (.cons (.var 0) (.cons (.var 1) (.cons (.lit (.int 6)) .nil))))) .nil)))))))) .nil))))))))))
noncomputable abbrev D2:Ss:=.cons (.an (.ag 4) (.call 131 (.cons (.var 0) (.cons (.var 1) (.cons (.lit (.int 7)) .nil))))) (.cons (.ifs (.ex (.ah .eq (.var 4) (.lit (.int 3)))) (.cons (.ret (.call 133 (.cons (.var 2) (.cons (.aK .shl (.lit (.int 1)) (.call 131 (.cons (.var 0) (.cons (.var 1) (.cons (.lit (.int 12)) .nil))))) .nil)))) .nil) .nil) (.cons (.ifs (.ex (.ah .eq (.var 4) (.lit (.int 4)))) (.cons (.ret (.ab (.cons (.aK .band (.ad (.var 2) (.lit (.int 0))) (.aK .sub (.ad (.var 2) (.lit (.int 0))) (.lit (.int 1)))) (.cons (.ad (.var 2) (.lit (.int 1))) .nil)))) .nil) .nil) (.cons (.ifs (.and (.ex (.ah .eq (.var 4) (.lit (.int 5)))) (.ex (.dA aj (.ad (.var 2) (.lit (.int 1)))))) (.cons (.ret (.ab (.cons (.ad (.var 2) (.lit (.int 0))) (.cons (.call 138 (.cons (.var 0) (.cons (.var 1) (.cons (.ad (.var 2) (.lit (.int 1))) (.cons (.aK .add (.var 3) (.lit (.int 1))) .nil))))) .nil)))) .nil) .nil) (.cons (.ifs (.ex (.ah .gt (.var 4) (.lit (.int 4)))) (.cons (.ret (.call 134 (.cons (.var 0) (.cons (.var 1) (.cons (.var 3) .nil))))) .nil) .nil) (.cons (.ret (.var 2)) .nil)))))
noncomputable abbrev gx:Ss:=.cons (.an (.fT [4,5,6,7,8,9]) (.var 2)) (.cons (.an (.ag 10) (.call 131 (.cons (.var 0) (.cons (.var 1) (.cons (.lit (.int 8)) .nil))))) (.cons (.an (.ag 11) (.comp (.fT [15,16]) (.ex (.var 4)) (.ex (.lit (.bool Y))) (.ab (.cons (.call 137 (.cons (.var 0) (.cons (.var 1) (.cons (.var 15) (.cons (.var 3) .nil))))) (.cons (.var 16) .nil))) [D (S0 "nums"),D (S0 "at"),I,D (S0 "deep"),I,I,I,I,I,I,I,I,I,I,I,D (S0 "kind"),D (S0 "opt"),I])) (.cons (.an (.ag 12) (.ah .eq (.var 5) (.bi .len (.cons (.var 11) .nil)))) (.cons (.ifs (.and (.ex (.ah .eq (.var 10) (.lit (.int 0)))) (.ex (.ah .gt (.bi .len (.cons (.var 11) .nil)) (.lit (.int 0))))) (.cons (.an (.ag 11) (.hG (.var 11) (.lit .none) (.neg (.lit (.int 1))))) .nil) .nil) (.cons (.ifs (.ex (.ah .eq (.var 10) (.lit (.int 1)))) (.cons (.an (.ag 13) (.ite (.ex (.ah .gt (.bi .len (.cons (.var 11) .nil)) (.lit (.int 0)))) (.ad (.ad (.var 11) (.neg (.lit (.int 1)))) (.lit (.int 1))) (.lit (.int 0)))) (.cons (.expr (.aR 0 (.var 11) (.cons (.ab (.cons (.call 134 (.cons (.var 0) (.cons (.var 1) (.cons (.lit (.int 2)) .nil)))) (.cons (.ite (.ex (.var 13)) (.lit (.int 1)) (.call 131 (.cons (.var 0) (.cons (.var 1) (.cons (.lit (.int 2)) .nil))))) .nil))) .nil))) .nil)) .nil) (.cons (.ifs (.ex (.ah .eq (.var 10) (.lit (.int 2)))) (.cons (.an (.ag 14) (.call 131 (.cons (.var 0) (.cons (.var 1) (.cons (.aK .add (.bi .len (.cons (.var 11) .nil)) (.lit (.int 1))) .nil))))) (.cons (.an (.ag 11) (.comp (.ag 17) (.range (.bi .len (.cons (.var 11) .nil))) (.ex (.lit (.bool Y))) (.ab (.cons (.ad (.ad (.var 11) (.var 17)) (.lit (.int 0))) (.cons (.ite (.ex (.ah .lt (.var 17) (.var 14))) (.lit (.int 0)) (.lit (.int 1))) .nil))) [I,I,I,I,I,I,I,I,I,I,I,D (S0 "rows"),I,I,D (S0 "wants"),I,I,D (S0 "i")])) .nil)) .nil) (.cons (.ifs (.and (.ex (.ah .eq (.var 10) (.lit (.int 3)))) (.ex (.ah .eq (.ad (.var 1) (.lit (.int 1))) (.lit (.int 0))))) (.cons (.an (.ag 6) (.ite (.ex (.dA aj (.var 6))) (.lit (.none)) (.call 134 (.cons (.var 0) (.cons (.var 1) (.cons (.lit (.int 2)) .nil)))))) .nil) (.cons (.ifs (.ex (.dA aj (.var 6))) (.cons (.an (.ag 6) (.call 137 (.cons (.var 0) (.cons (.var 1) (.cons (.var 6) (.cons (.lit (.int 2)) .nil)))))) .nil) .nil) .nil)) (.cons (.an (.ag 5) (.ite (.ex (.var 12)) (.bi .len (.cons (.var 11) .nil)) (.bi .min (.cons (.var 5) (.cons (.bi .len (.cons (.var 11) .nil)) .nil))))) (.cons (.ifs (.and (.ex (.ah .eq (.var 10) (.lit (.int 4)))) (.ex (.ah .eq (.ad (.var 1) (.lit (.int 1))) (.lit (.int 0))))) (.cons (.an (.ag 5) (.call 131 (.cons (.var 0) (.cons (.var 1) (.cons (.aK .add (.bi .len (.cons (.var 11) .nil)) (.lit (.int 1))) .nil))))) .nil) .nil) (.cons (.an (.ag 7) (.call 137 (.cons (.var 0) (.cons (.var 1) (.cons (.var 7) (.cons (.var 3) .nil)))))) (.cons (.ifs (.ex (.ah .eq (.call 131 (.cons (.var 0) (.cons (.var 1) (.cons (.lit (.int 5)) .nil)))) (.lit (.int 4)))) (.cons (.an (.ag 7) (.ab (.cons (.lit (.int 1024)) (.cons (.lit (.none)) .nil)))) .nil) .nil) (.cons (.ifs (.ex (.ah .eq (.call 131 (.cons (.var 0) (.cons (.var 1) (.cons (.lit (.int 4)) .nil)))) (.lit (.int 3)))) (.cons (.an (.ag 8) (.call 135 (.cons (.var 0) (.cons (.var 1) .nil)))) .nil) .nil) (.cons (.ifs (.ex (.ah .eq (.call 131 (.cons (.var 0) (.cons (.var 1) (.cons (.lit (.int 3)) .nil)))) (.lit (.int 2)))) (.cons (.an (.ag 9) (.ad (.ab (.cons (.lit (.int 0)) (.cons (.lit (.int 1)) (.cons (.lit (.int 4)) .nil)))) (.call 131 (.cons (.var 0) (.cons (.var 1) (.cons (.lit (.int 3)) .nil)))))) .nil) .nil) (.cons (.ret (.ab (.cons (.bi .tuple (.cons (.var 11) .nil)) (.cons (.var 5) (.cons (.var 6) (.cons (.var 7) (.cons (.var 8) (.cons (.var 9) .nil)))))))) .nil))))))))))))))
noncomputable abbrev D3:Ss:=.cons (.ifs (.ex (.ah .lt (.var 1) (.lit (.int 2)))) (.cons (.ret (.call 11 (.cons (.var 0) (.cons (.ad (.lit (.str (S0 "ab"))) (.var 1)) (.cons (.var 2) .nil))))) .nil) .nil) (.cons (.ifs (.or (.ex (.ah .eq (.var 1) (.lit (.int 3)))) (.ex (.ah .eq (.var 1) (.lit (.int 4))))) (.cons (.ret (.call 12 (.cons (.var 0) (.cons (.aK .sub (.var 1) (.lit (.int 3))) (.cons (.var 2) .nil))))) .nil) .nil) (.cons (.ifs (.or (.ex (.ah .eq (.var 1) (.lit (.int 6)))) (.ex (.ah .eq (.var 1) (.lit (.int 7))))) (.cons (.ret (.call 13 (.cons (.var 0) (.cons (.aK .sub (.var 1) (.lit (.int 6))) (.cons (.var 2) .nil))))) .nil) .nil) (.cons (.ret (.ad (.ab (.cons (.lit (.int 0)) (.cons (.lit (.int 0)) (.cons (.ai 30) (.cons (.lit (.int 0)) (.cons (.lit (.int 0)) (.cons (.ai 31) (.cons (.lit (.int 0)) (.cons (.lit (.int 0)) (.cons (.ai 29) (.cons (.ai 28) (.cons (.ai 27) (.cons (.ai 25) (.cons (.ai 24) .nil)))))))))))))) (.var 1))) .nil)))
noncomputable abbrev D4:Ss:=.cons (.an (.ag 4) (.comp (.ag 5) (.range (.lit (.int 13))) (.ex (.aK .band (.aK .shr (.ad (.var 1) (.lit (.int 0))) (.var 5)) (.lit (.int 1)))) (.call 139 (.cons (.var 0) (.cons (.var 5) (.cons (.var 3) .nil)))) [D (S0 "tab"),D (S0 "kind"),I,D (S0 "fresh"),I,D (S0 "i")])) (.cons (.ifs (.ex (.dA aj (.ad (.var 1) (.lit (.int 1))))) (.cons (.expr (.aR 0 (.var 4) (.cons (.call 141 (.cons (.var 0) (.cons (.ad (.var 1) (.lit (.int 1))) (.cons (.var 2) (.cons (.var 3) .nil))))) .nil))) .nil) .nil) (.cons (.ret (.call 26 (.cons (.var 0) (.cons (.var 4) .nil)))) .nil))
noncomputable abbrev pg:Ss:=.cons (.an (.fT [4,5,6,7,8,9]) (.var 1)) (.cons (.an (.ag 10) (.dB .nil)) (.cons (.an (.ag 11) (.dB .nil)) (.cons (.for (.ag 12) (.range (.bi .len (.cons (.var 4) .nil))) (.cons (.an (.ag 13) (.call 140 (.cons (.var 0) (.cons (.ad (.ad (.var 4) (.var 12)) (.lit (.int 0))) (.cons (.var 2) (.cons (.var 3) .nil)))))) (.cons (.ifs (.ex (.ah .lt (.var 12) (.var 5))) (.cons (.expr (.aR 0 (.var 10) (.cons (.ab (.cons (.aK .add (.var 2) (.bi .str (.cons (.var 12) .nil))) (.cons (.var 13) (.cons (.ite (.ex (.ad (.ad (.var 4) (.var 12)) (.lit (.int 1)))) (.ai 44) (.ai 43)) .nil)))) .nil))) .nil) (.cons (.expr (.aR 0 (.var 11) (.cons (.ab (.cons (.var 13) (.cons (.ite (.ex (.ad (.ad (.var 4) (.var 12)) (.lit (.int 1)))) (.ai 40) (.ai 39)) .nil))) .nil))) .nil)) .nil))) (.cons (.ifs (.ex (.ah .gt (.bi .len (.cons (.var 11) .nil)) (.lit (.int 0)))) (.cons (.ifs (.ex (.dA aj (.var 6))) (.cons (.expr (.aR 0 (.var 11) (.cons (.ab (.cons (.call 140 (.cons (.var 0) (.cons (.var 6) (.cons (.var 2) (.cons (.var 3) .nil))))) (.cons (.ai 41) .nil))) .nil))) .nil) .nil) (.cons (.expr (.aR 0 (.var 10) (.cons (.ab (.cons (.var 2) (.cons (.call 18 (.cons (.var 0) (.cons (.var 11) .nil))) (.cons (.ai 45) .nil)))) .nil))) .nil)) (.cons (.ifs (.ex (.dA aj (.var 6))) (.cons (.expr (.aR 0 (.var 10) (.cons (.ab (.cons (.var 2) (.cons (.call 14 (.cons (.var 0) (.cons (.call 140 (.cons (.var 0) (.cons (.var 6) (.cons (.var 2) (.cons (.var 3) .nil))))) .nil))) (.cons (.ai 45) .nil)))) .nil))) .nil) .nil) .nil)) (.cons (.an (.ag 14) (.ab .nil)) (.cons (.ifs (.ex (.ah .ne (.var 8) (.ab .nil))) (.cons (.an (.ag 14) (.ab (.cons (.ad (.var 8) (.lit (.int 0))) (.cons (.ite (.ex (.dA Y (.ad (.var 8) (.lit (.int 1))))) (.neg (.lit (.int 1))) (.call 140 (.cons (.var 0) (.cons (.ad (.var 8) (.lit (.int 1))) (.cons (.var 2) (.cons (.var 3) .nil)))))) (.cons (.ad (.var 8) (.lit (.int 2))) .nil))))) .nil) .nil) (.cons (.ret (.call 19 (.cons (.var 0) (.cons (.ab .nil) (.cons (.var 10) (.cons (.call 140 (.cons (.var 0) (.cons (.var 7) (.cons (.var 2) (.cons (.var 3) .nil))))) (.cons (.var 14) (.cons (.var 9) .nil)))))))) .nil)))))))
noncomputable abbrev x8:Ss:=.cons (.an (.ag 1) (.ad (.var 0) (.lit (.int 4)))) (.cons (.ifs (.and (.ex (.ah .ne (.var 1) (.ab .nil))) (.ex (.dA aj (.ad (.var 1) (.lit (.int 1)))))) (.cons (.an (.ag 1) (.ab (.cons (.ad (.var 1) (.lit (.int 0))) (.cons (.call 143 (.cons (.ad (.var 1) (.lit (.int 1))) .nil)) (.cons (.ad (.var 1) (.lit (.int 2))) .nil))))) .nil) .nil) (.cons (.an (.ag 2) (.bi .tuple (.cons (.comp (.fT [3,4]) (.ex (.ad (.var 0) (.lit (.int 0)))) (.ex (.lit (.bool Y))) (.ab (.cons (.call 143 (.cons (.var 3) .nil)) (.cons (.var 4) .nil))) [I,I,I,D (S0 "kind"),D (S0 "opt")]) .nil))) (.cons (.ret (.ab (.cons (.var 2) (.cons (.call 143 (.cons (.ad (.var 0) (.lit (.int 3))) .nil)) (.cons (.var 1) (.cons (.aK .band (.ad (.var 0) (.lit (.int 5))) (.lit (.int 6))) .nil)))))) .nil)))
noncomputable abbrev D5:Ss:=.cons (.ret (.ab (.cons (.ad (.var 0) (.lit (.int 0))) (.cons (.ite (.ex (.dA Y (.ad (.var 0) (.lit (.int 1))))) (.lit (.none)) (.call 142 (.cons (.ad (.var 0) (.lit (.int 1))) .nil))) .nil)))) .nil
noncomputable abbrev uU:Ss:=.cons (.ifs (.or (.ex (.aK .band (.ad (.var 1) (.lit (.int 0))) (.lit (.int 4096)))) (.ex (.ah .eq (.var 0) (.ab (.cons (.lit (.int 0)) (.cons (.lit (.none)) .nil)))))) (.cons (.ret (.lit (.int 0))) .nil) .nil) (.cons (.ifs (.and (.ex (.aK .band (.ad (.var 0) (.lit (.int 0))) (.lit (.int 4096)))) (.ex (.ah .eq (.var 2) (.ai 58)))) (.cons (.ret (.neg (.lit (.int 1)))) .nil) .nil) (.cons (.ifs (.ex (.aK .band (.ad (.var 1) (.lit (.int 0))) (.lit (.int 2048)))) (.cons (.ret (.lit (.int 0))) .nil) .nil) (.cons (.ifs (.ex (.aK .band (.ad (.var 0) (.lit (.int 0))) (.lit (.int 4096)))) (.cons (.ret (.ite (.ex (.ah .eq (.var 1) (.ab (.cons (.lit (.int 0)) (.cons (.lit (.none)) .nil))))) (.neg (.lit (.int 1))) (.lit (.int 1)))) .nil) .nil) (.cons (.an (.ag 3) (.aK .bor (.aK .bor (.aK .bor (.ad (.var 1) (.lit (.int 0))) (.ite (.ex (.aK .band (.ad (.var 1) (.lit (.int 0))) (.lit (.int 4)))) (.lit (.int 3)) (.lit (.int 0)))) (.ite (.ex (.aK .band (.ad (.var 1) (.lit (.int 0))) (.lit (.int 32)))) (.lit (.int 24)) (.lit (.int 0)))) (.ite (.ex (.aK .band (.ad (.var 1) (.lit (.int 0))) (.lit (.int 1024)))) (.lit (.int 512)) (.lit (.int 0))))) (.cons (.an (.ag 4) (.neg (.lit (.int 1)))) (.cons (.ifs (.and (.ex (.dA aj (.ad (.var 0) (.lit (.int 1))))) (.ex (.dA aj (.ad (.var 1) (.lit (.int 1)))))) (.cons (.an (.ag 4) (.call 151 (.cons (.ad (.var 0) (.lit (.int 1))) (.cons (.ad (.var 1) (.lit (.int 1))) (.cons (.lit (.bool aj)) (.cons (.var 2) .nil)))))) .nil) .nil) (.cons (.ifs (.ex (.ah .eq (.var 2) (.ai 56))) (.cons (.an (.ag 3) (.aK .bor (.aK .bor (.aK .bor (.var 3) (.ite (.ex (.aK .band (.ad (.var 1) (.lit (.int 0))) (.lit (.int 3)))) (.lit (.int 4)) (.lit (.int 0)))) (.ite (.ex (.aK .band (.ad (.var 1) (.lit (.int 0))) (.lit (.int 24)))) (.lit (.int 32)) (.lit (.int 0)))) (.ite (.ex (.aK .band (.ad (.var 1) (.lit (.int 0))) (.lit (.int 512)))) (.lit (.int 1024)) (.lit (.int 0))))) (.cons (.ifs (.ex (.ah .ne (.var 1) (.ab (.cons (.lit (.int 0)) (.cons (.lit (.none)) .nil))))) (.cons (.an (.ag 3) (.aK .bor (.var 3) (.lit (.int 2048)))) .nil) .nil) (.cons (.ret (.ite (.or (.ex (.aK .band (.ad (.var 0) (.lit (.int 0))) (.var 3))) (.ex (.ah .ge (.var 4) (.lit (.int 0))))) (.lit (.int 0)) (.neg (.lit (.int 1))))) .nil))) .nil) (.cons (.ifs (.ex (.aK .band (.ad (.var 0) (.lit (.int 0))) (.nU (.var 3)))) (.cons (.ret (.neg (.lit (.int 1)))) .nil) .nil) (.cons (.ret (.ite (.ex (.dA Y (.ad (.var 0) (.lit (.int 1))))) (.lit (.int 0)) (.var 4))) .nil)))))))))
noncomputable abbrev D6:Ss:=.cons (.an (.ag 4) (.call 144 (.cons (.var 0) (.cons (.var 1) (.cons (.var 3) .nil))))) (.cons (.ifs (.and (.ex (.ah .lt (.var 4) (.lit (.int 0)))) (.and (.ex (.var 2)) (.ex (.ah .ne (.var 3) (.ai 58))))) (.cons (.an (.ag 4) (.call 144 (.cons (.var 1) (.cons (.var 0) (.cons (.var 3) .nil))))) (.cons (.ifs (.ex (.ah .ge (.var 4) (.lit (.int 0)))) (.cons (.an (.ag 4) (.aK .bor (.var 4) (.lit (.int 2)))) .nil) .nil) .nil)) .nil) (.cons (.ret (.var 4)) .nil))
noncomputable abbrev D7:Ss:=.cons (.an (.ag 3) (.ad (.var 0) (.lit (.int 4)))) (.cons (.an (.ag 4) (.ad (.var 1) (.lit (.int 4)))) (.cons (.ifs (.ex (.ah .eq (.ad (.var 1) (.lit (.int 3))) (.ab (.cons (.lit (.int 1024)) (.cons (.lit (.none)) .nil))))) (.cons (.ret (.lit (.int 0))) .nil) .nil) (.cons (.ifs (.ex (.ah .ne (.var 4) (.ab .nil))) (.cons (.ifs (.or (.ex (.ah .eq (.var 3) (.ab .nil))) (.or (.ex (.ah .ne (.ad (.var 3) (.lit (.int 0))) (.ad (.var 4) (.lit (.int 0))))) (.ex (.ah .ne (.ad (.var 3) (.lit (.int 2))) (.ad (.var 4) (.lit (.int 2))))))) (.cons (.ret (.neg (.lit (.int 1)))) .nil) .nil) (.cons (.ifs (.or (.ex (.dA Y (.ad (.var 3) (.lit (.int 1))))) (.ex (.dA Y (.ad (.var 4) (.lit (.int 1)))))) (.cons (.ret (.ite (.and (.ex (.dA Y (.ad (.var 3) (.lit (.int 1))))) (.ex (.dA Y (.ad (.var 4) (.lit (.int 1)))))) (.lit (.int 0)) (.neg (.lit (.int 1))))) .nil) .nil) (.cons (.ret (.call 144 (.cons (.ad (.var 3) (.lit (.int 1))) (.cons (.ad (.var 4) (.lit (.int 1))) (.cons (.var 2) .nil))))) .nil))) .nil) (.cons (.ret (.call 144 (.cons (.ad (.var 0) (.lit (.int 3))) (.cons (.ad (.var 1) (.lit (.int 3))) (.cons (.var 2) .nil))))) .nil))))
noncomputable abbrev D8:Ss:=.cons (.while (.and (.ex (.ah .gt (.var 1) (.lit (.int 0)))) (.ex (.aK .band (.ad (.ad (.var 0) (.aK .sub (.var 1) (.lit (.int 1)))) (.lit (.int 0))) (.lit (.int 1024))))) (.cons (.an (.ag 1) (.aK .sub (.var 1) (.lit (.int 1)))) .nil)) (.cons (.ret (.var 1)) .nil)
noncomputable abbrev D9:Ss:=.cons (.ret (.comp (.fT [1,2]) (.ex (.ad (.var 0) (.lit (.int 0)))) (.ex (.lit (.bool Y))) (.ite (.ex (.var 2)) (.call 133 (.cons (.var 1) (.cons (.lit (.int 512)) .nil))) (.var 1)) [I,D (S0 "kind"),D (S0 "opt")])) .nil
noncomputable abbrev Ea:Ss:=.cons (.ret (.bi .len (.cons (.comp (.fT [1,2]) (.ex (.ad (.var 0) (.lit (.int 0)))) (.no (.ex (.var 2))) (.lit (.int 1)) [I,D (S0 "kind"),D (S0 "opt")]) .nil))) .nil
noncomputable abbrev x9:Ss:=.cons (.an (.ag 1) (.and (.aY Y (.ad (.var 0) (.lit (.int 2))) (.ab (.cons (.ab (.cons (.lit (.int 4096)) (.cons (.lit (.none)) .nil))) (.cons (.ab (.cons (.lit (.int 0)) (.cons (.lit (.none)) .nil))) .nil)))) (.aY Y (.ad (.var 0) (.lit (.int 3))) (.ab (.cons (.ab (.cons (.lit (.int 4096)) (.cons (.lit (.none)) .nil))) (.cons (.ab (.cons (.lit (.int 2048)) (.cons (.lit (.none)) .nil))) .nil)))))) (.cons (.ret (.and (.var 1) (.and (.ah .eq (.bi .len (.cons (.ad (.var 0) (.lit (.int 0))) .nil)) (.lit (.int 0))) (.ah .eq (.ad (.var 0) (.lit (.int 4))) (.ab .nil))))) .nil)
noncomputable abbrev ph:Ss:=.cons (.ifs (.ex (.ah .eq (.var 3) (.ai 57))) (.cons (.ret (.ite (.ex (.ah .eq (.call 142 (.cons (.var 0) .nil)) (.call 142 (.cons (.var 1) .nil)))) (.lit (.int 0)) (.neg (.lit (.int 1))))) .nil) .nil) (.cons (.an (.ag 4) (.call 148 (.cons (.var 0) .nil))) (.cons (.an (.ag 5) (.call 148 (.cons (.var 1) .nil))) (.cons (.an (.ag 6) (.call 147 (.cons (.var 4) (.cons (.call 149 (.cons (.var 0) .nil)) .nil)))) (.cons (.an (.ag 7) (.call 147 (.cons (.var 5) (.cons (.call 149 (.cons (.var 1) .nil)) .nil)))) (.cons (.an (.ag 8) (.lit (.int 0))) (.cons (.ifs (.and (.ex (.call 150 (.cons (.var 1) .nil))) (.no (.and (.ex (.ah .eq (.var 3) (.ai 58))) (.ex (.call 150 (.cons (.var 0) .nil)))))) (.cons (.ret (.ite (.ex (.ad (.ad (.var 1) (.lit (.int 2))) (.lit (.int 0)))) (.lit (.int 1)) (.ite (.ex (.ah .gt (.var 6) (.lit (.int 0)))) (.lit (.int 4)) (.lit (.int 0))))) .nil) .nil) (.cons (.ifs (.ex (.dA Y (.ad (.var 1) (.lit (.int 2))))) (.cons (.ifs (.ex (.ah .gt (.var 6) (.bi .len (.cons (.var 5) .nil)))) (.cons (.ret (.neg (.lit (.int 1)))) .nil) .nil) (.cons (.ifs (.or (.ex (.dA aj (.ad (.var 0) (.lit (.int 2))))) (.ex (.ah .gt (.bi .len (.cons (.var 4) .nil)) (.bi .len (.cons (.var 5) .nil))))) (.cons (.ifs (.ex (.ah .eq (.var 3) (.ai 58))) (.cons (.ret (.neg (.lit (.int 1)))) .nil) .nil) (.cons (.an (.ag 8) (.lit (.int 4))) .nil)) .nil) .nil)) (.cons (.ifs (.ex (.ah .gt (.var 6) (.bi .len (.cons (.var 5) .nil)))) (.cons (.an (.ag 8) (.lit (.int 4))) .nil) .nil) .nil)) (.cons (.for (.ag 9) (.range (.lit (.int 6))) (.cons (.an (.ag 10) (.ite (.ex (.ah .lt (.var 9) (.bi .len (.cons (.var 4) .nil)))) (.ad (.var 4) (.var 9)) (.ad (.var 0) (.lit (.int 2))))) (.cons (.an (.ag 11) (.ite (.ex (.ah .lt (.var 9) (.bi .len (.cons (.var 5) .nil)))) (.ad (.var 5) (.var 9)) (.ad (.var 1) (.lit (.int 2))))) (.cons (.ifs (.and (.ex (.dA aj (.var 10))) (.ex (.dA aj (.var 11)))) (.cons (.an (.ag 12) (.call 145 (.cons (.var 11) (.cons (.var 10) (.cons (.or (.var 2) (.or (.aK .band (.ad (.var 0) (.lit (.int 5))) (.ai 46)) (.aK .band (.ad (.var 1) (.lit (.int 5))) (.ai 46)))) (.cons (.var 3) .nil)))))) (.cons (.ifs (.ex (.ah .lt (.var 12) (.lit (.int 0)))) (.cons (.ret (.neg (.lit (.int 1)))) .nil) .nil) (.cons (.ifs (.and (.ex (.ah .eq (.var 3) (.ai 58))) (.and (.gq (.var 6) (.var 9) (.var 7)) (.ex (.ah .ge (.call 144 (.cons (.var 10) (.cons (.var 11) (.cons (.var 3) .nil)))) (.lit (.int 0)))))) (.cons (.ret (.neg (.lit (.int 1)))) .nil) .nil) (.cons (.an (.ag 8) (.aK .bor (.var 8) (.var 12))) .nil)))) .nil) .nil)))) (.cons (.an (.ag 12) (.call 146 (.cons (.var 0) (.cons (.var 1) (.cons (.var 3) .nil))))) (.cons (.ret (.ite (.ex (.ah .lt (.var 12) (.lit (.int 0)))) (.neg (.lit (.int 1))) (.aK .bor (.var 8) (.var 12)))) .nil))))))))))
noncomputable abbrev j0:Ss:=.cons (.an (.ag 1) (.comp (.ag 24) (.ex (.hG (.var 0) (.lit .none) (.lit (.int 40)))) (.ex (.lit (.bool Y))) (.aK .mod (.var 24) (.lit (.int 999983))) [I,I,I,I,I,I,I,I,I,I,I,I,I,I,I,I,I,I,I,I,I,I,I,I,D (S0 "n"),I])) (.cons (.ifs (.ex (.ah .eq (.bi .len (.cons (.var 1) .nil)) (.lit (.int 0)))) (.cons (.an (.ag 1) (.dB (.cons (.lit (.int 5)) .nil))) .nil) .nil) (.cons (.an (.ag 2) (.dB (.cons (.lit (.int 0)) (.cons (.lit (.int 0)) .nil)))) (.cons (.an (.ag 3) (.ad (.ab (.cons (.ai 58) (.cons (.ai 56) (.cons (.ai 57) .nil)))) (.call 131 (.cons (.var 1) (.cons (.var 2) (.cons (.lit (.int 3)) .nil)))))) (.cons (.ifs (.ex (.ah .eq (.var 3) (.ai 57))) (.cons (.gr (.var 2) (.lit (.int 1)) (.lit (.int 1))) .nil) .nil) (.cons (.an (.ag 4) (.ah .eq (.call 131 (.cons (.var 1) (.cons (.var 2) (.cons (.lit (.int 3)) .nil)))) (.lit (.int 1)))) (.cons (.an (.ag 5) (.call 131 (.cons (.var 1) (.cons (.var 2) (.cons (.lit (.int 2)) .nil))))) (.cons (.an (.ag 6) (.call 136 (.cons (.var 1) (.cons (.var 2) (.cons (.lit (.int 0)) .nil))))) (.cons (.an (.ag 7) (.call 138 (.cons (.var 1) (.cons (.var 2) (.cons (.var 6) (.cons (.lit (.int 0)) .nil)))))) (.cons (.an (.ag 8) (.new 4 .nil)) (.cons (.an (.ag 9) (.new 5 (.cons (.var 8) .nil))) (.cons (.an (.ag 10) (.call 141 (.cons (.var 8) (.cons (.var 6) (.cons (.lit (.str (S0 "x"))) (.cons (.var 5) .nil)))))) (.cons (.an (.ag 11) (.call 19 (.cons (.var 8) (.cons (.ab .nil) (.cons (.ab (.cons (.ab (.cons (.lit (.str (S0 "x"))) (.cons (.ai 26) (.cons (.ai 45) .nil)))) .nil)) (.cons (.ai 29) .nil)))))) (.cons (.an (.ag 12) (.call 141 (.cons (.var 8) (.cons (.var 7) (.cons (.lit (.str (S0 "y"))) (.cons (.lit (.int 0)) .nil)))))) (.cons (.an (.ag 13) (.call 131 (.cons (.var 1) (.cons (.var 2) (.cons (.lit (.int 3)) .nil))))) (.cons (.an (.ag 14) (.ad (.ab (.cons (.ai 26) (.cons (.call 14 (.cons (.var 8) (.cons (.ai 24) .nil))) (.cons (.call 14 (.cons (.var 8) (.cons (.ai 26) .nil))) .nil)))) (.var 13))) (.cons (.an (.ag 15) (.call 19 (.cons (.var 8) (.cons (.ab .nil) (.cons (.ab (.cons (.ab (.cons (.lit (.str (S0 "z"))) (.cons (.var 14) (.cons (.ai 45) .nil)))) .nil)) (.cons (.ad (.ab (.cons (.ai 25) (.cons (.ai 24) .nil))) (.var 5)) (.cons (.ab .nil) (.cons (.var 5) .nil)))))))) (.cons (.for (.fT [16,17,18,19]) (.ex (.ab (.cons (.ab (.cons (.var 6) (.cons (.var 7) (.cons (.var 10) (.cons (.var 12) .nil))))) (.cons (.ab (.cons (.var 7) (.cons (.var 6) (.cons (.var 12) (.cons (.var 10) .nil))))) .nil)))) (.cons (.for (.ag 20) (.ex (.ab (.cons (.ai 55) (.cons (.var 3) .nil)))) (.cons (.an (.ag 21) (.new 7 (.cons (.var 9) (.cons (.var 20) .nil)))) (.cons (.expr (.call 130 (.cons (.var 21) .nil))) (.cons (.ifs (.and (.ex (.ah .ne (.var 20) (.ai 57))) (.no (.and (.ex (.ah .eq (.var 20) (.ai 58))) (.ex (.call 150 (.cons (.var 16) .nil)))))) (.cons (.ifs (.no (.ex (.call 118 (.cons (.var 21) (.cons (.var 18) (.cons (.var 15) (.cons (.var 4) .nil))))))) (.cons (.ret (.lit (.bool aj))) .nil) .nil) (.cons (.an (.ag 22) (.ad (.ab (.cons (.dB .nil) (.cons (.dB (.cons (.ai 0) .nil)) (.cons (.ite (.ex (.ah .gt (.call 147 (.cons (.call 148 (.cons (.var 16) .nil)) (.cons (.call 149 (.cons (.var 16) .nil)) .nil))) (.lit (.int 0)))) (.dB (.cons (.ai 3) .nil)) (.dB .nil)) .nil)))) (.var 13))) (.cons (.ifs (.and (.ex (.ah .eq (.var 20) (.ai 55))) (.ex (.ah .ne (.aR 44 (.ao (.var 21) 28) .nil) (.var 22)))) (.cons (.ret (.lit (.bool aj))) .nil) .nil) .nil))) .nil) (.cons (.ifs (.and (.ex (.ah .ne (.var 20) (.ai 57))) (.ex (.ah .ne (.call 118 (.cons (.var 21) (.cons (.var 18) (.cons (.var 11) (.cons (.var 4) .nil))))) (.ah .ge (.call 144 (.cons (.ad (.var 16) (.lit (.int 3))) (.cons (.ab (.cons (.lit (.int 256)) (.cons (.lit (.none)) .nil))) (.cons (.var 20) .nil)))) (.lit (.int 0)))))) (.cons (.ret (.lit (.bool aj))) .nil) .nil) (.cons (.an (.ag 21) (.new 7 (.cons (.var 9) (.cons (.var 20) .nil)))) (.cons (.expr (.call 130 (.cons (.var 21) .nil))) (.cons (.an (.ag 23) (.call 151 (.cons (.var 16) (.cons (.var 17) (.cons (.var 4) (.cons (.var 20) .nil)))))) (.cons (.ifs (.ex (.ah .ne (.call 118 (.cons (.var 21) (.cons (.var 18) (.cons (.var 19) (.cons (.var 4) .nil))))) (.ah .ge (.var 23) (.lit (.int 0))))) (.cons (.ret (.lit (.bool aj))) .nil) .nil) (.cons (.ifs (.and (.ex (.ah .eq (.var 20) (.ai 55))) (.ex (.ah .ge (.var 23) (.lit (.int 0))))) (.cons (.an (.ag 22) (.comp (.ag 25) (.range (.lit (.int 3))) (.ex (.aK .band (.aK .shr (.var 23) (.var 25)) (.lit (.int 1)))) (.ad (.ab (.cons (.ai 0) (.cons (.ai 1) (.cons (.ai 3) .nil)))) (.var 25)) [I,I,I,I,I,I,I,I,I,I,I,I,I,I,I,I,I,I,I,I,I,I,I,D (S0 "want"),I,D (S0 "i")])) (.cons (.ifs (.ex (.ah .ne (.aR 44 (.ao (.var 21) 28) .nil) (.var 22))) (.cons (.ret (.lit (.bool aj))) .nil) .nil) .nil)) .nil) .nil)))))))))) .nil)) (.cons (.ret (.lit (.bool Y))) .nil))))))))))))))))))
noncomputable def pi:List (Option Fn):=[I,I,I,I,D ⟨1,[],1,Cy⟩,D ⟨3,[],3,Cz⟩,D ⟨1,[],4,CA⟩,I,D ⟨1,[],2,CB⟩,I,D ⟨2,[],3,CC⟩,D ⟨3,[.int 0],3,CD⟩,D ⟨3,[.int 0],3,CE⟩,D ⟨3,[.int 0],3,CF⟩,D ⟨3,[.int 0],3,xV⟩,D ⟨2,[],4,CG⟩,D ⟨2,[],7,CH⟩,D ⟨2,[],8,CJ⟩,D ⟨3,[.int 0],6,uR⟩,D ⟨6,[.ab [],.int 0],6,xW⟩,D ⟨2,[],3,CK⟩,D ⟨1,[],2,CL⟩,D ⟨2,[],3,CM⟩,D ⟨1,[],1,CN⟩,D ⟨3,[],3,CO⟩,D ⟨1,[],2,CP⟩,D ⟨2,[],8,CQ⟩,D ⟨2,[],2,CR⟩,D ⟨2,[],2,CS⟩,D ⟨2,[],3,CT⟩,D ⟨2,[],2,CU⟩,D ⟨2,[],2,CV⟩,D ⟨2,[],2,CX⟩,I,I,I,I,I,I,I,I,I,I,I,I,I,I,I,D ⟨1,[],3,CY⟩,D ⟨1,[],3,CZ⟩,D ⟨2,[],2,C0⟩,D ⟨1,[],2,C1⟩,D ⟨2,[],4,C2⟩,I,I,D ⟨2,[],3,C3⟩,D ⟨1,[],2,C4⟩,D ⟨3,[],3,C5⟩,D ⟨3,[],4,C6⟩,D ⟨3,[],11,C7⟩,D ⟨1,[],3,C8⟩,D ⟨2,[],3,C9⟩,D ⟨2,[],7,Da⟩,D ⟨2,[],7,Db⟩,D ⟨2,[],6,Dc⟩,I,I,I,I,I,D ⟨3,[],3,Dd⟩,D ⟨3,[],3,De⟩,D ⟨2,[],2,Df⟩,I,D ⟨1,[],1,Dg⟩,D ⟨2,[],2,Dh⟩,I,D ⟨4,[],5,Di⟩,I,I,I,D ⟨2,[],2,Dj⟩,D ⟨2,[],2,Dk⟩,D ⟨3,[],5,xX⟩,D ⟨3,[],6,Dl⟩,D ⟨2,[],3,Dm⟩,D ⟨3,[],7,Dn⟩,D ⟨3,[],3,Do⟩,D ⟨2,[],3,Dp⟩,D ⟨1,[],1,Dq⟩,D ⟨3,[],5,Ds⟩,D ⟨4,[],4,Dt⟩,D ⟨3,[],6,Du⟩,D ⟨2,[],2,Dv⟩,D ⟨3,[],4,Dw⟩,D ⟨3,[],6,Dx⟩,D ⟨2,[],3,Dy⟩,D ⟨3,[],6,Dz⟩,D ⟨3,[],6,DA⟩,D ⟨3,[],4,DB⟩,D ⟨3,[],5,DC⟩,D ⟨2,[],4,DD⟩,D ⟨2,[],7,DE⟩,D ⟨2,[],4,DF⟩,D ⟨3,[],6,uS⟩,D ⟨5,[],7,DG⟩,D ⟨2,[],7,DH⟩,D ⟨2,[],6,DI⟩,I,D ⟨3,[],8,DJ⟩,D ⟨4,[],5,DK⟩,D ⟨6,[],6,DL⟩,D ⟨4,[],9,DM⟩,D ⟨3,[],3,DN⟩,D ⟨3,[],5,DO⟩,D ⟨2,[],7,DP⟩,D ⟨3,[],5,DQ⟩,D ⟨4,[],4,DS⟩,D ⟨4,[],7,DT⟩,D ⟨3,[],4,DU⟩,D ⟨3,[],3,DV⟩,D ⟨3,[],7,DW⟩,I,I,I,I,I,I,D ⟨4,[],4,DX⟩,I,D ⟨1,[],1,DY⟩,D ⟨3,[],5,DZ⟩,D ⟨1,[],1,xY⟩,D ⟨2,[],3,D0⟩,D ⟨3,[],4,D1⟩,D ⟨2,[],4,xZ⟩,D ⟨3,[],12,qF⟩,D ⟨4,[],5,D2⟩,D ⟨4,[],18,gx⟩,D ⟨3,[],3,D3⟩,D ⟨4,[],6,D4⟩,D ⟨4,[],15,pg⟩,D ⟨1,[],5,x8⟩,D ⟨1,[],1,D5⟩,D ⟨3,[],5,uU⟩,D ⟨4,[],5,D6⟩,D ⟨3,[],5,D7⟩,D ⟨2,[],2,D8⟩,D ⟨1,[],3,D9⟩,D ⟨1,[],3,Ea⟩,D ⟨1,[],2,x9⟩,D ⟨4,[],13,ph⟩,D ⟨1,[],26,j0⟩]
noncomputable def lJ(i:Nat):Option Fn:=(pi[i]?).join
noncomputable def mI:List Str:=[(S0 "append"),(S0 "extend"),(S0 "pop"),(S0 "get"),(S0 "text"),(S0 "number"),(S0 "rows"),(S0 "put"),(S0 "putting"),(S0 "shaping"),(S0 "renamed"),(S0 "origins"),(S0 "names"),(S0 "defaults"),(S0 "bounds"),(S0 "decls"),(S0 "index"),(S0 "most_deep"),(S0 "most_rounds"),(S0 "deep"),(S0 "tab"),(S0 "shape"),(S0 "force"),(S0 "put_deferred"),(S0 "at"),(S0 "missing"),(S0 "twin"),(S0 "telling"),(S0 "notes"),(S0 "road"),(S0 "trail"),(S0 "known"),(S0 "assumed"),(S0 "rules"),(S0 "mode"),(S0 "host"),(S0 "ask"),(S0 "holds"),(S0 "sig"),(S0 "mark"),(S0 "note"),(S0 "back"),(S0 "loose"),(S0 "blank"),(S0 "codes")]
noncomputable def ya:List Str:=[(S0 "U_ANY"),(S0 "U_METHOD"),(S0 "U_ENUM"),(S0 "U_OPTION"),(S0 "U_VAR"),(S0 "Y_KEY"),(S0 "Y_BOOL"),(S0 "Y_STR"),(S0 "Y_NUM"),(S0 "Y_ENUM"),(S0 "Y_UNION"),(S0 "Y_INTER"),(S0 "Y_OBJ"),(S0 "Y_REF"),(S0 "Y_PARAM"),(S0 "Y_ARRAY"),(S0 "Y_TUPLE"),(S0 "Y_SIG"),(S0 "Y_KEYOF"),(S0 "Y_INDEX"),(S0 "Y_COND"),(S0 "Y_MAPPED"),(S0 "Y_TPL"),(S0 "Y_ALIAS"),(S0 "ANY"),(S0 "UNKNOWN"),(S0 "NEVER"),(S0 "VOID"),(S0 "UNDEF"),(S0 "NULLT"),(S0 "STRING"),(S0 "NUMBER"),(S0 "FALSE_T"),(S0 "TRUE_T"),(S0 "OBJECTT"),(S0 "EMPTY"),(S0 "ERR"),(S0 "FRESH_F"),(S0 "FRESH_T"),(S0 "E_NEED"),(S0 "E_OPT"),(S0 "E_REST"),(S0 "E_SPREAD"),(S0 "A_NEED"),(S0 "A_OPT"),(S0 "A_REST"),(S0 "S_METHOD"),(S0 "S_ABSTRACT"),(S0 "S_PRIVATE"),(S0 "MAX_UNION"),(S0 "FIRST_ROWS"),(S0 "LITERAL_ROWS"),(S0 "MARKED_ROWS"),(S0 "MOST_ROUNDS"),(S0 "MOST_SHAPES"),(S0 "R_ASSIGN"),(S0 "R_COMPARE"),(S0 "R_IDENT"),(S0 "R_SUBTYPE"),(S0 "RULE_MEET"),(S0 "RULE_DEFERRED"),(S0 "RULE_SIG"),(S0 "RULE_LIST"),(S0 "RULE_OBJECT"),(S0 "RULE_CHOICE"),(S0 "RULE_CALLS"),(S0 "RULE_GENERIC"),(S0 "RULE_PLACES"),(S0 "VALUE_ROWS"),(S0 "LIST_ROWS"),(S0 "SHAPED_ROWS"),(S0 "DEFERRED_ROWS"),(S0 "OPEN_ROWS"),(S0 "MAX_OPEN"),(S0 "_law_masks")]
noncomputable def yb:List aa:=[.int 1,.int 2,.int 10,.int 11,.int 15,.int 1,.int 2,.int 3,.int 4,.int 5,.int 6,.int 7,.int 8,.int 9,.int 10,.int 11,.int 12,.int 13,.int 14,.int 15,.int 16,.int 17,.int 18,.int 19,.int 0,.int 1,.int 2,.int 3,.int 4,.int 5,.int 6,.int 7,.int 8,.int 9,.int 10,.int 11,.int 13,.int 14,.int 15,.int 0,.int 1,.int 2,.int 3,.int 0,.int 1,.int 2,.int 1,.int 2,.int 4,.int 400,.ab [.ab [.int 1,.str (S0 "any")],.ab [.int 1,.str (S0 "unknown")],.ab [.int 1,.str (S0 "never")],.ab [.int 1,.str (S0 "void")],.ab [.int 1,.str (S0 "undefined")],.ab [.int 1,.str (S0 "null")],.ab [.int 1,.str (S0 "string")],.ab [.int 1,.str (S0 "number")],.ab [.int 2,.int 0,.int 0],.ab [.int 2,.int 1,.int 0],.ab [.int 1,.str (S0 "object")],.ab [.int 8,.ab [],.ab [],.ab [],.ab [],.ab [],.int 0],.ab [.int 6,.ab [.int 8,.int 9]],.ab [.int 1,.str (S0 "error")],.ab [.int 2,.int 0,.int 1],.ab [.int 2,.int 1,.int 1]],.ab [.int 2,.int 3,.int 4,.int 5],.ab [.int 2,.int 3,.int 4,.int 5,.int 8],.int 200,.int 40,.int 1,.int 2,.int 3,.int 4,.int 1,.int 2,.int 3,.int 4,.int 5,.int 6,.int 8,.int 9,.int 12,.ab [.int 1,.int 2,.int 3,.int 4,.int 5],.ab [.int 11,.int 12],.ab [.int 8,.int 9],.ab [.int 10,.int 14,.int 15,.int 16,.int 17,.int 18,.int 19],.ab [.int 6,.int 7,.int 10,.int 14,.int 15,.int 16,.int 17,.int 18,.int 19],.int 60,.ab [.int 4,.int 32,.int 1,.int 3,.int 8,.int 36,.int 192,.int 256,.int 512,.int 260,.int 2048,.int 4096,.int 0,.int 1024,.int 1536,.int 24,.int 64,.int 33]]
noncomputable def yc:List (Option bh):=[D (S0 "_wall"),I,I,I,I,I,I,I,I,I,I,D (S0 "str_type"),D (S0 "num_type"),D (S0 "bool_type"),D (S0 "array_type"),D (S0 "last_mark"),D (S0 "needed_to_last"),D (S0 "one_rest"),D (S0 "tuple_type"),D (S0 "sig_type"),D (S0 "parts_of"),D (S0 "whole_of_row"),D (S0 "regular_twin"),D (S0 "join_bools"),D (S0 "stays_beside"),D (S0 "top_of"),D (S0 "union"),D (S0 "add_undef"),D (S0 "is_literal"),D (S0 "is_fresh"),D (S0 "regular_one"),I,I,I,I,I,I,I,I,I,I,I,I,I,I,I,I,I,D (S0 "tuple_need"),D (S0 "tuple_most"),D (S0 "elem_read"),D (S0 "told_places"),D (S0 "late_place"),D (S0 "calls_of"),D (S0 "ctors_of"),D (S0 "rest_parts"),D (S0 "fixed_count"),D (S0 "tuple_at"),D (S0 "rest_at"),D (S0 "param_at"),D (S0 "last_needed"),D (S0 "need_count"),D (S0 "written_need"),D (S0 "most_count"),D (S0 "told_count"),I,I,I,I,I,I,I,I,I,I,I,I,D (S0 "by_rule"),D (S0 "sig_by_rule"),D (S0 "silent_with"),D (S0 "twin_of"),D (S0 "cut_back"),D (S0 "settled"),D (S0 "ask_kinds"),D (S0 "kept"),D (S0 "close_trail"),D (S0 "simple_related"),D (S0 "tops_related"),D (S0 "unknown_told"),D (S0 "is_numeric_enum"),D (S0 "values_related"),D (S0 "number_to_enum"),D (S0 "structured"),D (S0 "rule_for"),D (S0 "from_union"),D (S0 "some_part"),D (S0 "lay_again"),D (S0 "to_union"),D (S0 "same_kind"),D (S0 "each_in"),D (S0 "counts_fit"),D (S0 "open_rest"),D (S0 "ends_open"),D (S0 "relsig_rest_elems"),D (S0 "tail_kind"),D (S0 "tails_related"),D (S0 "relsig_places_of"),D (S0 "lone_call"),D (S0 "callback_related"),D (S0 "loose_pair"),D (S0 "param_pair"),D (S0 "looser_place"),D (S0 "params_related"),D (S0 "pred_related"),D (S0 "result_related"),D (S0 "top_elem"),D (S0 "top_serves"),D (S0 "plain_related"),D (S0 "sig_related"),D (S0 "same_params"),D (S0 "same_pred"),D (S0 "sig_same"),D (S0 "made_alike"),D (S0 "blanked"),D (S0 "some_sig"),D (S0 "same_sigs"),D (S0 "sigs_related"),D (S0 "calls_related"),I,I,D (S0 "install_rel_sigs"),D (S0 "_law_draw"),D (S0 "_law_norm"),D (S0 "_law_join"),D (S0 "_law_kind"),D (S0 "_law_pred"),D (S0 "_law_sig"),D (S0 "_law_turn"),D (S0 "_law_vary"),D (S0 "_law_atom"),D (S0 "_law_type"),D (S0 "_law_build"),D (S0 "_law_bare"),D (S0 "_law_plain"),D (S0 "_law_goes_kind"),D (S0 "_law_pair"),D (S0 "_law_result"),D (S0 "_law_least"),D (S0 "_law_seats"),D (S0 "_law_wanted"),D (S0 "_law_top"),D (S0 "_law_goes"),D (S0 "law")]
noncomputable def yd:List Str:=[(S0 "KeepError"),(S0 "TooDeep"),(S0 "HostFault"),(S0 "Notes"),(S0 "TypeTable"),(S0 "Thin"),(S0 "RelRule"),(S0 "Rel"),(S0 "SigRule"),(S0 "CallsRule")]
noncomputable def qG:List (List (Nat×Nat)):=[[],[],[],[(7,5),(44,6)],[(7,10)],[(21,37),(22,32),(23,33)],[(37,65),(38,67),(42,66),(43,68)],[(36,71),(39,74),(40,72),(41,75)],[(37,128),(38,67),(42,66),(43,68)],[(37,129),(38,67),(42,66),(43,68)]]
noncomputable def ye:List (Option (Option Nat)):=[I,I,I,D (D 4),D (D 8),D (D 31),D I,D (D 70),D I,D I]
noncomputable def uV:List (List Nat):=[[],[],[],[6],[6,8,9,10,11,12,13,14,15,16],[17,18,19,20],[],[19,24,25,26,27,28,29,30,31,32,33,34,35],[],[]]
noncomputable def sn:List (Nat×Nat)->Nat->Option Nat|[],_=>I|(a,b)::r,k=>if a=k then D b else sn r k
noncomputable def WD:Wd where mH i:=yb[i]?;gu c f:=match uV[c]? with|some l=>l.contains f|none=>aj;nZ c m:=match qG[c]? with|some l=>sn l m|none=>I;uO c:=(ye[c]?).getD I
@[irreducible]noncomputable def CW(n:Nat):jt:=iK WD lJ n
section
variable{n:Nat}{lc:Lc}{σ:AH}{k:Po}{aw:Kt}
theorem CW.go{f:Nat}{vs:List aa}(F:Fn)(lc:Lc)(h1:lJ f=D F)(h2:bindL F vs=D lc)(h:aP WD (CW n) F.body lc σ (kR k)):CW (n+1) f vs σ k:=by unfold CW at h⊢;exact MT F lc h1 h2 h
theorem o{bA:Type}{o:Option bA}{p:bA->Prop}{v:bA}(h:o=D v)(hk:p v):gO o p:=by cases h;exact hk
theorem p{bA:Type}{o:Option (bA×AH)}{p:bA->AH->Prop}{v:bA}{w:AH}(h:o=D (v,w))(hk:p v w):gP o p:=by cases h;exact hk
theorem bI{c:Bool}{A B:Prop}(h1:c=Y->A)(h2:c=aj->B):br c A B:=by cases c;exact h2 rfl;exact h1 rfl
theorem bD{p:Prop}{i:Decidable p}{A B:Prop}(h1:p->A)(h2:¬p->B):br (decide p) A B:=bI (fun h=>h1 (cK h)) fun h=>h2 (of_decide_eq_false h)
theorem bE{p:Prop}{i:Decidable p}{A B:Prop}(h1:p->A)(h2:¬p->B):br (decide p==Y) A B:=bI (fun h=>h1 (cK (eq_of_beq h))) fun h=>h2 fun q=>by rw[aN q]at h;cases h
theorem MV{p:Prop}{i:Decidable p}{A:Nat->Prop}{x y:Nat}(h:A (if p then x else y)):br (decide p) (A x) (A y):=bD (fun q=>by rw[af q]at h;exact h) fun q=>by rw[am q]at h;exact h
theorem bN{c:Bool}{A B:Prop}(h:br c B A):br (!c) A B:=by cases c<;>exact h
theorem bt{c:Bool}{A B:Prop}(h:c=Y)(hk:A):br c A B:=by cases h;exact hk
theorem bf{c:Bool}{A B:Prop}(h:c=aj)(hk:B):br c A B:=by cases h;exact hk
end
def I1(u:Nat)(s:Ss)(t:Lc):Prop:=∀{n:Nat}{σ:AH}{k:Po}{a:aa},aP WD (CW n) s (D a::t) σ (kR k)->CW (n+1) u [a] σ k
theorem g1{u p l:Nat}{m:List aa}{s:Ss}{t:Lc}(h:lJ u=D ⟨p,m,l,s⟩)(w:∀a,bindL ⟨p,m,l,s⟩ [a]=D (D a::t)):I1 u s t:=fun z=>CW.go _ _ h (w _) z
def I2(u:Nat)(s:Ss)(t:Lc):Prop:=∀{n:Nat}{σ:AH}{k:Po}{a b:aa},aP WD (CW n) s (D a::D b::t) σ (kR k)->CW (n+1) u [a,b] σ k
theorem g2{u p l:Nat}{m:List aa}{s:Ss}{t:Lc}(h:lJ u=D ⟨p,m,l,s⟩)(w:∀a b,bindL ⟨p,m,l,s⟩ [a,b]=D (D a::D b::t)):I2 u s t:=fun z=>CW.go _ _ h (w _ _) z
def I3(u:Nat)(s:Ss)(t:Lc):Prop:=∀{n:Nat}{σ:AH}{k:Po}{a b c:aa},aP WD (CW n) s (D a::D b::D c::t) σ (kR k)->CW (n+1) u [a,b,c] σ k
theorem g3{u p l:Nat}{m:List aa}{s:Ss}{t:Lc}(h:lJ u=D ⟨p,m,l,s⟩)(w:∀a b c,bindL ⟨p,m,l,s⟩ [a,b,c]=D (D a::D b::D c::t)):I3 u s t:=fun z=>CW.go _ _ h (w _ _ _) z
def I4(u:Nat)(s:Ss)(t:Lc):Prop:=∀{n:Nat}{σ:AH}{k:Po}{a b c d:aa},aP WD (CW n) s (D a::D b::D c::D d::t) σ (kR k)->CW (n+1) u [a,b,c,d] σ k
theorem g4{u p l:Nat}{m:List aa}{s:Ss}{t:Lc}(h:lJ u=D ⟨p,m,l,s⟩)(w:∀a b c d,bindL ⟨p,m,l,s⟩ [a,b,c,d]=D (D a::D b::D c::D d::t)):I4 u s t:=fun z=>CW.go _ _ h (w _ _ _ _) z
def I5(u:Nat)(s:Ss)(t:Lc):Prop:=∀{n:Nat}{σ:AH}{k:Po}{a b c d e:aa},aP WD (CW n) s (D a::D b::D c::D d::D e::t) σ (kR k)->CW (n+1) u [a,b,c,d,e] σ k
theorem g5{u p l:Nat}{m:List aa}{s:Ss}{t:Lc}(h:lJ u=D ⟨p,m,l,s⟩)(w:∀a b c d e,bindL ⟨p,m,l,s⟩ [a,b,c,d,e]=D (D a::D b::D c::D d::D e::t)):I5 u s t:=fun z=>CW.go _ _ h (w _ _ _ _ _) z
def I6(u:Nat)(s:Ss)(t:Lc):Prop:=∀{n:Nat}{σ:AH}{k:Po}{a b c d e f:aa},aP WD (CW n) s (D a::D b::D c::D d::D e::D f::t) σ (kR k)->CW (n+1) u [a,b,c,d,e,f] σ k
theorem g6{u p l:Nat}{m:List aa}{s:Ss}{t:Lc}(h:lJ u=D ⟨p,m,l,s⟩)(w:∀a b c d e f,bindL ⟨p,m,l,s⟩ [a,b,c,d,e,f]=D (D a::D b::D c::D d::D e::D f::t)):I6 u s t:=fun z=>CW.go _ _ h (w _ _ _ _ _ _) z
theorem MW:I1 4 Cy []:=@g1 _ _ _ _ _ _ rfl fun _=>rfl
theorem MX:I3 5 Cz []:=@g3 _ _ _ _ _ _ rfl fun _ _ _=>rfl
theorem MY:I1 6 CA [I,I,I]:=@g1 _ _ _ _ _ _ rfl fun _=>rfl
theorem MZ:I1 8 CB [I]:=@g1 _ _ _ _ _ _ rfl fun _=>rfl
theorem Eb:I2 10 CC [I]:=@g2 _ _ _ _ _ _ rfl fun _ _=>rfl
theorem Ec:I3 11 CD []:=@g3 _ _ _ _ _ _ rfl fun _ _ _=>rfl
theorem Ed:I3 12 CE []:=@g3 _ _ _ _ _ _ rfl fun _ _ _=>rfl
theorem Ee:I3 13 CF []:=@g3 _ _ _ _ _ _ rfl fun _ _ _=>rfl
theorem M0:I3 14 xV []:=@g3 _ _ _ _ _ _ rfl fun _ _ _=>rfl
theorem M1:I2 14 xV [D (.int 0)]:=@g2 _ _ _ _ _ _ rfl fun _ _=>rfl
theorem M2:I2 15 CG [I,I]:=@g2 _ _ _ _ _ _ rfl fun _ _=>rfl
theorem M3:I2 16 CH [I,I,I,I,I]:=@g2 _ _ _ _ _ _ rfl fun _ _=>rfl
theorem M4:I2 17 CJ [I,I,I,I,I,I]:=@g2 _ _ _ _ _ _ rfl fun _ _=>rfl
theorem M5:I3 18 uR [I,I,I]:=@g3 _ _ _ _ _ _ rfl fun _ _ _=>rfl
theorem M6:I2 18 uR [D (.int 0),I,I,I]:=@g2 _ _ _ _ _ _ rfl fun _ _=>rfl
theorem yf:I6 19 xW []:=@g6 _ _ _ _ _ _ rfl fun _ _ _ _ _ _=>rfl
theorem M7:I4 19 xW [D (.ab []),D (.int 0)]:=@g4 _ _ _ _ _ _ rfl fun _ _ _ _=>rfl
theorem Ef:I2 20 CK [I]:=@g2 _ _ _ _ _ _ rfl fun _ _=>rfl
theorem Eg:I1 21 CL [I]:=@g1 _ _ _ _ _ _ rfl fun _=>rfl
theorem Eh:I2 22 CM [I]:=@g2 _ _ _ _ _ _ rfl fun _ _=>rfl
theorem M8:I1 23 CN []:=@g1 _ _ _ _ _ _ rfl fun _=>rfl
theorem M9:I3 24 CO []:=@g3 _ _ _ _ _ _ rfl fun _ _ _=>rfl
theorem Na:I1 25 CP [I]:=@g1 _ _ _ _ _ _ rfl fun _=>rfl
theorem Nb:I2 26 CQ [I,I,I,I,I,I]:=@g2 _ _ _ _ _ _ rfl fun _ _=>rfl
theorem Nc:I2 27 CR []:=@g2 _ _ _ _ _ _ rfl fun _ _=>rfl
theorem qH:I2 28 CS []:=@g2 _ _ _ _ _ _ rfl fun _ _=>rfl
theorem Nd:I2 29 CT [I]:=@g2 _ _ _ _ _ _ rfl fun _ _=>rfl
theorem Nf:I2 30 CU []:=@g2 _ _ _ _ _ _ rfl fun _ _=>rfl
theorem Ng:I2 31 CV []:=@g2 _ _ _ _ _ _ rfl fun _ _=>rfl
theorem Nh:I2 32 CX []:=@g2 _ _ _ _ _ _ rfl fun _ _=>rfl
theorem Ni:I1 48 CY [I,I]:=@g1 _ _ _ _ _ _ rfl fun _=>rfl
theorem Nj:I1 49 CZ [I,I]:=@g1 _ _ _ _ _ _ rfl fun _=>rfl
theorem Ei:I2 50 C0 []:=@g2 _ _ _ _ _ _ rfl fun _ _=>rfl
theorem Nk:I1 51 C1 [I]:=@g1 _ _ _ _ _ _ rfl fun _=>rfl
theorem Nl:I2 52 C2 [I,I]:=@g2 _ _ _ _ _ _ rfl fun _ _=>rfl
theorem yg:I2 55 C3 [I]:=@g2 _ _ _ _ _ _ rfl fun _ _=>rfl
theorem Ej:I1 56 C4 [I]:=@g1 _ _ _ _ _ _ rfl fun _=>rfl
theorem Nn:I3 57 C5 []:=@g3 _ _ _ _ _ _ rfl fun _ _ _=>rfl
theorem No:I3 58 C6 [I]:=@g3 _ _ _ _ _ _ rfl fun _ _ _=>rfl
theorem Np:I3 59 C7 [I,I,I,I,I,I,I,I]:=@g3 _ _ _ _ _ _ rfl fun _ _ _=>rfl
theorem Nq:I1 60 C8 [I,I]:=@g1 _ _ _ _ _ _ rfl fun _=>rfl
theorem Nr:I2 61 C9 [I]:=@g2 _ _ _ _ _ _ rfl fun _ _=>rfl
theorem Nt:I2 62 Da [I,I,I,I,I]:=@g2 _ _ _ _ _ _ rfl fun _ _=>rfl
theorem Ek:I2 63 Db [I,I,I,I,I]:=@g2 _ _ _ _ _ _ rfl fun _ _=>rfl
theorem El:I2 64 Dc [I,I,I,I]:=@g2 _ _ _ _ _ _ rfl fun _ _=>rfl
theorem Nu:I3 70 Dd []:=@g3 _ _ _ _ _ _ rfl fun _ _ _=>rfl
theorem Em:I3 71 De []:=@g3 _ _ _ _ _ _ rfl fun _ _ _=>rfl
theorem Nv:I2 72 Df []:=@g2 _ _ _ _ _ _ rfl fun _ _=>rfl
theorem Nw:I1 74 Dg []:=@g1 _ _ _ _ _ _ rfl fun _=>rfl
theorem Nx:I2 75 Dh []:=@g2 _ _ _ _ _ _ rfl fun _ _=>rfl
theorem En:I4 77 Di [I]:=@g4 _ _ _ _ _ _ rfl fun _ _ _ _=>rfl
theorem Ny:I2 81 Dj []:=@g2 _ _ _ _ _ _ rfl fun _ _=>rfl
theorem yh:I2 82 Dk []:=@g2 _ _ _ _ _ _ rfl fun _ _=>rfl
theorem Eo:I3 83 xX [I,I]:=@g3 _ _ _ _ _ _ rfl fun _ _ _=>rfl
theorem Nz:I3 84 Dl [I,I,I]:=@g3 _ _ _ _ _ _ rfl fun _ _ _=>rfl
theorem NA:I2 85 Dm [I]:=@g2 _ _ _ _ _ _ rfl fun _ _=>rfl
theorem Ep:I3 86 Dn [I,I,I,I]:=@g3 _ _ _ _ _ _ rfl fun _ _ _=>rfl
theorem Er:I3 87 Do []:=@g3 _ _ _ _ _ _ rfl fun _ _ _=>rfl
theorem NB:I2 88 Dp [I]:=@g2 _ _ _ _ _ _ rfl fun _ _=>rfl
theorem Et:I1 89 Dq []:=@g1 _ _ _ _ _ _ rfl fun _=>rfl
theorem NC:I3 90 Ds [I,I]:=@g3 _ _ _ _ _ _ rfl fun _ _ _=>rfl
theorem Eu:I4 91 Dt []:=@g4 _ _ _ _ _ _ rfl fun _ _ _ _=>rfl
theorem Ev:I3 92 Du [I,I,I]:=@g3 _ _ _ _ _ _ rfl fun _ _ _=>rfl
theorem ND:I2 93 Dv []:=@g2 _ _ _ _ _ _ rfl fun _ _=>rfl
theorem NE:I3 94 Dw [I]:=@g3 _ _ _ _ _ _ rfl fun _ _ _=>rfl
theorem NF:I3 95 Dx [I,I,I]:=@g3 _ _ _ _ _ _ rfl fun _ _ _=>rfl
theorem NG:I2 96 Dy [I]:=@g2 _ _ _ _ _ _ rfl fun _ _=>rfl
theorem NH:I3 97 Dz [I,I,I]:=@g3 _ _ _ _ _ _ rfl fun _ _ _=>rfl
theorem NI:I3 98 DA [I,I,I]:=@g3 _ _ _ _ _ _ rfl fun _ _ _=>rfl
theorem NJ:I3 99 DB [I]:=@g3 _ _ _ _ _ _ rfl fun _ _ _=>rfl
theorem Ew:I3 100 DC [I,I]:=@g3 _ _ _ _ _ _ rfl fun _ _ _=>rfl
theorem Ey:I2 101 DD [I,I]:=@g2 _ _ _ _ _ _ rfl fun _ _=>rfl
theorem Ez:I2 102 DE [I,I,I,I,I]:=@g2 _ _ _ _ _ _ rfl fun _ _=>rfl
theorem NK:I2 103 DF [I,I]:=@g2 _ _ _ _ _ _ rfl fun _ _=>rfl
theorem EA:I3 104 uS [I,I,I]:=@g3 _ _ _ _ _ _ rfl fun _ _ _=>rfl
theorem NL:I5 105 DG [I,I]:=@g5 _ _ _ _ _ _ rfl fun _ _ _ _ _=>rfl
theorem EB:I2 106 DH [I,I,I,I,I]:=@g2 _ _ _ _ _ _ rfl fun _ _=>rfl
theorem NN:I2 107 DI [I,I,I,I]:=@g2 _ _ _ _ _ _ rfl fun _ _=>rfl
theorem NO:I3 109 DJ [I,I,I,I,I]:=@g3 _ _ _ _ _ _ rfl fun _ _ _=>rfl
theorem EC:I4 110 DK [I]:=@g4 _ _ _ _ _ _ rfl fun _ _ _ _=>rfl
theorem NP:I6 111 DL []:=@g6 _ _ _ _ _ _ rfl fun _ _ _ _ _ _=>rfl
theorem ED:I4 112 DM [I,I,I,I,I]:=@g4 _ _ _ _ _ _ rfl fun _ _ _ _=>rfl
theorem NQ:I3 113 DN []:=@g3 _ _ _ _ _ _ rfl fun _ _ _=>rfl
theorem EE:I3 114 DO [I,I]:=@g3 _ _ _ _ _ _ rfl fun _ _ _=>rfl
theorem EF:I2 115 DP [I,I,I,I,I]:=@g2 _ _ _ _ _ _ rfl fun _ _=>rfl
theorem yi:I3 116 DQ [I,I]:=@g3 _ _ _ _ _ _ rfl fun _ _ _=>rfl
theorem EG:I4 117 DS []:=@g4 _ _ _ _ _ _ rfl fun _ _ _ _=>rfl
theorem uW:I4 118 DT [I,I,I]:=@g4 _ _ _ _ _ _ rfl fun _ _ _ _=>rfl
theorem NR:I3 119 DU [I]:=@g3 _ _ _ _ _ _ rfl fun _ _ _=>rfl
theorem NS:I3 120 DV []:=@g3 _ _ _ _ _ _ rfl fun _ _ _=>rfl
theorem NT:I3 121 DW [I,I,I,I]:=@g3 _ _ _ _ _ _ rfl fun _ _ _=>rfl
theorem NU:I4 128 DX []:=@g4 _ _ _ _ _ _ rfl fun _ _ _ _=>rfl
theorem NV:I1 130 DY []:=@g1 _ _ _ _ _ _ rfl fun _=>rfl
theorem NW:I3 131 DZ [I,I]:=@g3 _ _ _ _ _ _ rfl fun _ _ _=>rfl
theorem NX:I1 132 xY []:=@g1 _ _ _ _ _ _ rfl fun _=>rfl
theorem NY:I2 133 D0 [I]:=@g2 _ _ _ _ _ _ rfl fun _ _=>rfl
theorem NZ:I3 134 D1 [I]:=@g3 _ _ _ _ _ _ rfl fun _ _ _=>rfl
theorem N0:I2 135 xZ [I,I]:=@g2 _ _ _ _ _ _ rfl fun _ _=>rfl
theorem N3:I3 136 qF [I,I,I,I,I,I,I,I,I]:=@g3 _ _ _ _ _ _ rfl fun _ _ _=>rfl
theorem N4:I4 137 D2 [I]:=@g4 _ _ _ _ _ _ rfl fun _ _ _ _=>rfl
theorem N5:I4 138 gx [I,I,I,I,I,I,I,I,I,I,I,I,I,I]:=@g4 _ _ _ _ _ _ rfl fun _ _ _ _=>rfl
theorem N6:I3 139 D3 []:=@g3 _ _ _ _ _ _ rfl fun _ _ _=>rfl
theorem N7:I4 140 D4 [I,I]:=@g4 _ _ _ _ _ _ rfl fun _ _ _ _=>rfl
theorem N8:I4 141 pg [I,I,I,I,I,I,I,I,I,I,I]:=@g4 _ _ _ _ _ _ rfl fun _ _ _ _=>rfl
theorem N9:I1 142 x8 [I,I,I,I]:=@g1 _ _ _ _ _ _ rfl fun _=>rfl
theorem EH:I1 143 D5 []:=@g1 _ _ _ _ _ _ rfl fun _=>rfl
theorem Oa:I3 144 uU [I,I]:=@g3 _ _ _ _ _ _ rfl fun _ _ _=>rfl
theorem Ob:I4 145 D6 [I]:=@g4 _ _ _ _ _ _ rfl fun _ _ _ _=>rfl
theorem Oc:I3 146 D7 [I,I]:=@g3 _ _ _ _ _ _ rfl fun _ _ _=>rfl
theorem Od:I2 147 D8 []:=@g2 _ _ _ _ _ _ rfl fun _ _=>rfl
theorem Oe:I1 148 D9 [I,I]:=@g1 _ _ _ _ _ _ rfl fun _=>rfl
theorem Of:I1 149 Ea [I,I]:=@g1 _ _ _ _ _ _ rfl fun _=>rfl
theorem Og:I1 150 x9 [I]:=@g1 _ _ _ _ _ _ rfl fun _=>rfl
theorem EI:I4 151 ph [I,I,I,I,I,I,I,I,I]:=@g4 _ _ _ _ _ _ rfl fun _ _ _ _=>rfl
theorem Oh:I1 152 j0 [I,I,I,I,I,I,I,I,I,I,I,I,I,I,I,I,I,I,I,I,I,I,I,I,I]:=@g1 _ _ _ _ _ _ rfl fun _=>rfl
inductive cj where|v(i:Nat)|k(n:Nat)|a(x y:cj)|m(n:Nat)(x:cj)
noncomputable def cj.uX(c:List Nat):Nat->Nat:=c.rec (fun _=>0) fun x _ f i=>i.rec x fun i _=>f i
noncomputable def cj.aD(c:List Nat)(y:cj):Nat:=y.rec (uX c) (fun n=>n) (fun _ _ a b=>a+b) fun n _ a=>n*a
noncomputable def cj.c0(y:cj):Nat:=y.rec (fun _=>0) (fun n=>n) (fun _ _ a b=>a+b) fun n _ a=>n*a
noncomputable def cj.co(y:cj)(j:Nat):Nat:=y.rec (fun i=>cond (cu i j) 1 0) (fun _=>0) (fun _ _ a b=>a+b) fun n _ a=>n*a
noncomputable def cj.fK(x:cj)(c:List Nat):Nat->Nat:=c.rec (fun _=>0) fun z _ f j=>x.co j*z+f (j+1)
noncomputable def cj.EJ(x y:cj)(n:Nat):Nat->Bool:=n.rec (fun _=>Y) fun _ f j=>Nat.ble (x.co j) (y.co j)&&f (j+1)
theorem cj.EK{x:cj}{c:List Nat}:∀{j:Nat},(∀i,j<=i->x.co i=0)->x.fK c j=0:=by induction c with|nil=>intros;rfl|cons z r ih=>intro j h;have a:x.fK r (j+1)=0:=ih fun i hi=>h i (Kz hi);show x.co j*z+x.fK r (j+1)=0;rw[a,h j (aE j),rR]
theorem cj.Oi{c:List Nat}:∀{i j:Nat},(v (j+i)).fK c j=uX c i:=by induction c with|nil=>intros;rfl|cons z r ih=>intro i j;show cond (cu (j+i) j) 1 0*z+(v (j+i)).fK r (j+1)=_;cases i with|zero=>rw[show cu (j+0) j=Y from Nat.beq_refl j,EK (x:=v (j+0)) fun i hi=>(by show cond (cu j i) 1 0=0;rw[show cu j i=aj from jJ.mpr fun e=>ae (jK e) (lb hi)];rfl)];exact rS z|succ i=>rw[show cu (j+(i+1)) j=aj from jJ.mpr fun e=>ae (jK e) (jl (KA (fg i)))];have:=ih (i:=i) (j:=j+1);rw[eL,nz 1 i]at this;rw[this];exact(aI (·+uX r i) (rR z)).trans (gj _)
theorem cj.Oj{x y:cj}{c:List Nat}:∀{j:Nat},(a x y).fK c j=x.fK c j+y.fK c j:=by induction c with|nil=>intros;rfl|cons z r ih=>intro j;show(x.co j+y.co j)*z+(a x y).fK r (j+1)=(x.co j*z+x.fK r (j+1))+(y.co j*z+y.fK r (j+1));rw[ih,oT,YC]
theorem cj.Ok{n:Nat}{x:cj}{c:List Nat}:∀{j:Nat},(m n x).fK c j=n*x.fK c j:=by induction c with|nil=>intros;rfl|cons z r ih=>intro j;show(n*x.co j)*z+(m n x).fK r (j+1)=n*(x.co j*z+x.fK r (j+1));rw[ih,YD,YE]
theorem cj.EL{c:List Nat}{x:cj}:x.aD c=x.c0+x.fK c 0:=by induction x with|v i=>exact(by rw[<-Oi (j:=0),gj]:uX c i=_).trans (gj _).symm|k n=>exact(aI (n+·) (EK fun _ _=>rfl)).symm|a x y hx hy=>exact(by rw[hx,hy,YC]:x.aD c+y.aD c=(x.c0+y.c0)+(x.fK c 0+y.fK c 0)).trans (aI _ Oj.symm)|m n x hx=>exact(by rw[hx,YD]:n*x.aD c=n*x.c0+n*x.fK c 0).trans (aI _ Ok.symm)
theorem cj.Ol{x y:cj}{c:List Nat}:∀{j:Nat},EJ x y c.length j=Y->x.fK c j<=y.fK c j:=by induction c with|nil=>exact fun _=>aE _|cons z r ih=>exact fun{j}h=>jL (uk z (cm (fe.mp h).1)) (ih (fe.mp h).2)
noncomputable def cj.le(n:Nat)(x y:cj):Bool:=Nat.ble x.c0 y.c0&&EJ x y n 0
theorem cj.yj{c:List Nat}{x y:cj}(h:le c.length x y=Y):x.aD c<=y.aD c:=by have h:=fe.mp h;rw[EL,EL];exact jL (cm h.1) (Ol h.2)
noncomputable def pY(f:Nat):Nat->cj×Nat:=f.rec (fun s=>(.k 0,s)) fun _ p s=>cond (cu (s%32) 0) ((p (s/32)).rec fun x s=>(p s).rec fun y s=>(.a x y,s)) (cond (cu (s%32) 1) (.k (s/1024%32^(s/32%32)),s/1024/32^(s/32%32)) (cond (cu (s%32) 2) (.k av,s/32) (cond (cu (s%32) 3) ((p (s/1024)).rec fun x t=>(.m (s/32%32) x,t)) (cond (k9 (s%32) 20) (.k (s%32-4),s/32) (.v (s%32-20),s/32)))))
structure Qn where
d:Nat
m:Nat
x:cj
y:cj
noncomputable def pQ(s:Nat):Qn×Nat:=(pY 40 (s/1024)).rec fun x t=>(pY 40 t).rec fun y t=>(⟨s%32,s/32%32,x,y⟩,t)
def re{bA:Type}[LE bA][LT bA](r:Nat)(a b:bA):Prop:=cond (cu r 0) (a<=b) (cond (cu r 1) (a<b) (cond (cu r 2) (a=b) False))
noncomputable def Qn.fU(q:Qn):Nat:=q.d%4
noncomputable def Qn.neg(q:Qn):Bool:=cu (q.d/4%2) 1
noncomputable def Qn.yk(q:Qn):Bool:=cu (q.d/8%2) 1
noncomputable def Qn.bk(q:Qn):Bool:=cu (q.d/16) 1
def Qn.aD(c:List Nat)(q:Qn):Prop:=cond q.neg (¬cond q.yk (re q.fU (q.x.aD c:Int) (q.y.aD c)) (re q.fU (q.x.aD c) (q.y.aD c))) (cond q.yk (re q.fU (q.x.aD c:Int) (q.y.aD c)) (re q.fU (q.x.aD c) (q.y.aD c)))
theorem EM{r a b:Nat}:re r (a:Int) (b:Int)↔re r a b:=by
 unfold re;cases cu r 0
 .cases cu r 1
  .cases cu r 2;.exact Bw
   .exact KB
  .exact cw
 .exact nA
def Qn.dn(c:List Nat)(q:Qn)(b:Bool):Prop:=cond b (¬re q.fU (q.x.aD c) (q.y.aD c)) (re q.fU (q.x.aD c) (q.y.aD c))
theorem Qn.yl{c:List Nat}{q:Qn}:q.aD c↔q.dn c q.neg:=by
 unfold aD dn;cases q.yk;.exact Bw
 .cases q.neg;.exact EM
  .exact not_congr EM
noncomputable def Qn.hl(q:Qn)(b:Bool):cj×cj:=cond b (cond (cu q.fU 0) (.a q.y (.k 1),q.x) (cond (cu q.fU 1) (q.y,q.x) (.k 0,.k 0))) (cond (cu q.fU 0) (q.x,q.y) (cond (cu q.fU 1) (.a q.x (.k 1),q.y) (cond (cu q.fU 2) (cond q.bk (q.y,q.x) (q.x,q.y)) (.k 1,.k 0))))
theorem Qn.EN{c:List Nat}{q:Qn}{b:Bool}:q.dn c b->(q.hl b).1.aD c<=(q.hl b).2.aD c:=by
 unfold dn hl re;cases b
 .cases cu q.fU 0
  .cases cu q.fU 1
   .cases cu q.fU 2;.exact YF
    .cases q.bk;.exact gF
     .exact fun h=>gF (By h)
   .exact id
  .exact id
 .cases cu q.fU 0
  .cases cu q.fU 1;.exact fun _=>aE 0
   .exact kt
  .exact YG
noncomputable def aO(j:Nat):Nat->Qn:=j.rec (fun s=>(pQ s).1) fun _ f s=>f (pQ s).2
noncomputable def i7(s m:Nat):cj×cj:=m.rec (.k 0,.k 0) fun m z=>(.a z.1 (.m (aO (m+1) s).m ((aO (m+1) s).hl (aO (m+1) s).neg).1),.a z.2 (.m (aO (m+1) s).m ((aO (m+1) s).hl (aO (m+1) s).neg).2))
noncomputable def EO(s m:Nat):Bool:=m.rec Y fun m b=>b&&(cu (aO (m+1) s).fU 2&&!(aO (m+1) s).neg)
def Hy(c:List Nat)(s m:Nat):Prop:=m.rec True fun m p=>p/\(aO (m+1) s).aD c
theorem Om{s m:Nat}{c:List Nat}(h:Hy c s m):(i7 s m).1.aD c<=(i7 s m).2.aD c:=by induction m with|zero=>exact aE 0|succ m ih=>exact jL (ih h.1) (YH _ (Qn.EN (Qn.yl.mp h.2)))
theorem On{s m:Nat}{c:List Nat}(h:Hy c s m)(e:EO s m=Y):(i7 s m).2.aD c<=(i7 s m).1.aD c:=by induction m with|zero=>exact aE 0|succ m ih=>
have e:=fe.mp e;refine jL (ih h.1 e.1) (YH _ ?_);have e:=fe.mp e.2;have e2:=(YI _).mp e.2;have h:=Qn.yl.mp h.2;generalize aO (m+1) s=q at e e2 h;have r:q.fU=2:=jK e.1;unfold Qn.dn re at h;unfold Qn.hl;rw[e2,r]at h⊢;show(cond q.bk (q.y,q.x) (q.x,q.y)).2.aD c<=(cond q.bk (q.y,q.x) (q.x,q.y)).1.aD c;cases q.bk;.exact gF (By h)
.exact gF h
noncomputable def dO(n m s:Nat):Bool:=cond (cu (aO 0 s).fU 2&&!(aO 0 s).neg) (EO s m&&(cj.le n (.a (aO 0 s).x (i7 s m).2) (.a (aO 0 s).y (i7 s m).1)&&cj.le n (.a (aO 0 s).y (i7 s m).1) (.a (aO 0 s).x (i7 s m).2))) (cj.le n (.a (.a ((aO 0 s).hl (!(aO 0 s).neg)).2 (i7 s m).2) (.k 1)) (.a ((aO 0 s).hl (!(aO 0 s).neg)).1 (i7 s m).1))
theorem lg{s m:Nat}{c:List Nat}(e:Y=dO c.length m s)(h:Hy c s m):(aO 0 s).aD c:=by refine Qn.yl.mpr ?_;have a:=Om h;unfold dO at e;have b:=On h;generalize aO 0 s=q at e;cases k:cu q.fU 2&&!q.neg with|true=>rw[k]at e;have e:=fe.mp e.symm;have e2:=fe.mp e.2;have k:=fe.mp k;unfold Qn.dn re;rw[(YI _).mp k.2,jK k.1];have x:q.x.aD c+(i7 s m).2.aD c<=q.y.aD c+(i7 s m).1.aD c:=cj.yj e2.1;have y:q.y.aD c+(i7 s m).1.aD c<=q.x.aD c+(i7 s m).2.aD c:=cj.yj e2.2;have b:=fx a (b e.1);rw[b]at x y;exact Nat.add_right_cancel (fx x y)|false=>
rw[k]at e;refine N? fun g=>?_;have z:q.dn c (!q.neg):=by
 unfold Qn.dn at g⊢;cases h:q.neg;.rw[h]at g;exact g
 .rw[h]at g;exact O'.mp g
exact ae (jL (Qn.EN z) a) (Nat.not_le_of_lt (cj.yj e.symm))
theorem uY{w:Nat}{P:Prop}(h:(-1:Int)=w):P:=Int.noConfusion (show Int.negSucc 0=ko w from h)
theorem pj(n:Nat):((n+1:Nat):Int)-1=n:=YJ (n:Int) 1
theorem EP(n:Nat):(-1:Int)+((n+1:Nat):Int)=n:=(YK _ _).trans (pj n)
theorem ym(n:Nat):((-1:Int)+(n:Int)).toNat=n-1:=by induction n with|zero=>rfl|succ n _=>rw[EP];rfl
theorem so{a b:Nat}(h:b<=a):∃e,a=e+b:=⟨a-b,(rT h).symm⟩
theorem yn{motive:(i:Nat)->i<2->Prop}(h0:motive 0 (fg 1))(h1:motive 1 (mf 1))(i:Nat)(h:i<2):motive i h:=by
 rcases i with _|_|i;.exact h0
 .exact h1
 .exact ae (lf (lf h)) (qe i)
theorem n8(n:Nat){x:Nat}(h:x<n+2)(l:n<=x):x=n\/x=n+1:=(qf x (n+1)).imp (fun q=>fx (oU q) l) fun q=>fx (oU h) q
theorem qI(n:Nat){x:Nat}(h:x<n+3)(l:n<=x):x=n\/x=n+1\/x=n+2:=(qf x (n+1)).imp (fun q=>fx (oU q) l) fun q=>n8 (n+1) h q
theorem yo{motive:(i:Nat)->i<3->Prop}(h0:motive 0 (fg 2))(h1:motive 1 (cm rfl))(h2:motive 2 (mf 2))(i:Nat)(h:i<3):motive i h:=by
 rcases i with _|_|_|i;.exact h0
 .exact h1
 .exact h2
 .exact ae (lf (lf (lf h))) (qe i)
theorem qJ{motive:(i:Nat)->i<4->Prop}(h0:motive 0 (fg 3))(h1:motive 1 (cm rfl))(h2:motive 2 (cm rfl))(h3:motive 3 (mf 3))(i:Nat)(h:i<4):motive i h:=by
 rcases i with _|_|_|_|i;.exact h0
 .exact h1
 .exact h2
 .exact h3
 .exact ae (lf (lf (lf (lf h)))) (qe i)
theorem EQ{motive:(i:Nat)->i<6->Prop}(h0:motive 0 (fg 5))(h1:motive 1 (cm rfl))(h2:motive 2 (cm rfl))(h3:motive 3 (cm rfl))(h4:motive 4 (cm rfl))(h5:motive 5 (cm rfl))(i:Nat)(h:i<6):motive i h:=by
 rcases i with _|_|i;.exact h0
 .exact h1
 .exact qJ (motive:=fun i _=>∀h,motive (i+2) h) (fun _=>h2) (fun _=>h3) (fun _=>h4) (fun _=>h5) i (lf (lf h)) h
theorem mJ{a b:Nat}(h:b<a):a-b=a-(b+1)+1:=by rw[Nat.sub_add_eq];exact(rT (Nat.sub_pos_of_lt h)).symm
theorem aB{a:Nat}(s:Nat)(e:Y=dO 1 0 s):(aO 0 s).aD [a]:=lg (c:=[a]) e trivial
theorem ax{a:Nat}(s:Nat)(e:Y=dO 1 1 s)(h1:(aO 1 s).aD [a]):(aO 0 s).aD [a]:=lg (c:=[a]) e ⟨trivial,h1⟩
theorem hO{a:Nat}(s:Nat)(e:Y=dO 1 2 s)(h1:(aO 1 s).aD [a])(h2:(aO 2 s).aD [a]):(aO 0 s).aD [a]:=lg (c:=[a]) e ⟨⟨trivial,h1⟩,h2⟩
theorem bB{a b:Nat}(s:Nat)(e:Y=dO 2 0 s):(aO 0 s).aD [a,b]:=lg (c:=[a,b]) e trivial
theorem aC{a b:Nat}(s:Nat)(e:Y=dO 2 1 s)(h1:(aO 1 s).aD [a,b]):(aO 0 s).aD [a,b]:=lg (c:=[a,b]) e ⟨trivial,h1⟩
theorem b5{a b:Nat}(s:Nat)(e:Y=dO 2 2 s)(h1:(aO 1 s).aD [a,b])(h2:(aO 2 s).aD [a,b]):(aO 0 s).aD [a,b]:=lg (c:=[a,b]) e ⟨⟨trivial,h1⟩,h2⟩
theorem Oo{a b:Nat}(s:Nat)(e:Y=dO 2 3 s)(h1:(aO 1 s).aD [a,b])(h2:(aO 2 s).aD [a,b])(h3:(aO 3 s).aD [a,b]):(aO 0 s).aD [a,b]:=lg (c:=[a,b]) e ⟨⟨⟨trivial,h1⟩,h2⟩,h3⟩
theorem fz{a b c:Nat}(s:Nat)(e:Y=dO 3 0 s):(aO 0 s).aD [a,b,c]:=lg (c:=[a,b,c]) e trivial
theorem da{a b c:Nat}(s:Nat)(e:Y=dO 3 1 s)(h1:(aO 1 s).aD [a,b,c]):(aO 0 s).aD [a,b,c]:=lg (c:=[a,b,c]) e ⟨trivial,h1⟩
theorem pn{a b c:Nat}(s:Nat)(e:Y=dO 3 2 s)(h1:(aO 1 s).aD [a,b,c])(h2:(aO 2 s).aD [a,b,c]):(aO 0 s).aD [a,b,c]:=lg (c:=[a,b,c]) e ⟨⟨trivial,h1⟩,h2⟩
theorem fk{a b c:Nat}(s:Nat)(e:Y=dO 3 3 s)(h1:(aO 1 s).aD [a,b,c])(h2:(aO 2 s).aD [a,b,c])(h3:(aO 3 s).aD [a,b,c]):(aO 0 s).aD [a,b,c]:=lg (c:=[a,b,c]) e ⟨⟨⟨trivial,h1⟩,h2⟩,h3⟩
theorem yp{a b c d:Nat}(s:Nat)(e:Y=dO 4 0 s):(aO 0 s).aD [a,b,c,d]:=lg (c:=[a,b,c,d]) e trivial
theorem ER{a b c d:Nat}(s:Nat)(e:Y=dO 4 1 s)(h1:(aO 1 s).aD [a,b,c,d]):(aO 0 s).aD [a,b,c,d]:=lg (c:=[a,b,c,d]) e ⟨trivial,h1⟩
theorem n9{a b c d:Nat}(s:Nat)(e:Y=dO 4 2 s)(h1:(aO 1 s).aD [a,b,c,d])(h2:(aO 2 s).aD [a,b,c,d]):(aO 0 s).aD [a,b,c,d]:=lg (c:=[a,b,c,d]) e ⟨⟨trivial,h1⟩,h2⟩
theorem uZ{a b c d:Nat}(s:Nat)(e:Y=dO 4 3 s)(h1:(aO 1 s).aD [a,b,c,d])(h2:(aO 2 s).aD [a,b,c,d])(h3:(aO 3 s).aD [a,b,c,d]):(aO 0 s).aD [a,b,c,d]:=lg (c:=[a,b,c,d]) e ⟨⟨⟨trivial,h1⟩,h2⟩,h3⟩
theorem Op{a b c d:Nat}(s:Nat)(e:Y=dO 4 4 s)(h1:(aO 1 s).aD [a,b,c,d])(h2:(aO 2 s).aD [a,b,c,d])(h3:(aO 3 s).aD [a,b,c,d])(h4:(aO 4 s).aD [a,b,c,d]):(aO 0 s).aD [a,b,c,d]:=lg (c:=[a,b,c,d]) e ⟨⟨⟨⟨trivial,h1⟩,h2⟩,h3⟩,h4⟩
theorem yq{a b c d x:Nat}(s:Nat)(e:Y=dO 5 1 s)(h1:(aO 1 s).aD [a,b,c,d,x]):(aO 0 s).aD [a,b,c,d,x]:=lg (c:=[a,b,c,d,x]) e ⟨trivial,h1⟩
theorem sq{a b c d x:Nat}(s:Nat)(e:Y=dO 5 2 s)(h1:(aO 1 s).aD [a,b,c,d,x])(h2:(aO 2 s).aD [a,b,c,d,x]):(aO 0 s).aD [a,b,c,d,x]:=lg (c:=[a,b,c,d,x]) e ⟨⟨trivial,h1⟩,h2⟩
theorem mK{a b c d x:Nat}(s:Nat)(e:Y=dO 5 3 s)(h1:(aO 1 s).aD [a,b,c,d,x])(h2:(aO 2 s).aD [a,b,c,d,x])(h3:(aO 3 s).aD [a,b,c,d,x]):(aO 0 s).aD [a,b,c,d,x]:=lg (c:=[a,b,c,d,x]) e ⟨⟨⟨trivial,h1⟩,h2⟩,h3⟩
theorem Oq{a b c d x y:Nat}(s:Nat)(e:Y=dO 6 1 s)(h1:(aO 1 s).aD [a,b,c,d,x,y]):(aO 0 s).aD [a,b,c,d,x,y]:=lg (c:=[a,b,c,d,x,y]) e ⟨trivial,h1⟩
theorem yr{a b c d x y:Nat}(s:Nat)(e:Y=dO 6 2 s)(h1:(aO 1 s).aD [a,b,c,d,x,y])(h2:(aO 2 s).aD [a,b,c,d,x,y]):(aO 0 s).aD [a,b,c,d,x,y]:=lg (c:=[a,b,c,d,x,y]) e ⟨⟨trivial,h1⟩,h2⟩
theorem ES{a b c d x y:Nat}(s:Nat)(e:Y=dO 6 3 s)(h1:(aO 1 s).aD [a,b,c,d,x,y])(h2:(aO 2 s).aD [a,b,c,d,x,y])(h3:(aO 3 s).aD [a,b,c,d,x,y]):(aO 0 s).aD [a,b,c,d,x,y]:=lg (c:=[a,b,c,d,x,y]) e ⟨⟨⟨trivial,h1⟩,h2⟩,h3⟩
theorem ET{a b c d x y:Nat}(s:Nat)(e:Y=dO 6 4 s)(h1:(aO 1 s).aD [a,b,c,d,x,y])(h2:(aO 2 s).aD [a,b,c,d,x,y])(h3:(aO 3 s).aD [a,b,c,d,x,y])(h4:(aO 4 s).aD [a,b,c,d,x,y]):(aO 0 s).aD [a,b,c,d,x,y]:=lg (c:=[a,b,c,d,x,y]) e ⟨⟨⟨⟨trivial,h1⟩,h2⟩,h3⟩,h4⟩
theorem Os{a b c d x y z:Nat}(s:Nat)(e:Y=dO 7 1 s)(h1:(aO 1 s).aD [a,b,c,d,x,y,z]):(aO 0 s).aD [a,b,c,d,x,y,z]:=lg (c:=[a,b,c,d,x,y,z]) e ⟨trivial,h1⟩
theorem EU{a b c d x y z:Nat}(s:Nat)(e:Y=dO 7 2 s)(h1:(aO 1 s).aD [a,b,c,d,x,y,z])(h2:(aO 2 s).aD [a,b,c,d,x,y,z]):(aO 0 s).aD [a,b,c,d,x,y,z]:=lg (c:=[a,b,c,d,x,y,z]) e ⟨⟨trivial,h1⟩,h2⟩
theorem EV{a b c d x y z w:Nat}(s:Nat)(e:Y=dO 8 2 s)(h1:(aO 1 s).aD [a,b,c,d,x,y,z,w])(h2:(aO 2 s).aD [a,b,c,d,x,y,z,w]):(aO 0 s).aD [a,b,c,d,x,y,z,w]:=lg (c:=[a,b,c,d,x,y,z,w]) e ⟨⟨trivial,h1⟩,h2⟩
set_option maxHeartbeats 0
set_option compiler.extract_closed false
local macro_rules |`(tactic|show$t)=>`(tactic|refine(?_:$t))
local macro_rules |`(tactic|rw[$r,$s,*]$[$l]?)=>`(tactic|(rw[$r]$[$l]?;rw[$s,*]$[$l]?))
local macro_rules |`(tactic|rw[←$t:term])=>`(tactic|((first|refine uJ $t ?_|refine uJ ($t _) ?_|refine uJ ($t _ _) ?_|refine uJ ($t _ _ _) ?_|refine Cv $t ?_|refine Cv ($t _) ?_|fail);try with_reducible rfl))
local macro_rules |`(tactic|rw[$t:term])=>`(tactic|((first|refine qt $t ?_|refine qt ($t _) ?_|refine qt ($t _ _) ?_|refine qt ($t _ _ _) ?_|refine xM $t ?_|refine xM ($t _) ?_|refine xM ($t _ _) ?_|fail);try with_reducible rfl))
local macro_rules |`(tactic|rw[$t:term]at$h:ident)=>`(tactic|first|replace$h:ident:=xL $t $h|replace$h:ident:=xL ($t _) $h|replace$h:ident:=xL ($t _ _) $h|replace$h:ident:=Iff.mp $t $h|replace$h:ident:=$t▸$h|fail)
local macro_rules |`(tactic|cases$h:ident)=>let r:=Lean.mkIdent `rfl;`(tactic|first|obtain$r:ident:=$h|obtain$r:ident:=Option.some.inj $h|obtain$r:ident:=aa.int.inj $h|obtain$r:ident:=aa.ab.inj $h|(focus injection$h;done)|(injection$h with a b c;cases a;cases b;cases c)|(injection$h with a b;cases a;cases b)|(injection$h with a;cases a)|rcases$h:ident with⟨⟩|fail)
local macro_rules |`(tactic|change$t at$h:ident)=>`(tactic|replace$h:ident:$t :=$h)
local macro_rules |`(tactic|decide)=>`(tactic|first|exact Nat.le_of_ble_eq_true rfl|exact Nat.ne_of_beq_eq_false rfl|exact .head _|exact .tail _ (.head _)|exact .tail _ (.tail _ (.head _))|exact of_decide_eq_true rfl|fail)
local macro_rules |`(nofun)=>`(by intros;first|contradiction|(intro h;first|contradiction|exact nomatch(h))|(rename_i h;exact nomatch(h)))
local macro_rules |`(nomatch$h:ident)=>`(by first|contradiction|exact nomatch($h))
set_option compiler.extract_closed true
set_option maxHeartbeats 200000
inductive E2{bA fA:Type}(P:bA->fA->Prop):Prop where|mk(x0:bA)(x1:fA)(h:P x0 x1):E2 P
inductive E3{bA fA i8:Type}(P:bA->fA->i8->Prop):Prop where|mk(x0:bA)(x1:fA)(x2:i8)(h:P x0 x1 x2):E3 P
inductive E4{bA fA i8 i9:Type}(P:bA->fA->i8->i9->Prop):Prop where|mk(x0:bA)(x1:fA)(x2:i8)(x3:i9)(h:P x0 x1 x2 x3):E4 P
inductive E5{bA fA i8 i9 oa:Type}(P:bA->fA->i8->i9->oa->Prop):Prop where|mk(x0:bA)(x1:fA)(x2:i8)(x3:i9)(x4:oa)(h:P x0 x1 x2 x3 x4):E5 P
inductive E6{bA fA i8 i9 oa sr:Type}(P:bA->fA->i8->i9->oa->sr->Prop):Prop where|mk(x0:bA)(x1:fA)(x2:i8)(x3:i9)(x4:oa)(x5:sr)(h:P x0 x1 x2 x3 x4 x5):E6 P
inductive E8{bA fA i8 i9 oa sr EW EX:Type}(P:bA->fA->i8->i9->oa->sr->EW->EX->Prop):Prop where|mk(x0:bA)(x1:fA)(x2:i8)(x3:i9)(x4:oa)(x5:sr)(x6:EW)(x7:EX)(h:P x0 x1 x2 x3 x4 x5 x6 x7):E8 P
inductive A3(a0 a1 a2:Prop):Prop where|mk(h0:a0)(h1:a1)(h2:a2):A3 a0 a1 a2
inductive A4(a0 a1 a2 a3:Prop):Prop where|mk(h0:a0)(h1:a1)(h2:a2)(h3:a3):A4 a0 a1 a2 a3
inductive A5(a0 a1 a2 a3 a4:Prop):Prop where|mk(h0:a0)(h1:a1)(h2:a2)(h3:a3)(h4:a4):A5 a0 a1 a2 a3 a4
inductive A6(a0 a1 a2 a3 a4 a5:Prop):Prop where|mk(h0:a0)(h1:a1)(h2:a2)(h3:a3)(h4:a4)(h5:a5):A6 a0 a1 a2 a3 a4 a5
inductive A7(a0 a1 a2 a3 a4 a5 a6:Prop):Prop where|mk(h0:a0)(h1:a1)(h2:a2)(h3:a3)(h4:a4)(h5:a5)(h6:a6):A7 a0 a1 a2 a3 a4 a5 a6
inductive A8(a0 a1 a2 a3 a4 a5 a6 a7:Prop):Prop where|mk(h0:a0)(h1:a1)(h2:a2)(h3:a3)(h4:a4)(h5:a5)(h6:a6)(h7:a7):A8 a0 a1 a2 a3 a4 a5 a6 a7
inductive EY(a0 a1 a2 a3 a4 a5 a6 a7 a8 a9 EZ:Prop):Prop where|mk(h0:a0)(h1:a1)(h2:a2)(h3:a3)(h4:a4)(h5:a5)(h6:a6)(h7:a7)(h8:a8)(h9:a9)(u4:EZ):EY a0 a1 a2 a3 a4 a5 a6 a7 a8 a9 EZ
def Fr(O:List Nat)(σ Z:AH):Prop:=∀(i:Nat)o,σ[i]?=D o->i∉O->Z[i]?=D o
theorem Fr.rfl:Fr O σ σ:=fun _ _ h _=>h
theorem Fr.trans(h:Fr O σ Z)(h':Fr O Z yt):Fr O σ yt:=fun i o a b=>h' i o (h i o a b) b
theorem du{σ g:AH}{i:Nat}{o:AO}(h:σ[i]?=D o):(σ++g)[i]?=D o:=by rw[ib (bp.mp h).1];exact h
theorem bm{σ:AH}{o o':AO}(h:σ[i]?=D o)(Z:j≠i):(σ.set j o')[i]?=D o:=by rw[rU Z];exact h
theorem aS{o:AO}:(σ++[o])[σ.length]?=D o:=by rw[jM (aE _),jN];exact List.getElem?_cons_zero
theorem eV{σ:AH}{o o':AO}(h:σ[i]?=D o):(σ.set i o')[i]?=D o':=by rw[ul (bp.mp h).1]
theorem Fr.cp{O:List Nat}{σ Z g:AH}(h:Fr O σ Z):Fr O σ (Z++g):=fun i o a b=>du (h i o a b)
theorem Fr.new{O:List Nat}{σ g:AH}:Fr O σ (σ++g):=fun i o a b=>du a
theorem Fr.set{O:List Nat}{j:Nat}(h:Fr O σ Z)(C:j∈O):Fr O σ (Z.set j o'):=fun i o a b=>bm (h i o a b) fun e=>b (e▸C)
theorem Fr.kI{O:List Nat}{j:Nat}(h:Fr O σ Z)(X:σ[j]?=I):Fr O σ (Z.set j o'):=fun i o a b=>bm (h i o a b) fun e=>by rw[e,a]at X;cases X
theorem Fr.aq(h:Fr O σ au)(s:∀i,i∈O->i∈Z):Fr Z σ au:=fun i o a b=>h i o a fun q=>b (s i q)
theorem Fr.nil(h:Fr [] σ au):Fr O σ au:=h.aq fun _ q=>nomatch q
section
theorem fL(h:σ[i]?=D (.bl c fs))(Z:WD.gu c f=Y)(X:jV fs f=D v):eU WD σ (.ref i) f=D v:=by show(match σ[i]? with|some (.bl c fs)=>if WD.gu c f then jV fs f else I|_=>I)=_;rw[h];exact(af Z).trans X
theorem u5(h:σ[i]?=D (.bl c fs))(Z:(WD.gu c f&&decide (fs.length<500))=Y)(X:i≠0):o9 WD σ (.ref i) f v=D (σ.set i (.bl c (iH fs f v))):=by show(match σ[i]? with|some (.bl c fs)=>if(WD.gu c f&&decide (fs.length<500)&&i !=0)=Y then D (σ.set i (.bl c (iH fs f v)))else I|_=>I)=_;rw[h];exact af (by rw[Z,fy.mpr X];rfl)
theorem hQ(h:σ[i]?=D (.list xs)):cZ σ (.ref i) d=(match d with|.int k=>lD xs k|_=>I):=by show(match σ[i]? with|some (.list xs)=>_|some (.dict es)=>_|_=>_)=_;rw[h];try rfl
theorem E0(h:σ[i]?=D (.dict es))(Z:dd es d=Y)(X:ci d=2):cZ σ (.ref i) d=ca es d:=by show(match σ[i]? with|some (.list xs)=>_|some (.dict es)=>_|_=>_)=_;rw[h];exact af (by rw[Z,X];rfl)
theorem pp(h:σ[i]?=D (.dict es))(Z:dd es d=Y):io σ d (.ref i)=D (ca es d).isSome:=by show(match σ[i]? with|some (.list xs)=>_|some (.dict es)=>_|_=>_)=_;rw[h];exact af Z
theorem dv(h:σ[i]?=D (.list xs))(Z:xs.length<av):iI .len σ [.ref i]=D (.int xs.length,σ):=by show((match σ[i]? with|some (.list xs)=>_|_=>_:Option aa).map _)=_;rw[h];show((if xs.length<av then _ else _:Option aa).map _)=_;rw[af Z];rfl
theorem eA(h:σ[i]?=D (.list xs)):nY σ (.ref i)=D xs:=by show(match σ[i]? with|some (.list xs)=>_|_=>_:Option (List aa))=_;rw[h]
theorem pq(h:σ[i]?=D (.dict es)):dictAt σ (.ref i)=D es:=by show(match σ[i]? with|some (.dict xs)=>_|_=>_:Option (List (aa×aa)))=_;rw[h]
theorem gy(Z:xs.length<av)(X:i≠0):qD 0 i xs σ [v]=D (.none,σ.set i (.list (xs++[v]))):=by show(if(decide (xs.length<av)&&i !=0)=Y then _ else _)=_;exact af (by rw[aN Z,fy.mpr X];rfl)
theorem mM(h:σ[i]?=D (.dict es))(Z:dd es d=Y)(X:es.length<av)(U:i≠0):i6 σ i d v=D (σ.set i (.dict (eR es d v))):=by show(match σ[i]? with|some (.dict es)=>_|some (.list xs)=>_|_=>_)=_;rw[h];exact af (by rw[Z,aN X,fy.mpr U];rfl)
theorem kJ(h:σ[i]?=D (.list xs))(Z:xs.length<av):sk σ (.ref i)=D (xs,D (i,xs)):=by show(match σ[i]? with|some (.list xs)=>_|_=>_:Option (List aa×Option (Nat×List aa)))=_;rw[h];exact af Z
theorem hU(Z:xs.length<av):sk σ (.ab xs)=D (xs,I):=af Z
theorem kK(h:σ[i]?=D (.list xs))(Z:xs.length<av):lA σ (.ref i)=D (!xs.isEmpty):=by show(match σ[i]? with|some (.list xs)=>_|_=>_:Option Bool)=_;rw[h];exact af Z
theorem qK(Z:xs.length<av):lA σ (.ab xs)=D (!xs.isEmpty):=af Z
theorem ip(Z:xs.length<av):iI .len σ [.ab xs]=D (.int xs.length,σ):=by show((if xs.length<av then _ else _:Option aa).map _)=_;rw[af Z];rfl
end
structure Ad where
az:Nat
r:Nat
ix:Nat
bd:Nat
noncomputable abbrev Ad.aQ(A:Ad):List Nat:=[A.r,A.ix]
noncomputable def dW:Nat->List aa->List (aa×aa)|_,[]=>[]|i,x::r=>(x,.int i)::dW (i+1) r
theorem yu:∀{T:List aa}{i:Nat}{k v:aa},ca (dW i T) k=D v->∃j:Nat,T[j]?=D k/\v=.int ((i+j:Nat):Int):=by intro T;induction T with|nil=>intro i k v h;exact nomatch h|cons x r Z=>
intro i k v h;change(if x=k then D (aa.int i)else ca (dW (i+1) r) k)=D v at h;by_cases e:x=k;.rw[af e]at h;cases h;exact⟨0,aI D e,rfl⟩
.rw[am e]at h;obtain⟨j,X,U⟩:=Z h;exact⟨j+1,X,by rw[U,um,eL]⟩
theorem yv:∀{T:List aa}{i:Nat}{k:aa},ca (dW i T) k=I->k∉T:=by intro T;induction T with|nil=>intro i k h;exact fun q=>nomatch q|cons x r Z=>
intro i k h;change(if x=k then D (aa.int i)else ca (dW (i+1) r) k)=I at h;by_cases e:x=k;.rw[af e]at h;cases h
.rw[am e]at h;exact fun q=>(ce.mp q).elim (fun q=>e q.symm) (Z h)
theorem E1:∀{T:List aa}{i:Nat}{k v:aa},ca (dW i T) k=I->eR (dW i T) k v=dW i T++[(k,v)]:=by intro T;induction T with|nil=>intro i k v h;exact rfl|cons x r Z=>
intro i k v h;change(if x=k then D (aa.int i)else ca (dW (i+1) r) k)=I at h;show(if x=k then _ else(x,_)::eR (dW (i+1) r) k v)=_;by_cases e:x=k;.rw[af e]at h;cases h
.rw[am e]at h⊢;rw[Z h];rfl
theorem E7:∀{T:List aa}{i:Nat}{k:aa},dW i (T++[k])=dW i T++[(k,.int ((i+T.length:Nat):Int))]:=by intro T;induction T with|nil=>intro i k;exact rfl|cons x r Z=>intro i k;show(x,aa.int i)::dW (i+1) (r++[k])=_;rw[Z,iD,um i 1,eL];rfl
theorem E9:∀{T:List aa}{i:Nat},(dW i T).length=T.length:=by intro T;induction T with|nil=>intro i;exact rfl|cons x r Z=>intro i;exact aI (·+1) (Z)
theorem Fa:∀{T:List aa}{i:Nat},(dW i T).all (fun p=>q p.1)=T.all q:=by intro T;induction T with|nil=>intro i;exact rfl|cons x r Z=>intro i;exact aI (q x&&·) (Z)
noncomputable def dJ(s:String):aa:=.ab [.int 1,.str (S0 s)]
noncomputable def oc(k:Nat)(v:aa)(f:Nat):aa:=.ab [.int k,v,.int f]
noncomputable def aZ(l:List Nat):List aa:=l.map fun(i:Nat)=>.int i
noncomputable def pu(l:List Nat):aa:=.ab [.int 6,.ab (aZ l)]
noncomputable def lL(e ro:Nat):aa:=.ab [.int 11,.int e,.int ro]
noncomputable def iM(es:List aa)(ro:Nat):aa:=.ab [.int 12,.ab es,.int ro]
noncomputable def eC(ps:List aa)(ret:Nat)(Z:aa)(X:Nat):aa:=.ab [.int 13,.ab [],.ab ps,.int ret,Z,.int X]
noncomputable def Fb:aa:=.ab [.int 8,.ab [],.ab [],.ab [],.ab [],.ab [],.int 0]
noncomputable def cH:List aa:=[dJ "any",dJ "unknown",dJ "never",dJ "void",dJ "undefined",dJ "null",dJ "string",dJ "number",oc 2 (.int 0) 0,oc 2 (.int 1) 0,dJ "object",Fb,pu [8,9],dJ "error",oc 2 (.int 0) 1,oc 2 (.int 1) 1]
noncomputable def Fc:List aa:=[.ab [.int 3,.str (S0 "a"),.int 0],.ab [.int 3,.str (S0 "b"),.int 0],.ab [.int 4,.int 0,.int 0],.ab [.int 4,.int 1,.int 0],oc 2 (.int 0) 0,oc 2 (.int 1) 0]
noncomputable def qL(T:List aa):List aa->Nat|[]=>0|r::l=>(if r∈T then 0 else 1)+qL T l
noncomputable def ms(T:List aa):Nat:=qL T Fc
theorem Fd:∀{l:List aa},qL (T++[row]) l<=qL T l:=by intro l;induction l with|nil=>exact aE 0|cons r l Z=>
  refine jL ?_ Z;by_cases h:r∈T;.rw[af h,af (mh _ h)];exact aE 0
  .rw[am h];split;.exact bQ 1
   .exact aE 1
theorem Ot(h:row∉T):∀{l:List aa},row∈l->qL (T++[row]) l+1<=qL T l:=by intro l;induction l with|nil=>intro m;cases m|cons r l Z=>
  intro m;by_cases e:r=row;.clear m;subst e;show(if r∈T++[r]then 0 else 1)+_+1<=(if r∈T then 0 else 1)+_;rw[af (jO _ aW),am h,gj,nz];exact eP Fd 1
  .have X:=Z ((ce.mp m).elim (fun q=>ae q.symm e) id);show(if r∈T++[row]then 0 else 1)+_+1<=(if r∈T then 0 else 1)+_;rw[eL];refine jL ?_ X;by_cases q:r∈T;.rw[af q,af (mh _ q)];exact aE 0
   .rw[am q];split;.exact bQ 1
    .exact aE 1
theorem Ou:ms (T++[row])+1<=ms T+1:=mi Fd
structure Tb(A:Ad)(b:Nat)(T:List aa)(σ:AH):Prop where
ct:∃f,σ[A.az]?=D (.bl 4 ((6,.ref A.r)::(16,.ref A.ix)::f))/\jV f 7=I
ch:σ[A.bd]?=D (.bl 5 [(20,.ref A.az),(19,.int 0),(18,.int 200),(17,.int 40)])cr:σ[A.r]?=D (.list T)cx:σ[A.ix]?=D (.dict (dW 0 T))nr:A.r≠0
nx:A.ix≠0
len:T.length+ms T+b<av
jv:T.all (fun r=>eG r&&ci r==2)=Y
base:cH<+:T
nd:T.Nodup
section
theorem Tb.le(h:Tb A b T σ)(l:b'<=b):Tb A b' T σ:={h with len:=by have:=h.len;exact n9 0x15eb400021bd82015ab400001 rfl l this}
theorem Tb.fr(h:Tb A b T σ)(x:Fr O σ au)(Z:A.az∉O)(X:A.bd∉O)(U:A.r∉O)(J:A.ix∉O):Tb A b T au:={h with ct:=(by obtain⟨f,a,b⟩:=h.ct;exact⟨f,x _ _ a Z,b⟩),ch:=x _ _ h.ch X,cr:=x _ _ h.cr U,cx:=x _ _ h.cx J}
theorem Tb.fV(h:Tb A b T σ)(x:Fr [] σ au):Tb A b T au:=h.fr x (nomatch·) (nomatch·) (nomatch·) (nomatch·)
theorem Tb.cp(h:Tb A b T σ):Tb A b T (σ++g):=h.fV .new
theorem Tb.fW(h:Tb A b T σ):eU WD σ (.ref A.az) 6=D (.ref A.r):=(by obtain⟨_,a,_⟩:=h.ct;exact fL a rfl rfl)
theorem Tb.yw(h:Tb A b T σ):eU WD σ (.ref A.az) 16=D (.ref A.ix):=let⟨_,a,_⟩:=h.ct;fL a rfl rfl
theorem Tb.az(h:Tb A b T σ):eU WD σ (.ref A.bd) 20=D (.ref A.az):=fL h.ch rfl rfl
theorem Tb.lt(h:Tb A b T σ):T.length<av:=by have:=h.len;exact da 97588254069575681 rfl this
theorem jw(h:i<av):small (i:Int)=true:=by exact Bu (gY h (cm rfl))
theorem gI{i:Nat}(h:l[i]?=D d)(Z:l.length<av):lD l i=D d:=by have:=(bp.mp h).1;unfold lD;rw[jw (b5 0xad0211542115001 rfl Z this),aN Z,Bool.and_self,af rfl,af (aB 659464 rfl),ic,h]
theorem Tb.row(h:Tb A b T σ){t:Nat}{d:aa}(e:T[t]?=D d):cZ σ (.ref A.r) (.int t)=D d:=(hQ h.cr).trans (gI e h.lt)
theorem Tb.eD(h:Tb A b T σ){t:Nat}{p:aa->Prop}(e:T[t]?=D d)(Z:p d):gO (eU WD σ (.ref A.az) 6) fun y=>gO (cZ σ y (.int t)) p:=o h.fW (o (h.row e) Z)
theorem Tb.dw(h:Tb A b T σ){t:Nat}{p:aa->Prop}(e:T[t]?=D d)(Z:p d):gO (eU WD σ (.ref A.bd) 20) fun y=>gO (eU WD σ y 6) fun y=>gO (cZ σ y (.int t)) p:=o h.az (h.eD e Z)
theorem Tb.dd(h:Tb A b T σ)(U:eG k=Y)(J:ci k=2):dd (dW 0 T) k=true:=by unfold Mine.dd;rw[Fa (q:=fun d=>ci d==ci k),U,J];refine fe.mpr ⟨rfl,fR.mpr fun x H=>?_⟩;exact(fe.mp (fR.mp h.jv x H)).2
theorem Ov{n u:Nat}{row:aa}(h:Tb A (b+u) T σ)(K:row∉T->ms (T++[row])+1<=ms T+u)(M:eG row=Y)(O:ci row=2)(L:∀(t:Nat)T' Z,Tb A b T' Z->T<+:T'->T'[t]?=D row->Fr A.aQ σ Z->k (.int t) Z):CW (n+1) 10 [.ref A.az,row] σ k:=by
 have X:=h.dd M O;refine Eb ?_;apply o h.yw;apply o (pp h.cx X);rcases U:ca (dW 0 T) row with _|v
 .apply o h.fW;apply p (dv h.cr h.lt);apply o h.fW;apply o h.cr;apply o (eA h.cr);apply p (gy h.lt h.nr);have J:A.r≠A.ix:=fun e=>by have:=h.cr;rw[e,h.cx]at this;cases this
  have H:(σ.set A.r (.list (T++[row])))[A.ix]?=D (.dict (dW 0 T)):=bm h.cx J;obtain⟨f,ct,E⟩:=h.ct;have Q:A.r≠A.az:=fun e=>by have:=h.cr;rw[e,ct]at this;cases this
  have C:A.ix≠A.bd:=fun e=>by have:=h.cx;rw[e,h.ch]at this;cases this
  apply o (fL (f:=16) (bm ct Q) rfl rfl);apply o ((mM (v:=.int T.length) H X (by rw[E9];exact h.lt) h.nx).trans (by rw[E1 U,<-gj T.length,<-E7]));refine L T.length (T++[row]) _ ?_ (YL T [row]) (by rw[jM (aE _),jN];rfl) ((Fr.rfl.set aW).set (cI _ aW));exact{
  ct:=⟨f,bm (bm ct Q) (fun e=>by have:=h.cx;rw[e,ct]at this;cases this),E⟩
  ch:=bm (bm h.ch (fun e=>by have:=h.cr;rw[e,h.ch]at this;cases this)) C
  cr:=bm (eV h.cr) J.symm
  cx:=eV H
  nr:=h.nr
  nx:=h.nx
  len:=by have q:=h.len;have g:=K (yv U);rw[aU,qg];exact sq 0xc5c05a8020162c0bd00008456a968000001 rfl q g
  jv:=by rw[Bz,h.jv];show((eG row&&ci row==2)&&Y)=Y;rw[M,O];rfl
  base:=h.base.trans (YL T [row])
  nd:=oV.mpr ⟨h.nd,fh.mpr ⟨bK,jP⟩,fun a d b w e=>yv U (by rw[ba.mp w]at e;exact e▸d)⟩}
 refine cps fun P m=>?_;obtain⟨j,y,z⟩:=yu U;refine m ?_;apply o h.yw;apply o ((E0 h.cx X O).trans U);rw[z,gj];exact L j T σ (h.le (b8 b u)) (dg T) y .rfl
end
structure jx(K:Type)where
ps:List (K×Bool)sp:Nat
rest:Option Nat
res:K
pred:Option (Int×Option Nat×Int)fl:Nat
set_option genInjectivity true in inductive Kd where|mk(m:Nat)(s:Option (jx Kd))
noncomputable abbrev Sg:=jx Kd
noncomputable def Kd.m:Kd->Nat|.mk m _=>m
noncomputable def Kd.s:Kd->Option Sg|.mk _ s=>s
noncomputable def eM(m:Nat):aa:=.ab [.int m,.none]
noncomputable def eO(o:Option Nat):aa:=match o with|some m=>eM m|none=>.none
noncomputable def dG(p:Option (Int×Option Nat×Int)):aa:=match p with|none=>.ab []|some (a,k,b)=>.ab [.int a,eO k,.int b]
noncomputable def eB(b:Bool):aa:=match b with|true=>.int 1|false=>.int 0
noncomputable def c4(m:Nat):Nat:=if m&&&4096≠0 then 4096 else if m&&&2048≠0 then 2048 else let m:=if m&&&4≠0 then m-(m&&&3)else m;if m&&&32≠0 then m-(m&&&24)else m
def Nm(m:Nat):Prop:=m<8192/\c4 m=m
noncomputable def jn(k:Kd)(b:Nat):Kd:=match k with|.mk m s=>.mk (c4 (m|||b)) (if c4 (m|||b)&&&6144≠0 then I else s)
mutual noncomputable def aL:Kd->aa|.mk m s=>.ab [.int m,oe s]noncomputable def oe:Option (jx Kd)->aa|none=>.none|some s=>aF s noncomputable def aF:jx Kd->aa|⟨ps,sp,rest,X,Z,U⟩=>.ab [.ab (fC ps),.int sp,eO rest,aL X,dG Z,.int U]noncomputable def fC:List (Kd×Bool)->List aa|[]=>[]|k::r=>cy k::fC r noncomputable def cy:Kd×Bool->aa|(k,o)=>.ab [aL k,eB o]end
mutual noncomputable def cB:Kd->aa|.mk m s=>.ab [.int m,ja s]noncomputable def ja:Option (jx Kd)->aa|none=>.none|some s=>dH s noncomputable def dH:jx Kd->aa|⟨ps,_,_,X,Z,U⟩=>.ab [.ab (gz ps),cB X,dG Z,.int (U&&&6:Nat)]noncomputable def gz:List (Kd×Bool)->List aa|[]=>[]|k::r=>j1 k::gz r noncomputable def j1:Kd×Bool->aa|(k,o)=>.ab [cB k,eB o]end
noncomputable def fD:List (Kd×Bool)->Bool|[]=>Y|p::r=>(!p.2||r.all (·.2))&&fD r
structure kL(V:Nat)(x:Sg):Prop where
pl:V=3->x.rest=I/\x.sp=x.ps.length
len:x.ps.length<=4
sp:x.sp<=x.ps.length
aq:fD x.ps=Y
rest:∀m,x.rest=D m->Nm m
pred:∀a k b,x.pred=D (a,k,b)->-1<=a/\a<1/\0<=b/\b<2/\∀m,k=D m->Nm m
fl:x.fl<8
noncomputable def aT(V:Nat):Nat->Kd->Prop|0,.mk m s=>Nm m/\s=I|n+1,.mk m s=>Nm m/\∀x,s=D x->(m<2048/\x.ps.length<=2)/\kL V x/\(∀p∈x.ps,aT V n p.1)/\aT V n x.res
def bo(V n:Nat)(x:Sg):Prop:=kL V x/\(∀p∈x.ps,aT V n p.1)/\aT V n x.res
theorem aT.le:∀{n:Nat}{k:Kd},aT V n k->aT V (n+1) k:=by intro n;induction n with|zero=>intro K h;obtain⟨m,s⟩:=K;exact⟨h.1,fun x e=>by rw[h.2]at e;cases e⟩|succ n Z=>intro K h;obtain⟨m,s⟩:=K;exact⟨h.1,fun x e=>(by obtain⟨a,b,c,d⟩:=h.2 x e;exact⟨a,b,fun p X=>Z (c p X),Z d⟩)⟩
theorem aT.aq(h:aT V n k)(l:n<=m):aT V m k:=by induction l with|refl=>exact h|step _ Z=>exact Z.le
theorem aT.nm:∀{n:Nat}{k:Kd},aT V n k->Nm k.m|0,.mk m s,h=>h.1|n+1,.mk m s,h=>h.1
noncomputable def mN(p:Kd×Bool):Kd:=match p.2 with|true=>jn p.1 512|false=>p.1
noncomputable def bq(s:Sg):List Kd:=s.ps.map mN
noncomputable def lM(s:Sg):Nat:=(s.ps.filter fun p=>!p.2).length
noncomputable def kM(bq:List Kd):Nat->Nat|0=>0|c+1=>match bq[c]? with|some k=>if k.m&&&1024≠0 then kM bq c else c+1|none=>c+1
noncomputable def b6(s:Sg):Nat:=kM (bq s) (lM s)
noncomputable def db(s:Sg):Bool:=(match s.rest with|some m=>m==4096||m==0|none=>aj)&&(match s.res with|.mk m I=>m==4096||m==2048|.mk _ (D _)=>aj)&&s.ps.isEmpty&&s.pred.isNone
noncomputable def px(k:Kd):Bool:=match k with|.mk m s=>m==0&&s.isNone
noncomputable def gJ(b:Nat):Nat:=b|||(if b&&&4≠0 then 3 else 0)|||(if b&&&32≠0 then 24 else 0)|||(if b&&&1024≠0 then 512 else 0)
noncomputable def j2(b:Nat)(Z:Bool):Nat:=gJ b|||(if b&&&3≠0 then 4 else 0)|||(if b&&&24≠0 then 32 else 0)|||(if b&&&512≠0 then 1024 else 0)|||(if Z then 0 else 2048)
section
variable(g:Sg->Sg->Int)(V:Nat)
noncomputable def iN(a b:Option Sg):Int:=match a with|some x=>(match b with|some y=>g x y|none=>-1)|none=>-1
noncomputable def gK(a b:Kd):Int:=if b.m&&&4096≠0\/px a=Y then 0 else if a.m&&&4096≠0/\V=4 then-1 else if b.m&&&2048≠0 then 0 else if a.m&&&4096≠0 then(if px b=Y then-1 else 1)else if V=2 then(if a.m&&&j2 b.m (px b)≠0\/0<=iN g a.s b.s then 0 else-1)else if a.m&&&gJ b.m≠a.m then-1 else if a.s.isNone=Y then 0 else iN g a.s b.s
noncomputable def dP(X Z:Kd)(U:Bool):Int:=if gK g V X Z<0/\U=Y/\V≠4 then(if 0<=gK g V Z X then((gK g V Z X).toNat|||2:Nat)else gK g V Z X)else gK g V X Z
noncomputable def jy(s t:Sg):Int:=if t.res.m=1024/\t.res.s.isNone=Y then 0 else match t.pred with|some (Q,Z,O)=>(match s.pred with|some (p0,X,E)=>if p0≠Q\/E≠O then-1 else(match X with|some X=>(match Z with|some Z=>gK g V (.mk X I) (.mk Z I)|none=>-1)|none=>(match Z with|some _=>-1|none=>0))|none=>-1)|none=>gK g V s.res t.res
noncomputable def dK(l:List Kd)(r:Option Nat)(i:Nat):Option Kd:=match l[i]? with|some k=>D k|none=>r.map fun m=>.mk m I
noncomputable def eW(s t:Sg)(U:Bool)(i:Nat):Option Nat:=match dK (bq s) s.rest i with|some Z=>(match dK (bq t) t.rest i with|some X=>if dP g V X Z U<0 then I else if V=4/\b6 s<=i/\i<b6 t/\0<=gK g V Z X then I else D (dP g V X Z U).toNat|none=>D 0)|none=>D 0
noncomputable def iO(s t:Sg)(Z:Bool):Nat->Nat->Nat->Option Nat|0,_,c=>D c|n+1,i,c=>(eW g V s t Z i).bind fun x=>iO s t Z n (i+1) (c|||x)
noncomputable def fX(s t:Sg)(ay:Bool):Bool:=ay||s.fl&&&1≠0||t.fl&&&1≠0
noncomputable def py(s t:Sg):Option Nat:=match t.rest with|none=>if b6 s>t.ps.length then I else if s.rest.isSome=Y\/s.ps.length>t.ps.length then(if V=4 then I else D 4)else D 0|some _=>if b6 s>t.ps.length then D 4 else D 0
noncomputable def restOf(c:Nat)(s t:Sg):Int:=if jy g V s t<0 then-1 else(c|||(jy g V s t).toNat:Nat)
noncomputable def gB(s t:Sg)(ay:Bool):Int:=if db t=Y/\¬(V=4/\db s=Y)then(match t.rest with|some 0=>if b6 s>0 then 4 else 0|some _=>1|none=>0)else match(py V s t).bind fun c=>iO g V s t (fX s t ay) 6 0 c with|some c=>restOf g V c s t|none=>-1
end
noncomputable def gS(V:Nat):Nat->Sg->Sg->Bool->Int|0,_,_,_=>-1|n+1,s,t,ay=>if V=3 then(if dH s=dH t then 0 else-1)else gB (fun x y=>gS V n x y aj) V s t ay
noncomputable def u6(n:Nat)(p:Nat->Bool):Bool:=Nat.rec Y (fun i b=>p i&&b) n
theorem Fe{p:Nat->Bool}(h:u6 n p=Y):∀i,i<n->p i=true:=by induction n with|zero=>exact fun i l=>ae l (xm i)|succ n X=>
have h:(p n&&u6 n p)=true:=h;rw[gG]at h;intro i l;by_cases e:i=n;.rw[e];exact h.1
.exact X h.2 i ((gk e).elim (fun Z=>aC 743064653825 rfl Z) fun Z=>b5 0xb505041a5421ad001 rfl Z l)
theorem kN{p:Nat->Bool}(h:u6 64 (fun a=>u6 128 fun b=>p (128*a+b))=Y)(m:Nat)(l:m<8192):p m=true:=by have:=Fe (Fe h (m/128) (Nat.div_lt_of_lt_mul l)) (m%128) (BA _ (fg _));rwa[Nat.div_add_mod]at this
theorem Ow:∀m,m<8192->decide (c4 m<8192/\c4 (c4 m)=c4 m)=true:=kN (by decide+kernel)
theorem yx(h:m<8192):Nm (c4 m):=@cK _ (_) (Ow m h)
theorem Ox:∀m,m<8192->decide (m&&&6144=0->m<2048)=true:=kN (by decide+kernel)
theorem u7(h:m<8192)(Z:b<8192):m|||b<8192:=Nat.or_lt_two_pow (n:=13) h Z
theorem Ff:∀{n:Nat}{k:Kd}{b:Nat},b<8192->aT V n k->aT V n (jn k b)|0,.mk m s,b,Z,h=>⟨yx (u7 h.1.1 Z),by rw[h.2];exact ite_self _⟩|n+1,.mk m s,b,Z,h=>⟨yx (u7 h.1.1 Z),fun x e=>by
by_cases q:c4 (m|||b)&&&6144≠0;.rw[af q]at e;cases e
.rw[am q]at e;exact⟨⟨cK (Ox _ (yx (u7 h.1.1 Z)).1) (un.mp q),(h.2 x e).1.2⟩,(h.2 x e).2⟩⟩
theorem Oy{p:Kd×Bool}(h:aT V n p.1):aT V n (mN p):=by
 obtain⟨k,o⟩:=p;rcases o with _|_;.exact h
 exact Ff (by decide) h
noncomputable def u8(V n:Nat)(a b:Kd):Int:=if V=3 then(if cB a=cB b then 0 else-1)else gK (fun x y=>gS V n x y aj) V a b
section
theorem Fg(h:∀x y,a.s=D x->b.s=D y->g x y=Z x y):gK g V a b=gK Z V a b:=by
 have e:iN g a.s b.s=iN Z a.s b.s:=by
  rcases X:a.s with _|x;.rfl
  induction U:b.s using cN with|none=>rfl|some y=>exact h x y X U
 unfold gK;rw[e]
theorem pz(h:bo V n s)(e:dK (bq s) s.rest i=D k):aT V n k:=by
 unfold dK at e;rcases Z:(bq s)[i]? with _|J
 .rw[Z]at e;rcases X:s.rest with _|m;.rw[X]at e;cases e
  rw[X]at e;cases e;exact aT.aq (n:=0) ⟨h.1.rest m X,rfl⟩ (bQ n)
 rw[Z]at e;cases e;obtain⟨p,U,rfl⟩:=gZ.mp (jQ Z);exact Oy (h.2.1 p U)
theorem Fh(J:bo V n s)(H:bo V n t)(h:∀a b,aT V n a->aT V n b->gK g V a b=gK U V a b):gB g V s t ay=gB U V s t ay:=by
 have K:∀i c,eW g V s t c i=eW U V s t c i:=fun i c=>by
  unfold eW;rcases e1:dK (bq s) s.rest i with _|Z;.rfl
  induction e2:dK (bq t) t.rest i using cN with|none=>rfl|some X=>
  have Q:=pz J e1;have O:=pz H e2;have e3:dP g V X Z c=dP U V X Z c:=by unfold dP;rw[h _ _ Q O,h _ _ O Q]
  dsimp only;rw[e3,h _ _ Q O]
 have E:∀k i c b,iO g V s t b k i c=iO U V s t b k i c:=fun k=>by induction k with|zero=>intros;rfl|succ k A=>intro i c b;show(eW g V s t b i).bind _=(eW U V s t b i).bind _;rw[K];exact aI _ (funext fun x=>A _ _ _)
 have L:∀m,Nm m->aT V n (.mk m I):=fun m q=>aT.aq (n:=0) ⟨q,rfl⟩ (bQ n);have j:jy g V s t=jy U V s t:=by
  unfold jy;rcases e1:t.pred with _|q;.show ite _ _ _=ite _ _ _;rw[h _ _ J.2.2 H.2.2]
  induction e2:s.pred using cN with|none=>rfl|some p=>
  obtain⟨d,C,r⟩:=q;obtain⟨p0,M,u⟩:=p;rcases M with _|M;.rfl
  induction C using cN with|none=>rfl|some C=>have:=h _ _ (L M ((J.1.pred _ _ _ e2).2.2.2.2 _ rfl)) (L C ((H.1.pred _ _ _ e1).2.2.2.2 _ rfl));dsimp only;rw[this]
 unfold gB restOf;rw[j,funext fun c=>E 6 0 c (fX s t ay)]
theorem Fi:∀{n:Nat}{a b:Kd},V≠3->aT V n a->aT V n b->gK (fun x y=>gS V n x y aj) V a b=gK (fun x y=>gS V (n+1) x y aj) V a b:=by intro n;induction n with|zero=>intro a b Z X U;exact Fg fun x y e _=>by obtain⟨m,s⟩:=a;rw[show s=I from X.2]at e;cases e|succ n J=>intro a b Z X U;refine Fg fun x y e1 e2=>?_;obtain⟨m,s⟩:=a;obtain⟨m',s'⟩:=b;show ite _ _ (gB _ _ _ _ _)=ite _ _ (gB _ _ _ _ _);rw[am Z,am Z];exact Fh (X.2 x e1).2 (U.2 y e2).2 fun a b=>J Z
theorem yy:∀{s t:Sg}{ay:Bool},V≠3->bo V 2 s->bo V 2 t->gS V 3 s t ay=gB (fun x y=>gS V 3 x y aj) V s t ay:=fun Z X U=>(am Z).trans (Fh X U fun a b=>Fi Z)
end
noncomputable def bn(i f:Nat):aa:=match i with|0=>.ab [.int 3,.str (S0 "a"),.int f]|1=>.ab [.int 3,.str (S0 "b"),.int f]|2=>dJ "string"|3=>.ab [.int 4,.int 0,.int f]|4=>.ab [.int 4,.int 1,.int f]|5=>dJ "number"|6=>oc 2 (.int 0) f|7=>oc 2 (.int 1) f|8=>dJ "null"|9=>dJ "undefined"|10=>dJ "void"|11=>dJ "unknown"|_=>dJ "any"
noncomputable def eX(i:Nat):Bool:=match i with|0=>Y|1=>Y|3=>Y|4=>Y|6=>Y|7=>Y|_=>aj
theorem Fj(hi:i<13)(hj:j<13)(l:eX i=Y)(e:bn i 1=bn j 0):False:=(by decide+kernel:∀i,i<13->∀j,j<13->eX i=Y->bn i 1≠bn j 0) i hi j hj l e
def At(T:List aa)(p i:Nat):Prop:=∃f,f<2/\T[p]?=D (bn i f)
def Pa(T:List aa)(t:Nat)(l:List Nat):Prop:=(t=2/\l=[])\/(t≠2/\T[t]?=D (pu l)/\2<=l.length)\/(t≠2/\l=[t]/\∀x,T[t]?≠D (.ab [.int 6,x]))
structure PR(T:List aa)(m:Nat)(l:List Nat)(q:Option Nat):Prop where
nd:l.Nodup
lt:m<8192
dX:∀i,i<13->(m.testBit i=Y↔∃p∈l,At T p i)all:∀p∈l,(∃i,i<13/\At T p i)\/q=D p
tw:∀i,i<13->eX i=Y->∀p∈l,T[p]?=D (bn i 1)->∀p'∈l,T[p']?≠D (bn i 0)
def MR(T:List aa)(m t:Nat):Prop:=∃l,Pa T t l/\PR T m l I
noncomputable def cU(c:Bool):Str:=S0 (if c then"x"else"y")
noncomputable def iP(c:Bool)(j:Nat)(p:Nat×Bool):aa:=.ab [.str (cU c++⟨#[48+j]⟩),.int p.1,eB p.2]
noncomputable def bg(c:Bool):Nat->List (Nat×Bool)->List aa|_,[]=>[]|j,p::r=>iP c j p::bg c (j+1) r
noncomputable def de(c:Bool)(Z:Nat):aa:=.ab [.str (cU c),.int Z,.int 2]
noncomputable def bc(p:Nat×Bool):aa:=.ab [.int p.1,eB p.2]
noncomputable def bv(rest:Option Nat)(e:Nat):List aa:=match rest with|none=>[]|some _=>[.ab [.int e,.int 2]]
def fE(c:Bool)(T:List aa)(l:List (Nat×Bool))(rest:Option Nat)(e:Nat)(tl:List aa):Prop:=match l with|[]=>(match rest with|none=>tl=[]|some _=>∃Z,tl=[de c Z]/\T[Z]?=D (lL e 0))|x::r=>∃Z,tl=[de c Z]/\T[Z]?=D (iM ((x::r).map bc++bv rest e) 0)
def mO(T:List aa)(rest:Option Nat)(e:Nat):Prop:=match rest with|none=>True|some m=>MR T m e
def hW(T:List aa)(Z:Option (Int×Option Nat×Int))(X:aa):Prop:=match Z with|none=>X=.ab []|some (a,k,b)=>(match k with|none=>X=.ab [.int a,.int (-1),.int b]|some m=>∃t:Nat,X=.ab [.int a,.int t,.int b]/\MR T m t)
mutual noncomputable def KR(c:Bool)(T:List aa):Kd->Nat->Prop|.mk m s,t=>E2 fun l q=>A3 (Pa T t l) (PR T m l q) (dC c T s l q)noncomputable def dC(c:Bool)(T:List aa):Option (jx Kd)->List Nat->Option Nat->Prop|none,l,q=>q=I|some x,l,q=>∃p,A3 (q=D p) (p∈l) (SR c T x p)noncomputable def SR(c:Bool)(T:List aa):jx Kd->Nat->Prop|⟨ps,sp,rest,X,Z,J⟩,p=>E5 fun pl e rt U tl=>A6 (T[p]?=D (eC (bg c 0 (pl.take sp)++tl) rt U J)) (dY c T ps pl) (KR c T X rt) (mO T rest e) (hW T Z U) (fE c T (pl.drop sp) rest e tl)noncomputable def dY(c:Bool)(T:List aa):List (Kd×Bool)->List (Nat×Bool)->Prop|[],pl=>pl=[]|p::r,pl=>E2 fun i Z=>A3 (pl=(i,p.2)::Z) (sw c T p i) (dY c T r Z)noncomputable def sw(c:Bool)(T:List aa):Kd×Bool->Nat->Prop|(k,_),i=>KR c T k i end
section
theorem bX{i:Nat}(h:T<+:T')(e:T[i]?=D d):T'[i]?=D d:=by obtain⟨g,rfl⟩:=h;rw[ib (bp.mp e).1];exact e
theorem fM{i:Nat}(h:T<+:T')(e:T'[i]?=D d)(Z:T[i]?=D d'):d=d':=by have:=bX h Z;rw[e]at this;exact b9 this
theorem At.aq{p i:Nat}(h:T<+:T'):At T p i->At T' p i:=(by rintro⟨f,a,b⟩;exact⟨f,a,bX h b⟩)
theorem Fk(hi:i<13)(hj:j<13)(hf:f<2)(hg:g<2)(e:bn i f=bn j g):i=j:=(by decide+kernel:∀i,i<13->∀j,j<13->∀f,f<2->∀g,g<2->bn i f=bn j g->i=j) i hi j hj f hf g hg e
theorem At.cV{p i j:Nat}(hi:i<13)(Z:j<13)(h:At T p i)(h':At T p j):i=j:=by obtain⟨f,a,b⟩:=h;obtain⟨g,c,d⟩:=h';rw[b]at d;exact Fk hi Z a c (b9 d)
noncomputable def jb(d:aa):Int:=match d with|.ab (.int g::_)=>g|_=>0
theorem td(h:aa.ab l=aa.ab l')(i:Nat)(e:l[i]?=D a)(Z:l'[i]?=D b):a=b:=by cases h;exact b9 (e.symm.trans Z)
theorem tn{a b:Nat}(h:aa.ab l=aa.ab l')(i:Nat)(e:l[i]?=D (.int a))(Z:l'[i]?=D (.int b)):a=b:=dr (aa.int.inj (td h i e Z))
theorem gM{P:Prop}(h:a=b)(e:(jb a==jb b)=aj):P:=by rw[h,beq_self_eq_true]at e;cases e
theorem pA:jb (bn i f)<6:=by rcases i with _|_|_|_|_|_|_|_|_|_|_|_|i<;>exact cK rfl
theorem mP(hi:i<13):bn i f≠eC ps rt Z fl:=fun e=>by have:=pA (i:=i) (f:=f);rw[e]at this;exact ae (show(13:Int)<6 from this) (by decide)
theorem u9(hi:i<13):bn i f≠.ab [.int 6,x]:=fun e=>by have:=pA (i:=i) (f:=f);rw[e]at this;exact ae (show(6:Int)<6 from this) (by decide)
theorem Fl:∀{l l':List Nat},aZ l=aZ l'->l=l'|[],[],_=>rfl|[],_::_,h=>nomatch h|_::_,[],h=>nomatch h|a::r,b::Z,h=>by have h:=gX h;rw[Fl h.2,dr (aa.int.inj h.1)]
theorem Pa.cV(h:Pa T t l)(h':Pa T t l'):l=l':=by
 rcases h with⟨a,b⟩|⟨a,b,d⟩|⟨a,b,d⟩<;>rcases h' with⟨Z,b'⟩|⟨Z,b',X⟩|⟨Z,b',X⟩;.rw[b,b']
 .exact ae a Z
 .exact ae a Z
 .exact ae Z a
 .rw[b]at b';have:=b9 b';injection this with this;injection this with _ this;injection this with this _;injection this with this;exact Fl this
 .exact ae b (X _)
 .exact ae Z a
 .exact ae b' (d _)
 .rw[b,b']
theorem Pa.aq{t:Nat}(h:T<+:T')(v:l=[t]->∃d,T[t]?=D d):Pa T t l->Pa T' t l|.inl a=>.inl a|.inr (.inl ⟨a,b,d⟩)=>.inr (.inl ⟨a,bX h b,d⟩)|.inr (.inr ⟨a,b,d⟩)=>.inr (.inr ⟨a,b,fun x e=>by obtain⟨y,Z⟩:=v b;rw[bX h Z]at e;exact d x (Z.trans e)⟩)
theorem PR.gQ(Z:∀p,q=D p->E4 fun ps rt X U=>T[p]?=D (eC ps rt X U))(a:PR T m l q):∀p∈l,∃d,T[p]?=D d:=fun p J=>(a.all p J).elim ((by rintro⟨i,x,f,y,z⟩;exact⟨_,z⟩)) fun e=>(by obtain⟨_,_,_,_,h⟩:=Z p e;exact⟨_,h⟩)
theorem PR.aq{m:Nat}(h:T<+:T')(hq:∀p,q=D p->E4 fun ps rt pd fl=>T[p]?=D (eC ps rt pd fl))(a:PR T m l q):PR T' m l q where
nd:=a.nd;lt:=a.lt;dX i hi:=(a.dX i hi).trans ⟨(by rintro⟨p,x,y⟩;exact⟨p,x,y.aq h⟩),(by rintro⟨p,x,f,y,z⟩;exact⟨p,x,by
rcases a.all p x with⟨j,hj,w⟩|w;.have:=At.cV hi hj ⟨f,y,z⟩ (w.aq h);rw[this];exact w
.obtain⟨ps,rt,pd,fl,e⟩:=hq p w;rw[bX h e]at z;exact ae (b9 z).symm (mP hi)⟩)⟩;all p hp:=(a.all p hp).imp_left (by rintro⟨i,x,y⟩;exact⟨i,x,y.aq h⟩);tw i hi hl p hp e p' jz e':=by obtain⟨d,h1⟩:=a.gQ hq p hp;obtain⟨d',h2⟩:=a.gQ hq p' jz;exact a.tw i hi hl p hp (h1.trans (aI D (fM h e h1).symm)) p' jz (h2.trans (aI D (fM h e' h2).symm))
theorem MR.aq(h:T<+:T'):MR T m t->MR T' m t:=fun⟨l,a,b⟩=>⟨l,a.aq h fun e=>b.gQ (fun p(q:I=D p)=>nomatch q) t (by rw[e];exact YM t),b.aq h fun p(q:I=D p)=>nomatch q⟩
theorem fE.aq{l:List (Nat×Bool)}(h:T<+:T'):fE c T l rest e tl->fE c T' l rest e tl:=by
 rcases l with _|⟨x,r⟩;.induction rest using cN with|none=>exact id|some _=>exact(by rintro⟨Z,a,b⟩;exact⟨Z,a,bX h b⟩)
 exact(by rintro⟨Z,a,b⟩;exact⟨Z,a,bX h b⟩)
theorem mO.aq(h:T<+:T'):mO T rest e->mO T' rest e:=by
 rcases rest with _|_;.exact id
 exact MR.aq h
theorem hW.aq(h:T<+:T'):hW T Z pd->hW T' Z pd:=by
 rcases Z with _|⟨a,_|m,b⟩;.exact id
 .exact id
 .exact(by rintro⟨t,x,y⟩;exact⟨t,x,y.aq h⟩)
mutual theorem KR.aq(h:T<+:T'):∀{k:Kd}{t:Nat},KR c T k t->KR c T' k t|.mk m s,t=>fun⟨l,q,a,b,d⟩=>have v:=dC.dZ d;⟨l,q,a.aq h fun e=>b.gQ v t (by rw[e];exact YM t),b.aq h v,dC.aq h d⟩theorem dC.dZ:∀{s:Option (jx Kd)}{l:List Nat}{q:Option Nat},dC c T s l q->∀p,q=D p->E4 fun ps rt X U=>T[p]?=D (eC ps rt X U)|none,l,q=>fun e p Z=>by rw[show q=I from e]at Z;cases Z|some ⟨ps,sp,rest,H,J,U⟩,l,q=>fun⟨p,e,_,pl,Z,rt,X,tl,h,_,_,_,_,_⟩Q e2=>by rw[e]at e2;clear e;cases e2;exact⟨_,_,_,_,h⟩theorem dC.aq(h:T<+:T'):∀{s:Option (jx Kd)}{l:List Nat}{q:Option Nat},dC c T s l q->dC c T' s l q|none,l,q=>id|some x,l,q=>fun⟨p,a,b,d⟩=>⟨p,a,b,SR.aq h d⟩theorem SR.aq(h:T<+:T'):∀{x:jx Kd}{p:Nat},SR c T x p->SR c T' x p|⟨ps,sp,rest,X,Z,C⟩,p=>fun⟨pl,e,rt,U,tl,a1,J,H,Q,O,E⟩=>⟨pl,e,rt,U,tl,bX h a1,dY.aq h J,KR.aq h H,Q.aq h,O.aq h,E.aq h⟩theorem dY.aq(h:T<+:T'):∀{ps:List (Kd×Bool)}{pl:List (Nat×Bool)},dY c T ps pl->dY c T' ps pl|[],pl=>id|p::r,pl=>fun⟨i,Z,a,b,d⟩=>⟨i,Z,a,sw.aq h b,dY.aq h d⟩theorem sw.aq(h:T<+:T'):∀{p:Kd×Bool}{i:Nat},sw c T p i->sw c T' p i|(k,_),i=>fun x=>KR.aq (k:=k) h x end
end
section
theorem Fm(h:eC ps rt J H=eC Z X U yz):ps=Z/\rt=X/\J=U/\H=yz:=⟨aa.ab.inj (td h 2 rfl rfl),tn h 3 rfl rfl,td h 4 rfl rfl,tn h 5 rfl rfl⟩
theorem Oz(h:cU c++⟨#[48+j]⟩=cU c'++⟨#[48+Z]⟩):c=c':=by
 have h:(cU c).cps++#[48+j]=(cU c').cps++#[48+Z]:=aI Str.cps h;have h:=aI (fun a=>a[0]?) h;cases c<;>cases c';.rfl
 .exact ae h (by show¬(D 121=D 120);decide)
 .exact ae h (by show¬(D 120=D 121);decide)
 .rfl
theorem yA(h:eB a=eB b):a=b:=by cases a<;>cases b<;>first|rfl|exact nomatch h
theorem OA{p q:Nat×Bool}(h:iP c j p=iP c' j q):p=q/\c=c':=⟨BB (tn h 1 rfl rfl) (yA (td h 2 rfl rfl)),Oz (aa.str.inj (td h 0 rfl rfl))⟩
theorem Fo{p:Nat×Bool}(h:iP c j p=de Z X):False:=by obtain⟨i,o⟩:=p;cases o<;>exact ae (tn h 2 rfl rfl) (by decide)
theorem sz(h:de c t=de c' t'):t=t'/\c=c':=by refine⟨tn h 1 rfl rfl,?_⟩;cases c<;>cases c'<;>first|rfl|exact ae (td h 0 rfl rfl) (by decide)
theorem fE.cases(h:fE c T l rest e tl):(l=[]/\rest=I/\tl=[])\/∃Z,tl=[de c Z]:=by
 rcases l with _|⟨x,r⟩;.induction rest using cN with|none=>exact .inl ⟨rfl,rfl,h⟩|some _=>exact .inr ((by obtain⟨Z,a,_⟩:=h;exact⟨Z,a⟩))
 exact .inr ((by obtain⟨Z,a,_⟩:=h;exact⟨Z,a⟩))
theorem Fp:∀{a Z:List (Nat×Bool)}{j:Nat}{l l':List (Nat×Bool)}{r U:Option Nat}{e J:Nat}{tl iQ:List aa},fE c T l r e tl->fE H T l' U J iQ->bg c j a++tl=bg H j Z++iQ->a=Z/\tl=iQ/\(c≠H->a=[]/\tl=[]):=by
 intro a;induction a with|nil=>
  intro Z j l l' r U e J tl iQ h h' q;rcases Z with _|⟨p,a⟩
  .have q:tl=iQ:=q;refine⟨rfl,q,fun Q=>⟨rfl,?_⟩⟩;rcases h.cases with⟨_,_,x⟩|⟨t,x⟩;.exact x
   .rcases h'.cases with⟨_,_,y⟩|⟨t',y⟩;.rw[q,y]
    .rw[x,y]at q;exact ae (sz (gX q).1).2 Q
  .have q:tl=iP H j p::_:=q;rcases h.cases with⟨_,_,y⟩|⟨t',y⟩;.rw[y]at q;cases q
   .rw[y]at q;exact(Fo (gX q).1.symm).elim|cons p a X=>
  intro Z j l l' r U e J tl iQ h h' q;rcases Z with _|⟨O,Z⟩
  .have q:iP c j p::_=iQ:=q;rcases h'.cases with⟨_,_,y⟩|⟨t',y⟩;.rw[y]at q;cases q
   .rw[y]at q;exact(Fo (gX q).1).elim
  .have q:=gX q;have x:=OA q.1;have X:=X h h' q.2;exact⟨by rw[x.1,X.1],X.2.1,fun Q=>ae x.2 Q⟩
theorem OB{p q:Nat×Bool}(h:bc p=bc q):p=q:=BB (tn h 0 rfl rfl) (yA (td h 1 rfl rfl))
theorem Fs{p:Nat×Bool}{u8:Prop}(h:bc p=.ab [.int e,.int 2]):u8:=by obtain⟨i,o⟩:=p;cases o<;>exact ae (tn h 1 rfl rfl) (by decide)
theorem OC:∀{l l':List (Nat×Bool)}{r Z:Option Nat}{e X:Nat},l.map bc++bv r e=l'.map bc++bv Z X->l=l'/\r.isSome=Z.isSome/\(r.isSome=Y->e=X):=by
 intro l;induction l with|nil=>
  intro l' r Z e X h;rcases l' with _|⟨p,l'⟩
  .rcases r with _|m<;>rcases Z with _|m';.exact⟨rfl,rfl,nofun⟩
   .cases h
   .cases h
   .exact⟨rfl,rfl,fun _=>tn (gX h).1 0 rfl rfl⟩
  .rcases r with _|m;.cases h
   .exact Fs (gX h).1.symm|cons p l U=>
  intro l' r Z e X h;rcases l' with _|⟨C,l'⟩
  .rcases Z with _|m;.cases h
   .exact Fs (gX h).1
  .have h:=gX h;have U:=U h.2;exact⟨by rw[OB h.1,U.1],U.2⟩
theorem fE.cV(h:fE c T l r e tl)(h':fE H T l' J Q tl):l=l'/\r.isSome=J.isSome/\(r.isSome=Y->e=Q):=by
 have key:∀{U Z:Nat}{a b:aa},tl=[de c U]->tl=[de H Z]->T[U]?=D a->T[Z]?=D b->a=b:=fun x y z w=>by rw[x]at y;rw[(sz (gX y).1).1,w]at z;exact(b9 z).symm
 rcases l with _|⟨x,M⟩;.induction r using cN with
|none=>
  rw[show tl=[]from h]at h';rcases h'.cases with⟨a,b,_⟩|⟨_,a⟩;.rw[a,b];exact⟨rfl,rfl,nofun⟩
  .cases a|some m=>
  obtain⟨U,a,b⟩:=h;rcases l' with _|⟨O,E⟩;.induction J using cN with|none=>rw[show tl=[]from h']at a;cases a|some m'=>obtain⟨Z,X,b'⟩:=h';refine⟨rfl,rfl,fun _=>?_⟩;exact tn (key a X b b') 1 rfl rfl
  obtain⟨Z,X,b'⟩:=h';exact gM (key a X b b') rfl
 obtain⟨U,a,b⟩:=h;rcases l' with _|⟨O,C⟩;.induction J using cN with|none=>rw[show tl=[]from h']at a;cases a|some m'=>obtain⟨Z,X,b'⟩:=h';exact gM (key a X b b') rfl
 obtain⟨Z,X,b'⟩:=h';exact OC (aa.ab.inj (td (key a X b b') 1 rfl rfl))
theorem pB(h:m<8192)(h':m'<8192)(e:∀i,i<13->(m.testBit i=Y↔m'.testBit i=Y)):m=m':=Nat.eq_of_testBit_eq fun i=>by
 by_cases l:i<13;.exact uo.mpr (e i l)
 .have:∀{m:Nat},m<8192->m.testBit i=false:=fun h=>Nat.testBit_lt_two_pow (iW h (Nat.pow_le_pow_right (n:=2) (by decide) (kt l)));rw[this h,this h']
theorem PR.cV(h:PR T m l q)(h':PR T m' l Z):m=m':=pB h.lt h'.lt fun i l=>(h.dX i l).trans (h'.dX i l).symm
theorem MR.cV(h:MR T m t)(h':MR T m' t):m=m':=by obtain⟨l,a,b⟩:=h;obtain⟨l',Z,b'⟩:=h';have:=a.cV Z;clear Z;subst this;exact b.cV b'
theorem hW.cV{p p':Option (Int×Option Nat×Int)}(h:hW T p Z)(h':hW T p' Z):p=p':=by
 rcases p with _|⟨a,_|m,b⟩<;>rcases p' with _|⟨X,_|m',b'⟩;.rfl
 .rw[show Z=_ from h]at h';exact nomatch(show _=_ from h')
 .rw[show Z=_ from h]at h';obtain⟨t,h',_⟩:=h';exact nomatch h'
 .rw[show Z=_ from h']at h;exact nomatch(show _=_ from h)
 .rw[show Z=_ from h]at h';have h':aa.ab [.int a,.int (-1),.int b]=aa.ab [.int X,.int (-1),.int b']:=h';rw[aa.int.inj (td h' 0 rfl rfl),aa.int.inj (td h' 2 rfl rfl)]
 .rw[show Z=_ from h]at h';obtain⟨t,h',_⟩:=h';exact uY (aa.int.inj (td h' 1 rfl rfl))
 .rw[show Z=_ from h']at h;obtain⟨t,h,_⟩:=h;exact nomatch h
 .rw[show Z=_ from h']at h;obtain⟨t,h,_⟩:=h;exact uY (aa.int.inj (td h 1 rfl rfl))
 .obtain⟨t,h,x⟩:=h;obtain⟨t',h',y⟩:=h';rw[h]at h';rw[tn h' 1 rfl rfl]at x;rw[aa.int.inj (td h' 0 rfl rfl),aa.int.inj (td h' 2 rfl rfl),x.cV y]
theorem take_drop{l l':List O}(a:l.take n=l'.take Q)(b:l.drop n=l'.drop Q):l=l':=by rw[<-ku n l,a,b,ku]
theorem OD:∀m,m<8192->decide (m&&&gJ m=m/\(m≠0->m&&&j2 m aj≠0))=true:=kN (by decide+kernel)
theorem sA(h:m<8192)(Q:∀x,s=D x->g x x=0):gK g V (.mk m s) (.mk m s)=0:=by
 have J:=cK (OD m h);show(if m&&&4096≠0\/px (.mk m s)=Y then(0:Int)else if m&&&4096≠0/\V=4 then-1 else if m&&&2048≠0 then 0 else if m&&&4096≠0 then _ else if V=2 then(if m&&&j2 m (px (.mk m s))≠0\/0<=iN g s s then 0 else-1)else if m&&&gJ m≠m then-1 else if s.isNone=Y then 0 else iN g s s)=0;by_cases Z:m&&&4096≠0\/px (.mk m s)=Y;.exact af Z
 rw[am Z,am fun q=>Z (.inl q.1)];by_cases H:m&&&2048≠0;.exact af H
 have U:px (.mk m s)=false:=jJ.mpr fun q=>Z (.inr q);rw[am H,am fun q=>Z (.inl q),am (fun q=>q J.1:¬(m&&&gJ m≠m)),U];rcases s with _|x
 .have:m≠0:=fun e=>by rw[e]at U;cases U
  by_cases X:V=2;.rw[af X,af (.inl (J.2 this))]
  .rw[am X];exact af (rfl:(I:Option Sg).isNone=Y)
 have e:iN g (D x) (D x)=0:=Q x rfl;rw[e];by_cases X:V=2;.rw[af X,af (.inr (fS 0))]
 .rw[am X,am (fun q=>nomatch q:¬(D x).isNone=Y)]
theorem Ft(J:x.ps=[])(H:x.rest=I)(A:gK g V x.res x.res=0)(j:∀m,Nm m->gK g V (.mk m I) (.mk m I)=0)(d:kL md x):gB g V x x ay=0:=by
 obtain⟨ps,sp,rest,X,Z,C⟩:=x;have J:ps=[]:=J;have H:rest=none:=H;clear H;subst J H;have:jy g V ⟨[],sp,I,X,Z,C⟩ ⟨[],sp,I,X,Z,C⟩=0:=by
  show ite _ 0 _=0;clear J;rcases Z with _|⟨a,k,b⟩;.rw[show gK g V _ _=0 from A];exact ite_self 0
  .dsimp only;rw[am (fun q:a≠a\/b≠b=>q.elim (fun q=>q rfl) fun q=>q rfl)];rcases k with _|m;.exact ite_self 0
   dsimp only;rw[j m ((d.pred a _ b rfl).2.2.2.2 m rfl)];exact ite_self 0
 show restOf g V 0 _ _=0;unfold restOf;rw[this];rfl
theorem KR.cV:∀{n:Nat}{k O:Kd}{t:Nat},aT V n k->aT V n O->KR c T k t->KR c' T O t->k=O/\(c≠c'->∀V,V≠3->gK (fun x y=>gS V n x y aj) V k k=0):=fun{n}=>by induction n with|zero=>intro k O t w K h h';obtain⟨m,s⟩:=k;obtain⟨m',s'⟩:=O;obtain⟨w,rfl⟩:=w;obtain⟨_,rfl⟩:=K;refine cps fun P hP=>?_;obtain⟨l,q,a,b,d⟩:=h;obtain⟨l',q',A,b',g⟩:=h';refine hP ?_;have:=a.cV A;clear A g;subst this;rw[b.cV b'];exact⟨rfl,fun _ V _=>sA b'.lt fun x e=>nomatch e⟩|succ n ih=>
  intro k O t w K h h';obtain⟨m,s⟩:=k;obtain⟨m',s'⟩:=O;obtain⟨l,q,a,b,d⟩:=h;obtain⟨l',q',A,b',g⟩:=h';have:=a.cV A;clear A;subst this;have hm:=b.cV b';subst hm;rcases s with _|x;.induction s' using cN with|none=>exact⟨rfl,fun _ V _=>sA b.lt fun x e=>nomatch e⟩|some x'=>
   clear b';obtain⟨p,rfl,j,u⟩:=g;clear K;obtain⟨ps,sp,rest,J,X,fl⟩:=x';obtain⟨pl,e,rt,pd,tl,Z,_⟩:=u;rcases b.all p j with⟨i,hi,f,_,e⟩|e;.rw[e]at Z;exact ae (b9 Z) (mP hi)
   .rw[show q=I from d]at e;cases e
  obtain⟨p,rfl,j,u⟩:=d;rcases s' with _|x'
  .clear w;obtain⟨ps,sp,rest,J,X,fl⟩:=x;refine cps fun P hP=>?_;obtain⟨pl,e,rt,pd,tl,Z,_⟩:=u;refine hP ?_;rcases b'.all p j with⟨i,hi,f,_,e⟩|e;.rw[e]at Z;exact ae (b9 Z) (mP hi)
   .rw[show q'=I from g]at e;cases e
  obtain⟨p',rfl,jz,OE⟩:=g;have e:p=p':=by
   rcases b'.all p j with⟨i,hi,f,_,e⟩|e;.clear w;obtain⟨ps,sp,rest,J,X,fl⟩:=x;obtain⟨pl,_,rt,pd,tl,Z,_⟩:=u;rw[e]at Z;exact ae (b9 Z) (mP hi)
   .exact(b9 e).symm
  subst e;have v:=w.2 x rfl;have H:=K.2 x' rfl;obtain⟨ps,sp,rest,J,X,fl⟩:=x;obtain⟨yB,gC,yC,OF,B?,yz⟩:=x';obtain⟨pl,e,rt,pd,tl,h1,z,h3,h4,h5,h6⟩:=u;obtain⟨va,e',og,oh,iQ,E,Q,OG,yD,OH,U⟩:=OE;rw[h1]at E;obtain⟨ep,er,ed,ef⟩:=Fm (b9 E);subst er ed ef;obtain⟨ea,et,en⟩:=Fp h6 U ep;subst et;obtain⟨el,ei,ee⟩:=h6.cV U;have OI:=take_drop ea el;subst OI;have C:∀{c:Bool}{ps:List (Kd×Bool)}{pl:List (Nat×Bool)},dY c T ps pl->ps.length=pl.length:=fun{c ps}=>by induction ps with|nil=>intro pl h;rw[show pl=[]from h];rfl|cons p r ih=>intro pl h;obtain⟨i,is,rfl,_,h⟩:=h;exact aI (·+1) (ih h)
  have OJ:ps=yB:=by have h7:=v.2.2.1;have M:=H.2.2.1;dsimp only at h7 M;clear h1 h6 U ea el en ep E v H w K j jz b b';induction ps generalizing yB pl with|nil=>rw[show pl=[]from z]at Q;exact(nD (C Q)).symm|cons p r OK=>
   obtain⟨i,is,rfl,hk,Z⟩:=z;rcases yB with _|⟨p',r'⟩;. (have h:=(show _::_=[]from Q);contradiction)
   obtain⟨i',C',e',oi,vb⟩:=Q;injection e' with e1 e2;injection e1 with e3 e4;subst e2 e3;obtain⟨pk,po⟩:=p;obtain⟨OL,OM⟩:=p';have:=(ih (h7 (pk,po) aW) (M (OL,OM) aW) hk oi).1;rw[OK r' is Z vb (fun q hq=>h7 q (cI _ hq)) fun q hq=>M q (cI _ hq),BB this e4]
  subst OJ;have ON:sp=gC:=by have l1:=aI rV ea;rw[ie,ie,<-C z,mj v.2.1.sp,mj H.2.1.sp]at l1;exact l1
  subst ON;have OO:rest=yC:=by
   rcases rest with _|r;.induction yC using cN with|none=>rfl|some _=>cases ei
   induction yC using cN with|none=>cases ei|some r'=>have:=ee rfl;clear ee U;subst this;rw[MR.cV h4 yD]
  clear yD ei U K;subst OO;have OP:=h5.cV OH;subst OP;obtain⟨L,eg⟩:=ih v.2.2.2 H.2.2.2 h3 OG;have L:J=OF:=L;subst L;refine⟨rfl,fun ne V hm=>sA b.lt fun x e=>?_⟩;cases e;obtain⟨ea,OQ⟩:=en ne;rw[OQ]at h6;obtain⟨hd,Z,_⟩:pl.drop sp=[]/\rest=I/\_:=by
   rcases h6.cases with x|⟨_,x⟩;.exact x
   .cases x
  have sC:pl=[]:=by rw[<-ku sp pl,ea,hd];rfl
  rw[sC]at z;exact(am hm).trans (Ft (nD (C z)) Z (eg ne V hm) (fun m q=>sA q.1 fun x e=>nomatch e) v.2.1)
end
noncomputable def gA(i:Nat):Nat:=match i with|0=>3|1=>3|3=>4|4=>4|6=>2|7=>2|_=>1
theorem fB{p:Nat->Prop}(Z:p 0)(h:∀i,i<n->p (i+1))(i:Nat)(q:i<n+1):p i:=by
 rcases i with _|i;.exact Z
 exact h i (Nat.lt_of_succ_lt_succ q)
theorem vc{p:Nat->Prop}(J:p 0)(H:p 1)(Q:p 2)(O:p 3)(E:p 4)(C:p 5)(M:p 6)(L:p 7)(K:p 8)(A:p 9)(Z:p 10)(X:p 11)(U:p 12):∀i,i<13->p i:=fB J (fB H (fB Q (fB O (fB E (fB C (fB M (fB L (fB K (fB A (fB Z (fB X (fB U nofun))))))))))))
theorem pC{motive:(i:Nat)->i<13->Prop}(h0:motive 0 (cm rfl))(h1:motive 1 (cm rfl))(h2:motive 2 (cm rfl))(h3:motive 3 (cm rfl))(h4:motive 4 (cm rfl))(h5:motive 5 (cm rfl))(h6:motive 6 (cm rfl))(h7:motive 7 (cm rfl))(h8:motive 8 (cm rfl))(h9:motive 9 (cm rfl))(u4:motive 10 (cm rfl))(OS:motive 11 (cm rfl))(OT:motive 12 (cm rfl))(i:Nat)(h:i<13):motive i h:=vc (p:=fun i=>∀h,motive i h) (fun _=>h0) (fun _=>h1) (fun _=>h2) (fun _=>h3) (fun _=>h4) (fun _=>h5) (fun _=>h6) (fun _=>h7) (fun _=>h8) (fun _=>h9) (fun _=>u4) (fun _=>OS) (fun _=>OT) i h h
theorem qM{i f:Nat}(hi:i<13):∃r,bn i f=.ab (.int (gA i)::r)/\r.length<=2:=by refine vc (p:=fun i=>∃r,bn i f=.ab (.int (gA i)::r)/\r.length<=2) ?_ ?_ ?_ ?_ ?_ ?_ ?_ ?_ ?_ ?_ ?_ ?_ ?_ i hi;all_goals exact⟨_,rfl,cm rfl⟩
section
variable{T:List aa}
theorem di(e:d=.ab (.int g::r))(J:r.length<=7):cZ σ d (.int 0)=D (.int g):=by subst e;show lD _ _=_;exact gI (i:=0) rfl (by rw[iD];exact ax 409052758278145 rfl J)
inductive TV(c:Bool)(T:List aa)(t:Nat):Kd->Prop|jA:t=2->TV c T t (.mk 0 I)|lO(i f:Nat):i<13->f<2->t≠2->T[t]?=D (bn i f)->TV c T t (.mk (2^i) I)|dZ(x:Sg):t≠2->SR c T x t->TV c T t (.mk 0 (D x))|sD(l:List Nat)(q:Option Nat)(m:Nat)(s:Option Sg):t≠2->T[t]?=D (pu l)->2<=l.length->PR T m l q->dC c T s l q->TV c T t (.mk m s)
theorem SR.row{p:Nat}(h:SR c T x p):E4 fun ps rt Z X=>T[p]?=D (eC ps rt Z X):=by refine cps fun P J=>?_;obtain⟨ps,sp,rest,H,U,X⟩:=x;obtain⟨pl,e,rt,Z,tl,h,_⟩:=h;refine J ?_;exact⟨_,_,_,_,h⟩
theorem KR.vd{t:Nat}(h:KR c T K t):TV c T t K:=by
 obtain⟨m,s⟩:=K;obtain⟨l,q,a,b,d⟩:=h;rcases a with⟨a,Z⟩|⟨a,Z,X⟩|⟨a,Z,X⟩
 .subst Z;have U:m=0:=pB b.lt (by decide) fun i hi=>⟨fun q=>(by obtain⟨_,x,_⟩:=(b.dX i hi).mp q;exact(nomatch x)),fun q=>by rw[nH]at q;cases q⟩;clear b;subst U;rcases s with _|x;.exact .jA a
  obtain⟨p,_,x,_⟩:=d;cases x
 .exact .sD l q m s a Z X b d
 .subst Z;rcases s with _|x
  .cases show q=I from d;rcases b.all t aW with⟨i,hi,f,J,e⟩|e
   .have U:m=2^i:=pB b.lt (xn (by decide) hi) fun j H=>by rw[b.dX j H,jm];exact⟨(by rintro⟨p,x,y⟩;exact aN (by rw[ba.mp x]at y;exact At.cV hi H ⟨f,J,e⟩ y)),fun x=>⟨t,aW,cK x▸⟨f,J,e⟩⟩⟩
    rw[U];exact .lO i f hi J a e
   .cases e
  obtain⟨p,rfl,O,Q⟩:=d;cases ba.mp O;have U:m=0:=pB b.lt (by decide) fun i hi=>⟨fun q=>(by obtain⟨p,x,f,_,y⟩:=(b.dX i hi).mp q;obtain⟨_,_,_,_,e⟩:=Q.row;rw[ba.mp x,e]at y;exact ae (b9 y).symm (mP hi)),fun q=>by rw[nH]at q;cases q⟩;rw[U];exact .dZ x a Q
theorem Fu{p:Nat}:∀i,i<13->eX i=Y->∀x∈[p],T[x]?=D (bn i 1)->∀X∈[p],T[X]?≠D (bn i 0):=fun i hi O x E e X Z U=>by rw[ba.mp E]at e;rw[ba.mp Z,e]at U;exact Fj hi hi O (b9 U)
theorem qN{p i:Nat}(hi:i<13)(hT:cH<+:T)(h:At T p i):KR c T (.mk (2^i) I) p:=by
 obtain⟨f,hf,e⟩:=h;refine⟨[p],I,.inr (.inr ⟨fun q=>?_,rfl,fun x y=>?_⟩),⟨fh.mpr ⟨bK,jP⟩,xn (by decide) hi,fun j hj=>?_,fun q hq=>.inl ⟨i,hi,f,hf,ba.mp hq▸e⟩,Fu⟩,rfl⟩;.subst q;have:=fM hT e rfl;exact(by decide+kernel:∀i,i<13->∀f,f<2->bn i f≠dJ "never") i hi f hf this
 .rw[e]at y;exact u9 hi (b9 y)
 .rw[jm];exact⟨fun x=>⟨p,aW,cK x▸⟨f,hf,e⟩⟩,fun⟨q,x,y⟩=>aN (by rw[ba.mp x]at y;exact At.cV hi hj ⟨f,hf,e⟩ y)⟩
theorem ve{p:Nat}{x:Sg}(Z:cH<+:T)(h:SR c T x p):KR c T (.mk 0 (D x)) p:=by
 obtain⟨_,_,_,_,e⟩:=h.row;refine⟨[p],D p,.inr (.inr ⟨fun q=>?_,rfl,fun x y=>?_⟩),⟨fh.mpr ⟨bK,jP⟩,by decide,fun j X=>?_,fun q U=>.inr (by rw[ba.mp U]),Fu⟩,⟨p,rfl,aW,h⟩⟩;.clear h;subst q;exact gM (fM Z e rfl) rfl
 .rw[e]at y;exact gM (b9 y) rfl
 .rw[nH];refine⟨nofun,fun⟨q,x,f,_,y⟩=>?_⟩;rw[ba.mp x,e]at y;exact ae (b9 y).symm (mP X)
theorem qO:MR T m t↔KR c T (.mk m I) t:=⟨(by rintro⟨l,a,b⟩;exact⟨l,I,a,b,rfl⟩),fun⟨l,q,a,b,d⟩=>by cases show q=I from d;exact⟨l,a,b⟩⟩
theorem KR.pa(h:KR c T K t):E2 fun l q=>A3 (Pa T t l) (PR T K.m l q) (dC c T K.s l q):=by obtain⟨m,s⟩:=K;obtain⟨l,q,a⟩:=h;exact⟨l,q,a⟩
theorem KR.gQ{t:Nat}(U:cH<+:T)(h:KR c T K t):t<T.length:=by have:∀{d},T[t]?=D d->t<T.length:=fun e=>(bp.mp e).1;induction h.vd using TV.casesOn with|jA e=>exact this (d:=dJ "never") (by rw[e];exact bX U rfl)|lO i f _ _ _ e=>exact this e|dZ x _ J=>obtain⟨_,_,_,_,e⟩:=J.row;exact this e|sD l q m s _ e=>exact this e
theorem yE(h:Tb A b T σ)(H:Pa T t l)(v:∀d,l=[t]->T[t]?=D d->E2 fun(g:Nat)(r:List aa)=>A3 (d=.ab (.int g::r)) (r.length<=7) (g≠6))(U:t<T.length)(X:k (.ab (aZ l)) σ):CW (n+1) 20 [.ref A.az,.int t] σ k:=by
 refine Ef ?_;rcases H with⟨e,Z⟩|⟨e,Z,_⟩|⟨e,Z,Q⟩;.clear v U;subst e Z;exact X
 .refine bD (fun q=>ae (dr q) e) fun _=>?_;refine h.eD Z ?_;exact X
 .subst Z;refine bD (fun q=>ae (dr q) e) fun _=>?_;obtain⟨d,J⟩:∃d,T[t]?=D d:=⟨_,dL U⟩;refine cps fun P O=>?_;obtain⟨g,r,rfl,E,C⟩:=v d rfl J;refine O ?_;refine h.eD J ?_;apply o (di rfl E);exact bD (fun q=>ae (dr q) C) fun _=>X
theorem KR.head{K:Kd}(X:PR T K.m l q)(U:dC c T K.s l q):∀d,l=[t]->T[t]?=D d->E2 fun(g:Nat)(r:List aa)=>A3 (d=.ab (.int g::r)) (r.length<=7) (g≠6):=fun d e Z=>by
 rcases X.all t (by rw[e];exact aW)with⟨i,hi,f,_,y⟩|y;.rw[Z]at y;clear Z;cases y;obtain⟨r,e,J⟩:=qM (f:=f) hi;refine⟨gA i,r,e,ax 227667202048 rfl J,?_⟩;intro q;have:=pA (i:=i) (f:=f);rw[e,q]at this;exact ae (show(6:Int)<6 from this) (by decide)
 .obtain⟨ps,rt,H,Q,y⟩:=dC.dZ (T:=T) U t y;rw[Z]at y;clear Z;cases y;exact⟨13,_,rfl,cm rfl,by decide⟩
theorem pD(h:Tb A b T σ)(Z:KR c T K t)(X:∀l q,Pa T t l->PR T K.m l q->dC c T K.s l q->k (.ab (aZ l)) σ):CW (n+1) 20 [.ref A.az,.int t] σ k:=by obtain⟨l,q,a,b,d⟩:=Z.pa;exact yE h a (KR.head b d) (Z.gQ h.base) (X l q a b d)
theorem OU{t i f:Nat}(h:Tb A b T σ)(e:T[t]?=D (bn i f))(hi:i<13)(X:k (.bool (eX i)) σ):CW (n+1) 28 [.ref A.az,.int t] σ k:=by refine qH ?_;refine h.eD e ?_;clear h e;obtain⟨r,e,Z⟩:=qM (f:=f) hi;apply o (di e (ax 227667202048 rfl Z));clear e Z;induction i,hi using pC;all_goals exact X
end
theorem j3(al:List aa->Lc->AH->Prop)(X:∀r lc σ,al r lc σ->lF g σ)(U:∀lc σ,al [] lc σ->kn lc σ)(J:∀x r lc σ(K:Kn),al (x::r) lc σ->(∀lc σ,al r lc σ->K lc σ)->gO (fj lc t x) fun Z=>b Z σ K):∀{xs:List aa}{lc:Lc}{σ:AH},al xs lc σ->pf g t b xs lc σ kn:=by intro xs;induction xs with|nil=>intro lc σ h;exact⟨X _ _ _ h,U lc σ h⟩|cons x r H=>intro lc σ h;exact⟨X _ _ _ h,J x r lc σ _ h fun lc σ h=>H h⟩
theorem qP(al:List aa->List aa->Lc->AH->Prop)(J:∀a r lc σ,al a r lc σ->lF g σ)(Q:∀a lc σ,al a [] lc σ->k (.ref σ.length) (σ++[.list a]))(O:∀x r a lc σ(K:List aa->Lc->AH->Prop),al a (x::r) lc σ->(∀a lc σ,al a r lc σ->K a lc σ)->gO (fj lc t x) fun Z=>c Z σ fun b σ=>br b (e Z σ fun v σ=>K (a++[v]) Z σ) (K a Z σ)):∀{xs a:List aa}{lc:Lc}{σ:AH},al a xs lc σ->jY g t c e xs a lc σ k:=by intro xs;induction xs with|nil=>intro a lc σ h;exact⟨J _ _ _ _ h,Q a lc σ h⟩|cons x r E=>intro a lc σ h;exact⟨J _ _ _ _ h,O x r a lc σ (fun a lc σ=>jY g t c e r a lc σ k) h fun a lc σ h=>E h⟩
noncomputable def gD(P:List Nat):List (aa×aa):=P.map fun(p:Nat)=>(.int p,.int 1)
noncomputable def gR(P:List Nat)(p:Nat):List Nat:=if p∈P then P else P++[p]
theorem qQ{p q:Nat}:q∈gR P p↔q∈P\/q=p:=by
 unfold gR;by_cases h:p∈P;.rw[af h];exact⟨.inl,fun x=>x.elim id fun e=>e▸h⟩
 .rw[am h,dI,ba]
theorem vf{p:Nat}(h:P.Nodup):(gR P p).Nodup:=by
 unfold gR;by_cases q:p∈P;.rw[af q];exact h
 .rw[am q];exact oV.mpr ⟨h,fh.mpr ⟨bK,jP⟩,fun a Z b X e=>q (by rw[ba.mp X]at e;exact e▸Z)⟩
theorem j4{a b:Nat}(h:aa.int (a:Int)=aa.int (b:Int)):a=b:=dr (aa.int.inj h)
theorem OV:∀{P:List Nat}{p:Nat},eR (gD P) (.int p) (.int 1)=gD (gR P p):=by intro P;induction P with|nil=>intro p;exact rfl|cons x r Z=>
  intro p;show(if aa.int x=aa.int p then(aa.int x,aa.int 1)::gD r else(aa.int x,aa.int 1)::eR (gD r) (.int p) (.int 1))=_;rw[Z];unfold gR;by_cases e:x=p;.subst e;rw[af rfl,af aW];rfl
  .rw[am fun q=>e (j4 q)];by_cases m:p∈r;.rw[af m,af (cI _ m)];rfl
   .rw[am m,am fun q=>(ce.mp q).elim (fun q=>e q.symm) m];rfl
theorem OW:∀{P:List Nat}{z:Int},(ca (gD P) (.int z)).isSome=decide (∃p:Nat,p∈P/\(p:Int)=z):=by intro P;induction P with|nil=>intro z;rw[bS ((by rintro⟨_,h,_⟩;exact nomatch h))];rfl|cons x r Z=>
intro z;show(if aa.int x=aa.int z then D (aa.int 1)else ca (gD r) (.int z)).isSome=_;by_cases e:(x:Int)=z;.rw[af (aI aa.int e),aN ⟨x,aW,e⟩];rfl
.rw[am (fun q=>e (aa.int.inj q)),Z];exact iF.mpr ⟨(by rintro⟨p,a,b⟩;exact⟨p,cI _ a,b⟩),(by rintro⟨p,a,b⟩;exact(ce.mp a).elim (fun q=>ae (q▸b) e) fun a=>⟨p,a,b⟩)⟩
theorem Fv:dd (gD P) (.int z)=true:=by unfold dd gD;rw[KD];refine fe.mpr ⟨rfl,fR.mpr fun x _=>rfl⟩
theorem sF(h:σ[i]?=D (.dict (gD P))):io σ (.int z) (.ref i)=D (decide (∃p:Nat,p∈P/\(p:Int)=z)):=by rw[pp h Fv,OW]
theorem mQ{p:Nat}(h:σ[i]?=D (.dict (gD P))):io σ (.int p) (.ref i)=D (decide (p∈P)):=by rw[sF h];exact aI D (iF.mpr ⟨(by rintro⟨q,a,b⟩;exact dr b▸a),fun a=>⟨p,a,rfl⟩⟩)
theorem yF{p:Nat}(h:σ[i]?=D (.dict (gD P)))(X:P.length<av)(U:i≠0):i6 σ i (.int p) (.int 1)=D (σ.set i (.dict (gD (gR P p)))):=by rw[mM h Fv (by unfold gD;rw[aJ];exact X) U,OV]
theorem Fw:∀{x:Nat}{S:List Nat},∃Z:List Nat,nW (x:Int) (S.map fun(n:Nat)=>(n:Int))=Z.map (fun(n:Nat)=>(n:Int))/\Z.Perm (x::S)
|x,[]=>⟨[x],rfl,.refl _⟩|x,y::r=>by
 obtain⟨Z,a,b⟩:=Fw (x:=x) (S:=r);by_cases h:(x:Int)<=y;.exact⟨x::y::r,af h,.refl _⟩
 .exact⟨y::Z,(am h).trans (aI ((y:Int)::·) a),(b.cons y).trans (O? x y r)⟩
theorem OX:∀{P:List Nat},∃S:List Nat,jW (P.map fun(n:Nat)=>(n:Int))=S.map (fun(n:Nat)=>(n:Int))/\S.Perm P:=by intro P;induction P with|nil=>exact⟨[],rfl,.refl _⟩|cons x r Z=>refine cps fun P X=>?_;obtain⟨S,a,b⟩:=Z;obtain⟨U,c,d⟩:=Fw (x:=x) (S:=S);refine X ?_;exact⟨U,(aI (nW (x:Int)) a).trans c,d.trans (b.cons x)⟩
theorem OY:∀{P:List Nat},ju ((gD P).map (·.1))=D (P.map fun(n:Nat)=>(n:Int)):=by intro P;induction P with|nil=>exact rfl|cons x r Z=>exact aI (KE ((x:Int)::·)) (Z)
theorem OZ(h:σ[i]?=D (.dict (gD P)))(X:P.length<60):∃S,S.Perm P/\iI .sorted σ [.ref i]=D (.ref σ.length,σ++[.list (aZ S)]):=by obtain⟨S,a,b⟩:=OX (P:=P);refine⟨S,b,?_⟩;show qC σ (.ref i)=_;unfold qC;dsimp only;rw[h];show(ju ((gD P).map (·.1))).bind _=_;rw[OY,qh,aJ,af X,a,BC];rfl
section
theorem Fx(h:Tb A (b+u) T σ)(U:row∉T->ms (T++[row])+1<=ms T+u)(J:eG row=Y)(H:ci row=2)(Q:∀(t:Nat)T' Z,Tb A b T' Z->T<+:T'->T'[t]?=D row->Fr A.aQ σ Z->k (.int t) Z):dt WD (CW (n+1)) 7 A.az σ σ [row] k:=by refine cps fun P O=>?_;obtain⟨f,E,X⟩:=h.ct;refine O ?_;exact o E ⟨X,Ov h U J H Q⟩
theorem mR(h:Tb A (b+1) T σ)(X:eG row=Y)(U:ci row=2)(J:∀(t:Nat)T' Z,Tb A b T' Z->T<+:T'->T'[t]?=D row->Fr A.aQ σ Z->k (.int t) Z):dt WD (CW (n+1)) 7 A.az σ σ [row] k:=Fx h (fun _=>Ou) X U J
theorem eE(h:Tb A b T σ)(Z:k v σ):dt WD (CW (n+1)) 22 A.bd σ σ [v] k:=o h.ch ⟨rfl,Nh Z⟩
theorem O0(h:Tb A b T σ)(X:eG row=Y)(Z:ci row=2):uN 3 (dW 0 T) σ [row,d]=D ((ca (dW 0 T) row).getD d,σ):=af (by rw[h.dd X Z,Z];rfl)
theorem qR(hi:i<13)(hf:f<2):eG (bn i f)=Y/\ci (bn i f)=2:=(by decide+kernel:∀i,i<13->∀f,f<2->eG (bn i f)=Y/\ci (bn i f)=2) i hi f hf
theorem O1{t i f:Nat}(h:Tb A b T σ)(e:T[t]?=D (bn i f))(hi:i<13)(hf:f<2)(hk:∀z:Int,((z=-1/\(eX i=Y->f=1->∀t':Nat,T[t']?≠D (bn i 0)))\/∃t':Nat,A4 (z=t') (eX i=Y) (f=1) (T[t']?=D (bn i 0)))->k (.int z) σ):CW (n+1) 22 [.ref A.az,.int t] σ k:=by
 refine Eh ?_;refine h.eD e ?_;have fp:eX i=Y->f=1->∀z,ca (dW 0 T) (bn i 0)=z->k (z.getD (.int (-1))) σ:=fun hl hf z hz=>by
  rcases z with _|v;.exact hk (-1) (.inl ⟨rfl,fun _ _ t' e=>yv hz (jQ e)⟩)
  obtain⟨j,h3,rfl⟩:=yu hz;rw[gj];exact hk j (.inr ⟨j,rfl,hl,hf,h3⟩)
 have O2:(aa.int (f:Int)=aa.int 1)=(f=1):=propext ⟨fun q=>j4 q,fun q=>by rw[q];rfl⟩;obtain⟨fl,ct,C?⟩:=h.ct;have hj:=hi;clear e;induction i,hi using pC;case h0|h1|h3|h4|h6|h7=>refine bD (fun q=>?_) fun q=>hk (-1) (.inl ⟨rfl,fun _ e=>ae (O2.mpr e) (fun e=>q (aa.int.inj e))⟩);apply o h.yw;apply o h.cx;apply o (pq h.cx);apply p (O0 h (qR (f:=0) hj (by decide)).1 (qR (f:=0) hj (by decide)).2);exact fp rfl (dr q) _ rfl
 all_goals exact hk (-1) (.inl ⟨rfl,nofun⟩)
end
theorem O3[DecidableEq X]:∀{l l':List X},l.Nodup->(∀x,x∈l->x∈l')->l.length<=l'.length:=by intro l;induction l with|nil=>intro l' _ _;exact bQ _|cons a l U=>intro l' h s;have h:=fh.mp h;have:=U (l':=l'.erase a) h.2 fun x Z=>(List.mem_erase_of_ne fun(e:x=a)=>h.1 (e▸Z)).mpr (s x (cI _ Z));rw[List.length_erase_of_mem (s a aW)]at this;exact Nat.add_le_of_le_sub (List.length_pos_of_mem (s a aW)) this
noncomputable def wh(i:Nat):Int:=match i with|0=>6|1=>6|3=>7|4=>7|_=>-1
theorem yG(hi:i<13)(hj:j<13)(hf:f<2)(hg:g<2)(l:eX i=Y)(e:bn j g=bn i f):f=g/\i=j:=by have:=Fk hj hi hg hf e;subst this;exact⟨(by decide+kernel:∀i,i<13->∀f,f<2->∀g,g<2->eX i=Y->bn i g=bn i f->f=g) j hi f hf g hg l e,rfl⟩
structure PS(T:List aa)(P:List Nat)(q:Option Nat):Prop where
all:∀p∈P,(∃i,i<13/\At T p i)\/q=D p
dZ:∀p,q=D p->p∈P/\E4 fun ps rt pd fl=>T[p]?=D (eC ps rt pd fl)
section
variable{P:List Nat}
theorem PS.len(h:PS T F q)(J:T.Nodup)(nd:P.Nodup)(X:∀p∈P,p∈F):P.length<=27:=by
 have inj:(P.map fun p=>T[p]?).Nodup:=by
  refine List.pairwise_map.mpr (P? ?_ nd);intro a b Z H Q e;refine Q ?_;have U:∀{a},a∈P->a<T.length:=fun{a}Z=>by
   rcases h.all a (X a Z)with⟨_,_,_,_,e⟩|e;.exact(bp.mp e).1
   .obtain⟨_,_,_,_,_,e⟩:=h.dZ a e;exact(bp.mp e).1
  rw[dL (U Z),dL (U H)]at e;exact(xo J).mp (b9 e)
 have:=O3 (l':=(q.bind fun p=>T[p]?)::(((iV 13).map fun i=>D (bn i 0))++(iV 13).map fun i=>D (bn i 1))) inj fun x O=>by
  obtain⟨p,E,rfl⟩:=gZ.mp O;rcases h.all p (X p E)with⟨i,hi,f,C,e⟩|e
  .refine cI _ ?_;rw[e,dI];clear e;induction f,C using yn;.exact .inl (gZ.mpr ⟨i,BD.mpr hi,rfl⟩)
   .exact .inr (gZ.mpr ⟨i,BD.mpr hi,rfl⟩)
  .rw[e];exact aW
 rw[aJ]at this;exact this
theorem Tb.yH(h:cH<+:T)(nd:T.Nodup){t i:Nat}(e:T[t]?=D d)(Z:cH[i]?=D d):t=i:=by have l2:=(bp.mp (bX h Z));obtain⟨v,x⟩:=((bp.mp e));obtain⟨w,y⟩:=l2;exact(xo nd).mp (x.trans y.symm)
theorem sG(hi:i<13)(Z:k (.int (wh i)) σ):CW (n+1) 21 [bn i f] σ k:=by refine Eg ?_;induction i,hi using pC;all_goals exact Z
theorem O4(Z:k (.int (-1)) σ):CW (n+1) 21 [eC ps rt X U] σ k:=Eg Z
theorem O5{g p:Nat}(h:Tb A b T σ)(C:PS T P q)(J:σ[g]?=D (.dict (gD P)))(M:p∈P)(L:∀p∈P,∀i,i<13->At T p i->∀w:Nat,wh i=w->w∉P)(Q:∀b:Bool,(b=aj->∃i,A4 (i<13) (eX i=Y) (T[p]?=D (bn i 1)) (∃t'∈P,T[t']?=D (bn i 0)))->(b=Y->∀i,i<13->eX i=Y->T[p]?=D (bn i 1)->∀t'∈P,T[t']?≠D (bn i 0))->k (.bool b) σ):CW (n+2) 24 [.ref A.az,.ref g,.int p] σ k:=by
 refine M9 ?_;have Z:¬∃p:Nat,p∈P/\(p:Int)=-1:=(by rintro⟨p,_,e⟩;exact uY e.symm);rcases C.all p M with⟨i,hi,f,U,e⟩|e
 .apply O1 h e hi U;intro z hz;apply o (sF J);refine bE (fun x=>?_) fun x=>?_
  .rcases hz with⟨hz,_⟩|⟨t',hz,H,U,K⟩;.subst hz;exact ae x Z
   .subst hz U;refine cps fun P d=>?_;obtain⟨y,O,X⟩:=x;refine d ?_;cases dr X;exact Q aj (fun _=>⟨i,hi,H,e,t',O,K⟩) nofun
  .refine h.eD e ?_;apply sG hi;apply o (sF J);have:¬∃p:Nat,p∈P/\(p:Int)=wh i:=(by rintro⟨w,r,X⟩;exact L p M i hi ⟨f,U,e⟩ w X.symm r);rw[bS this];refine Q Y nofun fun _ j u H e2 t' E e3=>?_;rw[e]at e2;clear e this;obtain⟨rfl,rfl⟩:=yG u hi (by decide) U H (b9 e2);rcases hz with⟨_,hz⟩|⟨c,hz,_,_,m⟩;.exact hz H rfl t' e3
   .subst hz;refine x ⟨t',E,?_⟩;obtain⟨v,a⟩:=bp.mp e3;obtain⟨w,b⟩:=bp.mp m;rw[(xo h.nd).mp (a.trans b.symm)]
 .obtain⟨_,ps,rt,t,s,e⟩:=C.dZ p e;apply Eh;refine h.eD e ?_;apply o (sF J);refine bE (fun x=>ae x Z) fun x=>?_;refine h.eD e ?_;apply O4;apply o (sF J);rw[bS Z];exact Q Y nofun fun _ i hi _ X=>by rw[e]at X;exact ae (b9 X).symm (mP hi)
theorem O6(Z:σ[g]?=D (.dict (gD P)))(X:13∉P)(J:0∈P->k (.int 0) σ)(H:0∉P->1∈P->k (.int 1) σ)(Q:0∉P->1∉P->k (.int (-1)) σ):CW (n+1) 25 [.ref g] σ k:=by refine Na ?_;refine⟨trivial,?_⟩;apply o (mQ (p:=0) Z);refine bE J fun U=>⟨trivial,?_⟩;apply o (mQ (p:=13) Z);refine bE (fun x=>ae x X) fun _=>⟨trivial,?_⟩;apply o (mQ (p:=1) Z);exact bE (H U) fun a1=>⟨trivial,Q U a1⟩
end
section
theorem qS:(σ++[x]).set σ.length y=σ++[y]:=by rw[KG _ _ (aE _),jN];rfl
theorem vg:aZ a++[.int x]=aZ (a++[x]):=by unfold aZ;rw[g7];rfl
theorem jB:(aZ a).length=a.length:=by unfold aZ;rw[aJ]
theorem O7(O:P.length<=27)(nd:P.Nodup)(A:0<σ.length)(L:∀J,J.Nodup->(∀p,p∈P->p∈J)->(∀p∈J,p∈P\/(p=8/\(8∈P\/14∈P))\/(p=9/\(9∈P\/15∈P)))->k .none (σ++[.dict (gD J)])):CW (n+1) 23 [.ref σ.length] (σ++[.dict (gD P)]) k:=by
 refine M8 ?_;have E:k .none (σ++[.dict (gD P)]):=L P nd (fun _ a=>a) fun _ a=>.inl a;have bV:(8∈P\/14∈P)->(9∈P\/15∈P)->k .none (σ++[.dict (gD (gR (gR P 8) 9))]):=fun a b=>L _ (vf (vf nd)) (fun p X=>qQ.mpr (.inl (qQ.mpr (.inl X)))) fun p X=>(qQ.mp X).elim (fun X=>(qQ.mp X).elim .inl fun e=>.inr (.inl ⟨e,a⟩)) fun e=>.inr (.inr ⟨e,b⟩);have U:σ.length≠0:=ax 691524489222 rfl A;have l2:(gR P 8).length<av:=by
  unfold gR av;split;.exact ax 951133426241537 rfl O
  .rw[aU,qg];exact ax 0xd843408045a0001 rfl O
 have H:i6 (σ++[.dict (gD P)]) σ.length (.int 8) (.int 1)=D (σ++[.dict (gD (gR P 8))]):=(yF (p:=8) aS (ax 951133426241537 rfl O) U).trans (by rw[qS]);have Q:i6 (σ++[.dict (gD (gR P 8))]) σ.length (.int 9) (.int 1)=D (σ++[.dict (gD (gR (gR P 8) 9))]):=(yF (p:=9) aS l2 U).trans (by rw[qS]);apply o (mQ (p:=8) aS);refine bE (fun a=>?_) fun a=>?_
 .apply o (mQ (p:=9) aS);refine bE (fun b=>?_) fun b=>?_;.apply o H;apply o Q;exact bV (.inl a) (.inl b)
  .apply o (mQ (p:=15) aS);refine bE (fun b=>?_) fun b=>E;apply o H;apply o Q;exact bV (.inl a) (.inr b)
 .apply o (mQ (p:=14) aS);refine bE (fun a=>?_) fun a=>E;apply o (mQ (p:=9) aS);refine bE (fun b=>?_) fun b=>?_;.apply o H;apply o Q;exact bV (.inr a) (.inl b)
  .apply o (mQ (p:=15) aS);refine bE (fun b=>?_) fun b=>E;apply o H;apply o Q;exact bV (.inr a) (.inr b)
structure sH(T:List aa)(t:Nat)(l:List Nat):Prop where
nd:l.Nodup
pa:Pa T t l
lt:t<T.length
hd:∀d,l=[t]->T[t]?=D d->E2 fun(g:Nat)(r:List aa)=>A3 (d=.ab (.int g::r)) (r.length<=7) (g≠6)
theorem KR.yI(Z:cH<+:T)(h:KR c T K t):E2 fun l q=>A3 (sH T t l) (PR T K.m l q) (dC c T K.s l q):=by obtain⟨l,q,a,b,d⟩:=h.pa;exact⟨l,q,⟨b.nd,a,h.gQ Z,KR.head b d⟩,b,d⟩
inductive oj(T:List aa):List Nat->List (List Nat)->Prop|nil:oj T [] []|cons{t ts l ls}:sH T t l->oj T ts ls->oj T (t::ts) (l::ls)
theorem O8:∀m,m<8192->decide (m&&&6144=0->c4 m=m->(m.testBit 0=Y\/m.testBit 1=Y->m.testBit 2=aj)/\(m.testBit 3=Y\/m.testBit 4=Y->m.testBit 5=aj))=true:=kN (by decide+kernel)
theorem O9:∀m,m<8192->decide ((m.testBit 12=Y->c4 m=4096)/\(m.testBit 12=aj->m.testBit 11=Y->c4 m=2048)/\(m.testBit 12=aj->m.testBit 11=aj->m&&&6144=0))=true:=kN (by decide+kernel)
theorem Pb:eG (pu K)=true:=by show(Y&&(kF 4 (aZ K)&&Y))=Y;rw[KH,lh];induction K with|nil=>rfl|cons x r Z=>exact Z
end
section
theorem Tb.pos(h:Tb A b T σ):0<σ.length:=by have:=(bp.mp h.cr).1;exact aC 709778608129 rfl this
structure Pc(T:List aa)(ls:List (List Nat))(m:Nat)(q:Option Nat):Prop where
ps:PS T ls.flatten q
lt:m<8192
dX:∀i,i<13->(m.testBit i=Y↔∃p∈ls.flatten,At T p i)Pd:m&&&6144=0->c4 m=m
def pE(T:List aa)(m:Nat)(q:Option Nat)(t:Nat):Prop:=∃l,A3 (Pa T t l) (PR T (c4 m) l (if c4 m&&&6144≠0 then I else q)) (∀p,(if c4 m&&&6144≠0 then I else q)=D p->p∈l)
theorem yJ(h:Tb A (b+1) T σ)(C:Pc T ls m q)(hL:oj T ts ls)(Pe:sk (σ++[.dict []]) H=D (aZ ts,gg))(yK:∀x,lF gg (σ++[x]))(hk:∀t T' X,Tb A b T' X->T<+:T'->Fr A.aQ σ X->pE T' m q t->k (.int t) X):CW (n+3) 26 [.ref A.az,H] σ k:=by
 have Pf:σ.length≠0:=by have:=h.pos;exact ax 691524489222 rfl this
 have D':σ[σ.length]?=none:=jo (aE _);refine Nb ?_;apply o Pe;refine j3 (fun r lc X=>E5 fun v3 v4 P z s=>A6 (r=aZ z) (oj T z s) (lc=[D (.ref A.az),D H,D (.ref σ.length),v3,v4,I,I,I]) (X=σ++[.dict (gD P)]) P.Nodup (∀p,(p∈P\/p∈s.flatten)↔p∈ls.flatten)) ?_ ?_ ?_ ⟨I,I,[],ts,ls,rfl,hL,rfl,rfl,jP,fun p=>⟨fun x=>x.elim (nomatch·) id,.inr⟩⟩;.rintro r lc X⟨v3,v4,P,z,s,_,_,_,rfl,_⟩;exact yK _
 .rintro lc X⟨v3,v4,P,z,s,E,Z,rfl,rfl,nd,U⟩;induction Z using oj.casesOn with|cons=>cases E|nil=>
  have U:∀p,p∈P↔p∈ls.flatten:=fun p=>⟨fun x=>(U p).mp (.inl x),fun x=>((U p).mpr x).elim id (nomatch·)⟩;have nF:∀t:Nat,(∀i,i<13->∀f,f<2->T[t]?≠D (bn i f))->(∀ps rt pd fl,T[t]?≠D (eC ps rt pd fl))->t∉P:=fun t h1 h2 ht=>by
   rcases C.ps.all t ((U t).mp ht)with⟨i,hi,f,hf,e⟩|e;.exact h1 i hi f hf e
   .obtain⟨_,_,_,_,_,e⟩:=C.ps.dZ t e;exact h2 _ _ _ _ e
  have yL:m.testBit 12=Y↔0∈P:=(C.dX 12 (by decide)).trans ⟨(by rintro⟨p,Z,f,_,e⟩;exact(U 0).mpr (Tb.yH h.base h.nd (i:=0) e rfl▸Z)),fun Z=>⟨0,(U 0).mp Z,0,by decide,bX h.base rfl⟩⟩;have Fy:m.testBit 11=Y↔1∈P:=(C.dX 11 (by decide)).trans ⟨(by rintro⟨p,Z,f,_,e⟩;exact(U 1).mpr (Tb.yH h.base h.nd (i:=1) e rfl▸Z)),fun Z=>⟨1,(U 1).mp Z,0,by decide,bX h.base rfl⟩⟩;have dz:=cK (O9 m C.lt);have Pg:13∉P:=nF 13 (fun i hi f hf e=>by have:=fM h.base e rfl;exact(by decide+kernel:∀i,i<13->∀f,f<2->bn i f≠dJ "error") i hi f hf this) fun ps rt pd fl e=>gM (fM h.base e rfl) rfl;have Fz:∀i,i<13->c4 m=2^i->2^i&&&6144≠0->∀t,At T t i->pE T m q t:=fun i hi e ht t Q=>by unfold pE;rw[e,af ht];obtain⟨l,x,y⟩:=(qO (c:=aj)).mpr (qN hi h.base Q);exact⟨l,x,y,nofun⟩
  apply O6 aS Pg;.intro h0;exact hk 0 T _ (h.le (dh b)).cp (dg T) .new (Fz 12 (by decide) (dz.1 (yL.mpr h0)) (by decide) 0 ⟨0,by decide,bX h.base rfl⟩)
  .intro h0 h1;have Ph:m.testBit 12=false:=jJ.mpr fun e=>h0 (yL.mp e);exact hk 1 T _ (h.le (dh b)).cp (dg T) .new (Fz 11 (by decide) (dz.2.1 Ph (Fy.mpr h1)) (by decide) 1 ⟨0,by decide,bX h.base rfl⟩)
  .intro h0 h1;have Pi:m.testBit 11=false:=jJ.mpr fun e=>h1 (Fy.mp e);have m0:=dz.2.2 (jJ.mpr fun e=>h0 (yL.mp e)) Pi;have nm:=C.Pd m0;have nl:=cK (O8 m C.lt) m0 nm;have eT:∀{i:Nat}{d:aa},cH[i]?=D d->T[i]?=D d:=fun e=>bX h.base e;have yM:∀{T':List aa}{t:Nat}{K:List Nat},Pa T' t K->PR T' m K q->(∀p,q=D p->p∈K)->pE T' m q t:=fun a b d=>by unfold pE;rw[nm,am (fun q=>q m0:¬(m&&&6144≠0))];exact⟨_,a,b,d⟩
   apply O7 (C.ps.len h.nd nd fun p Z=>(U p).mp Z) nd h.pos;intro P' FA sJ FB;have a6:∀{t},t=8\/t=14->At T t 6:=fun e=>e.elim (fun e=>e▸⟨0,by decide,eT rfl⟩) fun e=>e▸⟨1,by decide,eT rfl⟩;have a7:∀{t},t=9\/t=15->At T t 7:=fun e=>e.elim (fun e=>e▸⟨0,by decide,eT rfl⟩) fun e=>e▸⟨1,by decide,eT rfl⟩;have g:PS T P' q:={
    all:=fun p Z=>(FB p Z).elim (fun Z=>C.ps.all p ((U p).mp Z)) fun x=>.inl (x.elim (fun x=>⟨6,by decide,a6 (.inl x.1)⟩) fun x=>⟨7,by decide,a7 (.inl x.1)⟩)
    dZ:=fun p e=>⟨sJ p ((U p).mpr (C.ps.dZ p e).1),(C.ps.dZ p e).2⟩};have FC:∀i,i<13->(m.testBit i=Y↔∃p∈P',At T p i):=fun i hi=>(C.dX i hi).trans ⟨(by rintro⟨p,Z,Q⟩;exact⟨p,sJ p ((U p).mpr Z),Q⟩),fun⟨p,Z,Q⟩=>by
    rcases FB p Z with Z|⟨rfl,x⟩|⟨rfl,x⟩;.exact⟨p,(U p).mp Z,Q⟩
    .cases At.cV hi (by decide) Q (a6 (.inl rfl));exact x.elim (fun x=>⟨8,(U 8).mp x,Q⟩) fun x=>⟨14,(U 14).mp x,a6 (.inr rfl)⟩
    .cases At.cV hi (by decide) Q (a7 (.inl rfl));exact x.elim (fun x=>⟨9,(U 9).mp x,Q⟩) fun x=>⟨15,(U 15).mp x,a7 (.inr rfl)⟩⟩;have FD:=g.len h.nd FA fun _ x=>x;have bt:∀{t i:Nat},i<13->At T t i->t∈P'->m.testBit i=true:=fun{t i}hi Q ht=>(FC i hi).mpr ⟨t,ht,Q⟩;have n6:∀w:Nat,(6:Int)=w->m.testBit 2=aj->w∉P':=fun w e x hw=>by have e:w=6:=ax 697993351170 rfl e;subst e;rw[bt (i:=2) (by decide) ⟨0,by decide,eT rfl⟩ hw]at x;cases x
   have n7:∀w:Nat,(7:Int)=w->m.testBit 5=aj->w∉P':=fun w e x hw=>by have e:w=7:=ax 699067125762 rfl e;subst e;rw[bt (i:=5) (by decide) ⟨0,by decide,eT rfl⟩ hw]at x;cases x
   have hn:∀t∈P',∀i,i<13->At T t i->∀w:Nat,wh i=w->w∉P':=fun t ht i hi Q w hw=>by
    have hb:=bt hi Q ht;clear Q;induction i,hi using pC;.exact n6 w hw (nl.1 (.inl hb))
    .exact n6 w hw (nl.1 (.inr hb))
    case h3=>exact n7 w hw (nl.2 (.inl hb))
    case h4=>exact n7 w hw (nl.2 (.inr hb))
    all_goals exact uY hw
   obtain⟨S,hS,Pj⟩:=OZ (aS) (ax 0x1b08681007820d001 rfl FD);apply p Pj;have Pk:S.length<=27:=by rw[hS.length_eq];exact FD
   apply o (kJ aS (by rw[jB];exact ax 951133426241537 rfl Pk));have h3:Tb A (b+1) T (σ++[.dict (gD P')]++[.list (aZ S)]):=(h.cp).cp;refine qP (fun a r lc X=>E3 fun v7 K v=>A8 (a=aZ K) (r=aZ v) (lc=[D (.ref A.az),D H,D (.ref σ.length),v3,v4,D (.int (-1)),I,v7]) (X=σ++[.dict (gD P')]++[.list (aZ S)]) ((K++v).Nodup) (∀p,p∈K\/p∈v->p∈P') (∀p∈K,∀i,i<13->eX i=Y->T[p]?=D (bn i 1)->∀t'∈P',T[t']?≠D (bn i 0)) (∀p∈P',p∈K\/p∈v\/∃i,A4 (i<13) (eX i=Y) (T[p]?=D (bn i 1)) (∃t'∈P',T[t']?=D (bn i 0)))) ?_ ?_ ?_ ⟨I,[],S,rfl,rfl,rfl,rfl,hS.nodup_iff.mpr FA,fun p Z=>Z.elim (nomatch·) hS.mem_iff.mp,fun p Z=>(nomatch Z),fun p Z=>.inr (.inl (hS.mem_iff.mpr Z))⟩;.rintro a r lc X⟨_,_,_,_,_,_,rfl,_⟩;exact aS
   .rintro a lc X⟨v7,K,v,rfl,E,rfl,rfl,M,J,sL,O⟩;induction v using eQ with|cons=>cases E|nil=>
    rw[bO]at M;have J:∀p∈K,p∈P':=fun p Z=>J p (.inl Z);have O:∀p∈P',p∈K\/∃i,A4 (i<13) (eX i=Y) (T[p]?=D (bn i 1)) (∃t'∈K,T[t']?=D (bn i 0)):=fun p Z=>(O p Z).imp_right fun x=>x.elim (nomatch·) fun⟨i,hi,hl,e,t',yN,e'⟩=>⟨i,hi,hl,e,t',by
      rcases O t' yN with x|x|⟨j,hj,yO,e2,_⟩;.exact x
      .cases x
      .rw[e']at e2;exact(Fj hj hi yO (b9 e2).symm).elim,e'⟩;have sN:PR T m K q:={
     nd:=M
     lt:=C.lt
     dX:=fun i hi=>(FC i hi).trans ⟨fun⟨p,Z,Q⟩=>(O p Z).elim (fun x=>⟨p,x,Q⟩) fun⟨j,hj,_,e,t',yN,e'⟩=>⟨t',yN,by cases At.cV hi hj Q ⟨1,by decide,e⟩;exact⟨0,by decide,e'⟩⟩,fun⟨p,Z,Q⟩=>⟨p,J p Z,Q⟩⟩
     all:=fun p Z=>g.all p (J p Z)
     tw:=fun i hi hl p Z e p' jz=>sL p Z i hi hl e p' (J p' jz)};have hq:∀p,q=D p->E4 fun ps rt pd fl=>T[p]?=D (eC ps rt pd fl):=fun p e=>(g.dZ p e).2;have yP:∀p,q=D p->p∈K:=fun p e=>(O p (g.dZ p e).1).elim id fun⟨i,hi,_,e',_⟩=>by obtain⟨_,_,_,_,e2⟩:=hq p e;rw[e']at e2;exact ae (b9 e2) (mP hi)
    have FE:=g.len h.nd M J;have u:(aZ K).length<av:=by rw[jB];exact ax 951133426241537 rfl FE
    have h4:Tb A (b+1) T (σ++[.dict (gD P')]++[.list (aZ S)]++[.list (aZ K)]):=h3.cp;have fr:Fr A.aQ σ (σ++[.dict (gD P')]++[.list (aZ S)]++[.list (aZ K)]):=Fr.cp (Fr.cp .new);apply o (kK aS u);clear sL M J O;rcases K with _|⟨x,_|⟨y,K⟩⟩;.exact hk 2 T _ (h4.le (dh b)) (dg T) fr (yM (.inl ⟨rfl,rfl⟩) sN yP)
    .apply p (dv aS u);apply o ((hQ (d:=.int 0) aS).trans (gI (i:=0) (l:=aZ [x]) rfl u));refine hk x T _ (h4.le (dh b)) (dg T) fr (yM (.inr (.inr ⟨fun e=>?_,rfl,fun y e=>?_⟩)) sN yP)
     .subst e;rcases sN.all 2 aW with⟨i,hi,f,hf,e⟩|e;.exact(by decide+kernel:∀i,i<13->∀f,f<2->bn i f≠dJ "never") i hi f hf (fM h.base e rfl)
      .obtain⟨_,_,_,_,e⟩:=hq 2 e;exact gM (fM h.base e rfl) rfl
     .rcases sN.all x aW with⟨i,hi,f,hf,e2⟩|e2;.rw[e]at e2;exact u9 hi (b9 e2).symm
      .obtain⟨_,_,_,_,e2⟩:=hq x e2;rw[e]at e2;exact gM (b9 e2) rfl
    .obtain⟨L,hL,l2,Pl⟩:∃L,A3 ((aZ (x::y::K)).length=L) (2<=L) (L<=27):=⟨_,rfl,by rw[jB,iD,iD];exact aB 177838495744 rfl,by rw[jB];exact FE⟩;apply p ((dv aS u).trans (by rw[hL]));refine bD (fun e=>ae e (hO 0x2d04aa18202d01e rfl l2 e)) fun _=>?_;apply p ((dv aS u).trans (by rw[hL]));refine bD (fun e=>ae e (ax 0x1b08681051901040d rfl Pl)) fun _=>?_;apply p (show iI .tuple _ _=D (.ab (aZ (x::y::K)),_)by show(((nY _ _).bind _:Option aa).map _)=_;rw[eA aS,qh,af u];rfl);apply mR h4 Pb rfl;intro t T' X h5 Z E hf;refine hk t T' X h5 Z (fr.trans hf) (yM (.inr (.inl ⟨fun e=>?_,E,by simp⟩)) (sN.aq Z hq) yP);subst e;exact gM (fM (h.base.trans Z) E rfl) rfl
   .rintro x r a lc X K'⟨v7,K,v,rfl,E,rfl,rfl,M,J,sL,O⟩sO;rcases v with _|⟨y,v⟩;.cases E
    cases E;apply O5 h3 g (du aS) (J y (.inr aW)) hn;intro bb Pm Pn;rcases bb with _|_
    .refine sO _ _ _ ⟨_,K,v,rfl,rfl,rfl,rfl,M.sublist (Q? (R' K) (List.sublist_cons_self y v)),fun p Z=>J p (Z.imp_right (cI _)),sL,fun p Z=>?_⟩;rcases O p Z with a|a|a;.exact .inl a
     .exact(ce.mp a).elim (fun a=>.inr (.inr (by rw[a];exact Pm rfl))) fun a=>.inr (.inl a)
     .exact .inr (.inr a)
    refine sO _ _ _ ⟨_,K++[y],v,vg,rfl,rfl,rfl,by rw[dy];exact M,fun p Z=>J p ?_,fun p Z=>(dI.mp Z).elim (sL p) fun a=>by rw[ba.mp a];exact Pn rfl,fun p Z=>?_⟩
    .rw[dI,ba]at Z;rw[ce];rcases Z with(a|a)|a;.exact .inl a
     .exact .inr (.inl a)
     .exact .inr (.inr a)
    .rw[dI,ba];rcases O p Z with a|a|a;.exact .inl (.inl a)
     .exact(ce.mp a).elim (fun a=>.inl (.inr a)) fun a=>.inr (.inl a)
     .exact .inr (.inr a)
 .rintro x r lc X K⟨v3,v4,P,z,s,E,Z,rfl,rfl,nd,U⟩hK;induction Z using oj.casesOn with|nil=>cases E|@cons t Pp l vh hv Z=>
  cases E;apply yE (h.le (dh b)).cp hv.pa hv.hd hv.lt;have fl:∀{p},p∈(l::vh).flatten↔p∈l\/p∈vh.flatten:=fun{p}=>by rw[BE,dI]
  apply o (hU (by rw[jB];exact ax 951133426241537 rfl (C.ps.len h.nd hv.nd fun p Z=>(U p).mp (.inr (fl.mpr (.inl Z))))));refine j3 (fun r lc X=>E3 fun v4 P l'=>A5 (r=aZ l') (lc=[D (.ref A.az),D H,D (.ref σ.length),D (.int t),v4,I,I,I]) (X=σ++[.dict (gD P)]) P.Nodup (∀p,(p∈P\/p∈l'\/p∈vh.flatten)↔p∈ls.flatten)) ?_ ?_ ?_ ⟨v4,P,l,rfl,rfl,rfl,nd,fun p=>by rw[<-U p,fl]⟩;.exact fun _ _ _ _=>trivial
  .rintro lc X⟨v4,P,l',E,rfl,rfl,nd,U⟩;rcases l' with _|⟨_,_⟩;.exact hK _ _ ⟨_,_,P,Pp,vh,rfl,Z,rfl,rfl,nd,fun p=>(or_congr_right (by rw[List.mem_nil_iff,false_or])).trans (U p)⟩
   cases E
  .rintro x r lc X K⟨v4,P,l',E,rfl,rfl,nd,U⟩hK;rcases l' with _|⟨y,l'⟩;.cases E
   cases E;apply o ((yF (p:=y) aS (ax 951133426241537 rfl (C.ps.len h.nd nd fun p Z=>(U p).mp (.inl Z))) Pf).trans (by rw[qS]));exact hK _ _ ⟨_,_,l',rfl,rfl,rfl,vf nd,fun p=>by rw[<-U p,qQ,ce,or_assoc,or_assoc]⟩
end
theorem Pr:∀m,m<8192->decide (c4 m=m->(m|||512)&&&6144=0->c4 (m|||512)=m|||512)=true:=kN (by decide+kernel)
theorem FF:∀m,m<8192->decide (m<2048->m&&&6144=0)=true:=kN (by decide+kernel)
section
theorem pE.kr(h:pE T' m q t)(Z:dC c T s l q)(X:T<+:T'):KR c T' (.mk (c4 m) (if c4 m&&&6144≠0 then I else s)) t:=by
 obtain⟨l',a,b,d⟩:=h;by_cases e:c4 m&&&6144≠0;.rw[af e]at b⊢;exact⟨l',I,a,b,rfl⟩
 .rw[am e]at b d⊢;rcases s with _|x;.exact⟨l',q,a,b,Z⟩
  refine cps fun P U=>?_;obtain⟨p,rfl,_,J⟩:=Z;refine U ?_;exact⟨l',D p,a,b,p,rfl,d p rfl,J.aq X⟩
theorem aT.kP(h:aT V n (.mk m s))(Z:m&&&6144≠0):s=none:=by
 rcases n with _|n;.exact h.2
 induction s using cN with|none=>rfl|some x=>exact ae (cK (FF m h.1.1) (h.2 x rfl).1.1) Z
theorem PS.of(b:PR T m l q)(d:dC c T s l q):PS T l q:=⟨b.all,fun p e=>⟨by
rcases s with _|x;.rw[show q=I from d]at e;cases e
obtain⟨Q,J,h,_⟩:=d;rw[J]at e;clear J;cases e;exact h,dC.dZ (T:=T) d p e⟩⟩
theorem FG(h:Tb A (b+1) T σ)(U:aT V u K)(E:KR c T K t)(J:sk (σ++[.dict []]) X=D (aZ [t],C))(H:∀x,lF C (σ++[x]))(M:∀t T' Z,Tb A b T' Z->T<+:T'->Fr A.aQ σ Z->KR c T' K t->k (.int t) Z):CW (n+3) 26 [.ref A.az,X] σ k:=by
 refine cps fun P L=>?_;obtain⟨m,s⟩:=K;obtain⟨l,q,a,b,d⟩:=E.yI h.base;refine L ?_;have Q:([l]:List (List Nat)).flatten=l:=by rw[BE,YN,bO]
 refine yJ h ⟨by rw[Q];exact PS.of b d,b.lt,by rw[Q];exact b.dX,fun _=>U.nm.2⟩ (.cons a .nil) J H fun t T' Z g O j r=>M t T' Z g O j ?_;have this:KR c T' (.mk (c4 m) (if c4 m&&&6144≠0 then I else s)) t:=r.kr d O;rw[show c4 m=m from U.nm.2]at this;by_cases e:m&&&6144≠0;.rw[af e]at this;rw[U.kP e];exact this
 .rw[am e]at this;exact this
theorem FH(h:Tb A (b+1) T σ)(E:aT V lv K)(C:KR c T K t)(M:∀t T' Z,Tb A b T' Z->T<+:T'->Fr A.aQ σ Z->KR c T' (jn K 512) t->k (.int t) Z):CW (n+4) 27 [.ref A.az,.int t] σ k:=by
 refine cps fun P L=>?_;obtain⟨m,s⟩:=K;obtain⟨l,q,a,b,d⟩:=C.yI h.base;refine L ?_;refine Nc ?_;have A4:At T 4 9:=⟨0,by decide,bX h.base rfl⟩;have g:KR c T (.mk (2^9) I) 4:=qN (by decide) h.base A4;obtain⟨l4,j,r,H,u⟩:=g.yI h.base;cases show j=I from u;have Q:([l,l4]:List (List Nat)).flatten=l++l4:=by rw[BE,BE,YN,bO]
 have w:∀p∈l++l4,(∃i,i<13/\At T p i)\/q=D p:=fun p v=>(dI.mp v).elim (b.all p) fun x=>.inl ((H.all p x).elim id nofun);have f:∀p,q=D p->p∈l++l4/\E4 fun ps rt pd fl=>T[p]?=D (eC ps rt pd fl):=fun p e=>⟨mh _ ((PS.of b d).dZ p e).1,((PS.of b d).dZ p e).2⟩;have x3:∀i,i<13->((m|||512).testBit i=Y↔∃p∈l++l4,At T p i):=fun i hi=>by
  have y:=H.dX i hi;rw[jR,jS];constructor
  .rintro(x|x);.obtain⟨p,x,y⟩:=(b.dX i hi).mp x;exact⟨p,mh _ x,y⟩
   .obtain⟨p,x,y⟩:=y.mp x;exact⟨p,jO _ x,y⟩
  .rintro⟨p,x,z⟩;exact(dI.mp x).imp (fun x=>(b.dX i hi).mpr ⟨p,x,z⟩) fun x=>y.mpr ⟨p,x,z⟩
 exact yJ (ts:=[t,4]) (m:=m|||512) h ⟨by rw[Q];exact⟨w,f⟩,u7 b.lt (by decide),by rw[Q];exact x3,cK (Pr m b.lt) E.nm.2⟩ (.cons a (.cons r .nil)) (hU (xs:=[.int t,.int (4:Nat)]) (show 2<2^24-100 by decide)) (fun _=>trivial) fun t T' Z h1 O h3 h4=>M t T' Z h1 O h3 (h4.kr d O)
def Se(T:List aa)(t:Nat):Prop:=∀i f,i<13->f<2->T[t]?=D (bn i f)->eX i=Y->f=0
theorem Se.aq(Z:t<T.length)(X:T<+:T')(h:Se T t):Se T' t:=fun i f hi U e l=>h i f hi U (by have:=fM X e (dL Z);rw[dL Z,this]) l
theorem Pt{t i f:Nat}(h:Tb A b T σ)(e:T[t]?=D (bn i f))(hi:i<13)(U:eX i=Y)(J:f=1->k (.bool Y) σ)(H:f≠1->k (.bool aj) σ):CW (n+1) 29 [.ref A.az,.int t] σ k:=by
 refine Nd ?_;refine h.eD e ?_;have Z:k (.bool (decide ((f:Int)=1))) σ:=by
  by_cases q:f=1;.rw[aN (by exact ax 193309364234 rfl q)];exact J q
  .rw[bS (by exact(gk q).elim (fun X=>ax 193308315678 rfl X) fun X=>ax 692598263822 rfl X)];exact H q
 clear e;induction i,hi using pC<;>first|exact Z|cases U
theorem Pu:∀i,i<13->eX i=Y->bn i 0∈Fc:=by decide+kernel
theorem Pv{t i f:Nat}(h:Tb A b T σ)(e:T[t]?=D (bn i f))(hi:i<13)(X:f<2)(U:eX i=Y)(J:∀(t':Nat)T' Z,Tb A b T' Z->T<+:T'->Fr A.aQ σ Z->T'[t']?=D (bn i 0)->k (.int t') Z):CW (n+2) 30 [.ref A.az,.int t] σ k:=by
 refine Nf ?_;apply Pt h e hi U;.intro X;subst X;refine cps fun P Q=>?_;obtain⟨f,K,O⟩:=h.ct;refine Q ?_;refine h.eD e ?_;have H:dt WD (CW (n+1)) 7 A.az σ σ [bn i 0] k:=Fx (u:=0) h (fun q=>Ot q (Pu i hi U)) (qR hi (by decide)).1 (qR hi (by decide)).2 fun t T' Z E C M L=>J t T' Z E C L M;clear J e;induction i,hi using pC<;>first|exact H|cases U
 .intro q;induction f,X using yn;.exact J t T σ h (dg T) .rfl e
  .exact ae rfl q
theorem FJ{t:Nat}(h:Tb A b T σ)(hK:KR c T K t)(hk:∀t' T' au,Tb A b T' au->T<+:T'->Fr A.aQ σ au->KR c T' K t'->Se T' t'->(∀x,T'[t']?=D (.ab [.int 6,x])->T[t]?=D (.ab [.int 6,x]))->k (.int t') au):CW (n+3) 82 [.ref A.bd,.int t] σ k:=by
 refine yh ?_;refine eE h ?_;apply o h.az;have keep:Se T t->k (.int t) σ:=fun q=>hk t T σ h (dg T) .rfl hK q fun _ e=>e;have nl:∀{d:aa},T[t]?=D d->2<=1\/jb d=6\/jb d=13->Se T t:=fun{d}e q i f hi hf e' l=>by
  rw[e]at e';clear e;cases e';have:=pA (i:=i) (f:=f);rcases q with q|q|q;.exact ae q (by decide)
  all_goals rw[q]at this;exact ae this (by decide)
 induction hK.vd using TV.casesOn with
|jA e=>clear nl hK hk;subst e;refine qH ?_;apply o h.fW;apply o (h.row (bX h.base rfl));refine keep fun i f hi hf e l=>?_;have:=fM h.base e rfl;exact ae this ((by decide+kernel:∀i,i<13->∀f,f<2->bn i f≠dJ "never") i hi f hf)|lO i f hi hf ne e=>
  apply OU h e hi;rcases hl:eX i with _|_;.refine keep fun j g hj hg e' l=>?_;rw[e]at e';have:=(yG hj hi hg hf l (b9 e')).2;clear hi e hK hk e';subst this;rw[hl]at l;cases l
  apply o h.az;refine Pv h e hi hf hl fun t' T' au h1 h2 h3 h4=>hk t' T' au h1 h2 h3 (qN hi h1.base ⟨0,by decide,h4⟩) (fun j g hj hg e' l=>?_) fun x e=>?_;.rw[h4]at e';exact(yG hj hi hg (by decide) l (b9 e')).1
  .rw[h4]at e;exact ae (b9 e) (u9 hi)|dZ x ne hS=>obtain⟨_,_,_,_,e⟩:=hS.row;refine qH ?_;refine h.eD e ?_;exact keep (nl e (.inr (.inr rfl)))|sD l q m s ne e l2 hP hs=>refine qH ?_;refine h.eD e ?_;exact keep (nl e (.inr (.inl rfl)))
end
noncomputable def bw(k:Nat×Nat):aa:=.ab [.int k.1,.int k.2]
noncomputable def eN(c:Nat):aa:=.ab [.int c,.int 0]
noncomputable def lP(A:Ad)(R V dp tr:Nat):List (Nat×aa):=[(35,.ref A.bd),(34,.int V),(33,.ref (R+1)),(32,.ref (R+2)),(31,.ref (R+3)),(30,.ref tr),(29,.ref (R+5)),(19,.int dp),(28,.ref (R+6)),(27,.bool Y),(26,.none),(25,.str (S0 "")),(24,.int 0)]
noncomputable def eY(l:List (Nat×Nat)):List (aa×aa):=l.map fun k=>(bw k,.int 1)
structure St(A:Ad)(R b:Nat)(T:List aa)(V dp:Nat)(N:List Nat)(es:List (aa×aa))(As Tr:List (Nat×Nat))(tr:Nat)(σ:AH):Prop where
tb:Tb A b T σ
c0:σ[R]?=D (.bl 7 (lP A R V dp tr))c1:σ[R+1]?=D (.dict [(.int 3,.ref (R+8)),(.int 8,.ref (R+9))])c2:σ[R+2]?=D (.dict (eY As))c3:σ[R+3]?=D (.dict es)ct:σ[tr]?=D (.list (Tr.map bw))c6:σ[R+6]?=D (.bl 3 [(6,.ref (R+7))])c7:σ[R+7]?=D (.list (N.map eN))c8:σ[R+8]?=D (.bl 8 [])c9:σ[R+9]?=D (.bl 9 [])lo:A.az<R/\A.r<R/\A.ix<R/\A.bd<R
ht:tr=R+4\/R+9<tr
structure Fq(A:Ad)(R tr:Nat)(σ:AH)(jC:Nat)(au:AH):Prop where
keep:∀(i:Nat)o,σ[i]?=D o->i∉A.aQ->(i<R\/(R+9<i/\i≠tr))->au[i]?=D o
tr:jC=tr\/σ.length<=jC
len:σ.length<=au.length
section
variable{R b b' dp vi V tr jC FK j:Nat}
theorem Fr.len(h:Fr O σ Z)(X:∀i∈O,i<Z.length):σ.length<=Z.length:=by
 rcases YO σ.length with e|l;.rw[e];exact bQ _
 .have U:σ.length-1<σ.length:=Nat.sub_lt l (fg 0);by_cases m:σ.length-1∈O;.exact YQ (X _ m)
  .exact YQ (bp.mp (h _ _ (dL U) m)).1
theorem Fq.rfl:Fq A R tr σ tr σ:=⟨fun _ _ h _ _=>h,.inl (Eq.refl tr),aE _⟩
theorem Fq.trans(h:Fq A R tr σ jC au)(h':Fq A R jC au FK yt):Fq A R tr σ FK yt where
keep i o a b c:=h'.keep i o (h.keep i o a b c) b (c.imp_right fun c=>⟨c.1,fun e=>by
 have:=(bp.mp a).1;rcases h.tr with q|q;.exact c.2 (e.trans q)
 .exact ae (iW this q) (fun r=>oW _ (e▸r))⟩);tr:=by
 have:=h.len;rcases h.tr with q|q<;>rcases h'.tr with q'|q';.exact .inl (q'.trans q)
 .exact .inr (bj this q')
 .exact .inr (bj q (gF q'.symm))
 .exact .inr (bj this q')
len:=bj h.len h'.len
theorem St.fr(h:St A R b T V dp N es X U tr σ)(J:Tb A b' T' au)(x:Fr A.aQ σ au):St A R b' T' V dp N es X U tr au:=by
 have g:∀{i o},R<=i->σ[i]?=D o->au[i]?=D o:=fun{i o}l e=>x i o e fun m=>by
  have:=h.lo;rcases ce.mp m with e|m;.exact fk 0xb5422a5821ad02021003 rfl l this.2.1 e
  .exact fk 0xb5422a5821ad02021003 rfl l this.2.2.1 (ba.mp m)
 have H:=h.ht;exact⟨J,g (aE R) h.c0,g (aB 188764160 rfl) h.c1,g (aB 222318592 rfl) h.c2,g (aB 255873024 rfl) h.c3,g (H.elim (fun Z=>aC 303487810981888 rfl Z) fun Z=>aC 753852695105536 rfl Z) h.ct,g (aB 356536320 rfl) h.c6,g (aB 390090752 rfl) h.c7,g (aB 423645184 rfl) h.c8,g (aB 457199616 rfl) h.c9,h.lo,h.ht⟩
theorem St.fq(h:Tb A b' T' au)(x:Fr A.aQ σ au):Fq A R tr σ tr au:=⟨fun i o a b _=>x i o a b,.inl rfl,x.len fun i m=>by
rcases ce.mp m with rfl|m;.exact(bp.mp h.cr).1
.rw[ba.mp m];exact(bp.mp h.cx).1⟩
theorem St.cp(h:St A R b T V dp N es Z X tr σ):St A R b T V dp N es Z X tr (σ++g):=h.fr h.tb.cp .new
theorem St.le(h:St A R b T V dp N es Z X tr σ)(l:b'<=b):St A R b' T V dp N es Z X tr σ:={h with tb:=h.tb.le l}
theorem Fq.cp(h:Fq A R tr σ jC Z):Fq A R tr σ jC (Z++g):=⟨fun i o a b c=>du (h.keep i o a b c),h.tr,by rw[aU];exact bj h.len (b8 _ _)⟩
theorem qT(h:Tb A b T σ)(lo:A.az<R/\A.r<R/\A.ix<R/\A.bd<R)(Z:R<=j):Tb A b T (σ.set j x):=h.fr (O:=[j]) (Fr.rfl.set aW) (fun m=>by have:=ba.mp m;exact fk 0xb5032b5420ad02121003 rfl lo.1 Z this) (fun m=>by have:=ba.mp m;exact fk 0xb5032b5420ad02121003 rfl lo.2.2.2 Z this) (fun m=>by have:=ba.mp m;exact fk 0xb5032b5420ad02121003 rfl lo.2.1 Z this) fun m=>by have:=ba.mp m;exact fk 0xb5032b5420ad02121003 rfl lo.2.2.1 Z this
theorem Fq.aQ(X:(R<=j/\j<=R+9)\/j=tr)(U:R<=j):Fq A R tr σ tr (σ.set j x):=⟨fun i o a _ c=>bm a fun e=>c.elim (fun c=>ae (e▸U) (xp.mpr c)) fun c=>X.elim (fun q=>ae (e▸q.2) (xp.mpr c.1)) fun q=>c.2 (e.symm.trans q),.inl (Eq.refl tr),by rw[oX];exact aE _⟩
theorem St.FL(h:St A R b T V dp N es X U tr σ):St A R b T V vi N es X U tr (σ.set R (.bl 7 (lP A R V vi tr))):=have:=h.ht;{h with tb:=qT h.tb h.lo (aE R),c0:=eV h.c0,c1:=bm h.c1 (aB 188764182 rfl),c2:=bm h.c2 (aB 222318614 rfl),c3:=bm h.c3 (aB 255873046 rfl),ct:=bm h.ct (this.elim (fun Z=>aC 303487810981910 rfl Z) fun Z=>aC 753852695105558 rfl Z),c6:=bm h.c6 (aB 356536342 rfl),c7:=bm h.c7 (aB 390090774 rfl),c8:=bm h.c8 (aB 423645206 rfl),c9:=bm h.c9 (aB 457199638 rfl)}
theorem St.vj(h:St A R b T V dp N es U X tr σ):St A R b T V dp N es vk X tr (σ.set (R+2) (.dict (eY vk))):=have:=h.ht;{h with tb:=qT h.tb h.lo (aB 222318592 rfl),c0:=bm h.c0 (aB 678035462 rfl),c1:=bm h.c1 (aB 193280475142 rfl),c2:=eV h.c2,c3:=bm h.c3 (aB 261999951894 rfl),ct:=bm h.ct (this.elim (fun Z=>aC 0x450150caa6a0016 rfl Z) fun Z=>aC 0xab680086a6a0016 rfl Z),c6:=bm h.c6 (aB 365079166998 rfl),c7:=bm h.c7 (aB 399438905366 rfl),c8:=bm h.c8 (aB 433798643734 rfl),c9:=bm h.c9 (aB 468158382102 rfl)}
theorem St.FM(h:St A R b T V dp N es U J tr σ):St A R b T V dp N Z U J tr (σ.set (R+3) (.dict Z)):=have:=h.ht;{h with tb:=qT h.tb h.lo (aB 255873024 rfl),c0:=bm h.c0 (aB 679084038 rfl),c1:=bm h.c1 (aB 193281523718 rfl),c2:=bm h.c2 (aB 227641262086 rfl),c3:=eV h.c3,ct:=bm h.ct (this.elim (fun X=>aC 0x450150caa7a0016 rfl X) fun X=>aC 0xab680086a7a0016 rfl X),c6:=bm h.c6 (aB 365080215574 rfl),c7:=bm h.c7 (aB 399439953942 rfl),c8:=bm h.c8 (aB 433799692310 rfl),c9:=bm h.c9 (aB 468159430678 rfl)}
theorem St.yQ(h:St A R b T V dp N es X U tr σ):St A R b T V dp N es X vm tr (σ.set tr (.list (vm.map bw))):=have:=h.ht;{h with tb:=qT h.tb h.lo (this.elim (fun Z=>aC 303487810981888 rfl Z) fun Z=>aC 753852695105536 rfl Z),c0:=bm h.c0 (this.elim (fun Z=>aC 304586248867846 rfl Z) fun Z=>aC 718702682755078 rfl Z),c1:=bm h.c1 (this.elim (fun Z=>aC 0x454140c8b505006 rfl Z) fun Z=>aC 0xa36a0084b505006 rfl Z),c2:=bm h.c2 (this.elim (fun Z=>aC 0x454140c8d505006 rfl Z) fun Z=>aC 0xa36a0084d505006 rfl Z),c3:=bm h.c3 (this.elim (fun Z=>aC 0x454140c8f505006 rfl Z) fun Z=>aC 0xa36a0084f505006 rfl Z),ct:=eV h.ct,c6:=bm h.c6 (this.elim (fun Z=>aC 0x454140895505016 rfl Z) fun Z=>aC 0xa36a00855505006 rfl Z),c7:=bm h.c7 (this.elim (fun Z=>aC 0x454140897505016 rfl Z) fun Z=>aC 0xa36a00857505006 rfl Z),c8:=bm h.c8 (this.elim (fun Z=>aC 0x454140899505016 rfl Z) fun Z=>aC 0xa36a00859505006 rfl Z),c9:=bm h.c9 (this.elim (fun Z=>aC 0x45414089b505016 rfl Z) fun Z=>aC 0xa36a0085b505006 rfl Z)}
theorem St.yR(h:St A R b T V dp N es X U tr σ):St A R b T V dp J es X U tr (σ.set (R+7) (.list (J.map eN))):=have:=h.ht;{h with tb:=qT h.tb h.lo (aB 390090752 rfl),c0:=bm h.c0 (aB 683278342 rfl),c1:=bm h.c1 (aB 193285718022 rfl),c2:=bm h.c2 (aB 227645456390 rfl),c3:=bm h.c3 (aB 262005194758 rfl),ct:=bm h.ct (this.elim (fun Z=>aC 0x4501508aaba0006 rfl Z) fun Z=>aC 0xab680086aba0016 rfl Z),c6:=bm h.c6 (aB 365084409862 rfl),c7:=eV h.c7,c8:=bm h.c8 (aB 433803886614 rfl),c9:=bm h.c9 (aB 468163624982 rfl)}
theorem St.Px(h:St A R b T V dp N es U H tr σ):St A R b T V dp N es U [] σ.length ((σ++[AO.list []]).set R (.bl 7 (lP A R V dp σ.length))):=have X:=(bp.mp h.c9).1;have h:=h.cp (g:=[AO.list []]);{h with tb:=qT h.tb h.lo (aE R),c0:=eV h.c0,c1:=bm h.c1 (aB 188764182 rfl),c2:=bm h.c2 (aB 222318614 rfl),c3:=bm h.c3 (aB 255873046 rfl),ct:=bm (aS) (aC 753852695105558 rfl X),c6:=bm h.c6 (aB 356536342 rfl),c7:=bm h.c7 (aB 390090774 rfl),c8:=bm h.c8 (aB 423645206 rfl),c9:=bm h.c9 (aB 457199638 rfl),ht:=.inr X}
theorem St.eZ(h:St A R b T V dp N es Z X tr σ):eU WD σ (.ref R) 34=D (.int V):=fL h.c0 rfl rfl
theorem St.cR(h:St A R b T V dp N es Z X tr σ):eU WD σ (.ref R) 35=D (.ref A.bd):=fL h.c0 rfl rfl
theorem St.ol(h:St A R b T V dp N es X U tr σ){p:aa->Prop}(Z:p (.ref A.az)):gO (eU WD σ (.ref R) 35) fun y=>gO (eU WD σ y 20) p:=o h.cR (o h.tb.az Z)
theorem St.eD(h:St A R b T V dp N es X U tr σ){t:Nat}{p:aa->Prop}(e:T[t]?=D d)(Z:p d):gO (eU WD σ (.ref R) 35) fun y=>gO (eU WD σ y 20) fun y=>gO (eU WD σ y 6) fun y=>gO (cZ σ y (.int t)) p:=h.ol (h.tb.eD e Z)
theorem St.qU(h:St A R b T V dp N es Z X tr σ):eU WD σ (.ref R) 33=D (.ref (R+1)):=fL h.c0 rfl rfl
theorem St.qV(h:St A R b T V dp N es Z X tr σ):eU WD σ (.ref R) 32=D (.ref (R+2)):=fL h.c0 rfl rfl
theorem St.qW(h:St A R b T V dp N es Z X tr σ):eU WD σ (.ref R) 31=D (.ref (R+3)):=fL h.c0 rfl rfl
theorem St.om(h:St A R b T V dp N es Z X tr σ):eU WD σ (.ref R) 30=D (.ref tr):=fL h.c0 rfl rfl
theorem St.yS(h:St A R b T V dp N es Z X tr σ):eU WD σ (.ref R) 19=D (.int dp):=fL h.c0 rfl rfl
theorem St.mS(h:St A R b T V dp N es Z X tr σ):eU WD σ (.ref R) 28=D (.ref (R+6)):=fL h.c0 rfl rfl
theorem St.pF(h:St A R b T V dp N es Z X tr σ):eU WD σ (.ref (R+6)) 6=D (.ref (R+7)):=fL h.c6 rfl rfl
end
section
theorem St.pos(h:St A R b T V Z N es X U tr σ):0<R:=by have:=h.lo;exact aC 709778608129 rfl this.2.2.2
theorem FN{c:Nat}(h:St A R b T V X N es U J tr σ)(H:N.length<av)(Q:∀Z,St A R b T V X (N++[c]) es U J tr Z->Fq A R tr σ tr Z->k .none Z):dt WD (CW (n+2)) 40 R σ σ [.int c] k:=by
 have O:=h.pos;apply o h.c0;refine⟨rfl,?_⟩;refine Nv ?_;apply o (fL h.c0 rfl rfl);apply o h.mS;apply o (fL h.c0 rfl rfl);apply o h.c6;refine⟨rfl,?_⟩;refine MX ?_;apply o h.pF;apply o h.c7;apply o (eA h.c7);apply p (gy (v:=eN c) (by rw[aJ];exact H) (aB 146407430 rfl));have e:N.map eN++[eN c]=(N++[c]).map eN:=by rw[g7];rfl
 rw[e];exact Q _ h.yR (.aQ (.inl (⟨aB 390090752 rfl,aB 468163624960 rfl⟩)) (aB 390090752 rfl))
theorem yT(h:St A R b T V X N es U J tr σ)(Z:N.length<av):iI .len σ [.ref (R+7)]=D (.int N.length,σ):=(dv h.c7 (by rw[aJ];exact Z)).trans (by rw[aJ])
theorem yU(h:St A R b T V U N es J Z tr σ)(X:Z.length<av):iI .len σ [.ref tr]=D (.int Z.length,σ):=(dv h.ct (by rw[aJ];exact X)).trans (by rw[aJ])
theorem vn(h:St A R b T V H N es Q Z tr σ)(X:N.length<av)(U:Z.length<av)(J:k (.ab [.int N.length,.int Z.length]) σ):dt WD (CW (n+1)) 39 R σ σ [] k:=by apply o h.c0;refine⟨rfl,?_⟩;refine Nw ?_;apply o h.mS;apply o h.pF;apply p (yT h X);apply o h.om;apply p (yU h U);exact J
theorem vo(h:bw a=bw b):a=b:=BB (tn h 0 rfl rfl) (tn h 1 rfl rfl)
theorem sP:dd (eY l) (bw x)=true:=by unfold dd eY;rw[KD];exact fe.mpr ⟨rfl,fR.mpr fun _ _=>rfl⟩
theorem yV:∀{l:List (Nat×Nat)}{x:Nat×Nat},(ca (eY l) (bw x)).isSome=decide (x∈l):=by intro l;induction l with|nil=>intro x;rw[bS (nomatch·)];rfl|cons y r Z=>
intro x;show(if bw y=bw x then D (aa.int 1)else ca (eY r) (bw x)).isSome=_;by_cases e:y=x;.rw[af (aI bw e),aN (e▸aW)];rfl
.rw[am fun q=>e (vo q),Z];exact iF.mpr ⟨cI _,fun q=>(ce.mp q).elim (fun q=>ae q.symm e) id⟩
theorem FO:∀{l:List (Nat×Nat)}{x:Nat×Nat},x∉l->eR (eY l) (bw x) (.int 1)=eY (l++[x]):=by intro l;induction l with|nil=>intro x _;exact rfl|cons y r Z=>intro x h;show(if bw y=bw x then _ else(bw y,aa.int 1)::eR (eY r) (bw x) (.int 1))=_;rw[am (fun q=>h (by rw[vo q];exact aW)),Z fun q=>h (cI _ q)];rfl
theorem Py:∀{l r:List (Nat×Nat)}{x:Nat×Nat},x∉l->o7 (eY (l++x::r)) (bw x)=eY (l++r):=by intro l;induction l with|nil=>intro r x _;exact af rfl|cons y l Z=>intro r x h;show(if bw y=bw x then _ else(bw y,aa.int 1)::o7 (eY (l++x::r)) (bw x))=_;rw[am (fun q=>h (by rw[vo q];exact aW)),Z fun q=>h (cI _ q)];rfl
theorem FP(h:σ[j]?=D (.dict (eY (l++x::r))))(O:x∉l)(E:(l++x::r).length<av)(C:j≠0):uP σ j (bw x)=D (σ.set j (.dict (eY (l++r)))):=by show(match σ[j]? with|some (.dict es)=>_|_=>I)=_;rw[h];show(if(dd (eY _) (bw x)&&ci (bw x)==2&&(ca (eY _) (bw x)).isSome&&decide ((eY _).length<av)&&j !=0)=Y then _ else _)=_;rw[sP,yV,aN (jO _ aW),Py O,af];unfold eY;rw[aJ,aN E,fy.mpr C];rfl
theorem yW(al:Nat->Lc->AH->Prop)(X:∀m lc σ(K:Kn),al (m+1) lc σ->(∀lc σ,al m lc σ->K lc σ)->t lc σ fun c σ=>br c (Z lc σ K) (kn lc σ))(U:∀lc σ(K:Kn),al 0 lc σ->t lc σ fun c σ=>br c (Z lc σ K) (kn lc σ)):∀{m:Nat}{lc:Lc}{σ:AH},al m lc σ->qE t Z (m+1) lc σ kn:=by intro m;induction m with|zero=>intro lc σ h;exact U lc σ _ h|succ m J=>intro lc σ h;exact X m lc σ _ h fun lc σ h=>J h
theorem FQ(h:St A R b T V j (N++C) es (U++J) (U++J) tr σ)(nd:(U++J).Nodup)(M:(N++C).length<av)(H:(U++J).length<av)(r:∀Z,St A R b T V j N es U U tr Z->Fq A R tr σ tr Z->k .none Z):CW (n+1) 81 [.ref R,.ab [.int N.length,.int U.length]] σ k:=by
 have w:=h.pos;have E:=h.ht;have L:N.length<av:=by rw[aU]at M;exact aC 94145717817345 rfl M
 refine Ny ?_;apply o h.mS;apply o h.pF;have e:(N++C).take N.length=N:=List.take_left;apply o (show pb σ (R+7) (.int N.length)=D (σ.set (R+7) (.list (N.map eN)))by show(match σ[R+7]? with|some (.list xs)=>_|_=>I)=_;rw[h.c7];show(if(decide ((0:Int)<=N.length)&&small N.length&&decide (((N++C).map eN).length<av)&&R+7 !=0)=Y then _ else _)=_;rw[jw L,aJ,aN M,aN (by exact aB 659464 rfl),af (by rw[fy.mpr (by exact aB 146407430 rfl)];rfl),ic,<-YR,e]);refine⟨J.length+1,yW (fun m lc Z=>∃J,A6 (J.length=m) (lc=[D (.ref R),D (.ab [.int N.length,.int U.length])]) (St A R b T V j N es (U++J) (U++J) tr Z) ((U++J).Nodup) ((U++J).length<av) (Fq A R tr σ tr Z)) ?_ ?_ ⟨J,rfl,rfl,h.yR,nd,H,.aQ (.inl (⟨aB 390090752 rfl,aB 468163624960 rfl⟩)) (aB 390090752 rfl)⟩⟩
 .rintro m lc Z K⟨J,Q,rfl,h,nd,H,g⟩u;apply o h.om;apply p (yU h H);refine bD (fun _=>?_) fun q=>ae (show(U.length:Int)<(U++J).length by rw[aU];exact da 0x2d8150cab405009 rfl Q) q;obtain⟨X,x,rfl⟩:E2 fun X x=>J=X++[x]:=⟨J.dropLast,J.getLast (by intro e;rw[e]at Q;cases Q),(BF _).symm⟩;rw[<-dy]at h nd H;apply o h.qV;apply o h.om;apply o h.ct;apply o (eA h.ct);have e1:((U++X)++[x]).map bw=(U++X).map bw++[bw x]:=by rw[g7];rfl
  apply p (show qD 2 tr (((U++X)++[x]).map bw) Z []=D (bw x,Z.set tr (.list ((U++X).map bw)))by show(match(((U++X)++[x]).map bw).getLast? with|some v=>_|none=>I)=_;rw[aJ,e1,List.getLast?_concat];show(if(decide (((U++X)++[x]).length<av)&&tr !=0)=Y then _ else _)=_;rw[aN H,af (by rw[fy.mpr (E.elim (fun O=>aC 304586248310790 rfl O) fun O=>aC 718702682198022 rfl O)];rfl),YS]);have d:=h.yQ (vm:=U++X);apply o (FP d.c2 (fun q=>(oV.mp nd).2.2 x q x aW rfl) H (aB 141164550 rfl));rw[bO];exact u _ _ ⟨X,by rw[aU]at Q;simpa using Q,rfl,d.vj,(oV.mp nd).1,by rw[aU]at H;exact ax 77828518289952769 rfl H,(g.trans (.aQ (.inr rfl) (E.elim (fun O=>aC 303487810981888 rfl O) fun O=>aC 753852695105536 rfl O))).trans (.aQ (.inl (⟨aB 222318592 rfl,aB 468158382080 rfl⟩)) (aB 222318592 rfl))⟩
 .rintro lc Z K⟨J,Q,rfl,h,nd,H,g⟩;have:=nD Q;subst this;rw[bO]at h nd H;apply o h.om;apply p (yU h H);refine bD (fun q=>ae q (Int.lt_irrefl _)) fun _=>?_;exact r _ h g
end
mutual noncomputable def cL:Kd->Nat|.mk _ s=>FS s noncomputable def FS:Option (jx Kd)->Nat|none=>0|some s=>jD s+1 noncomputable def jD:jx Kd->Nat|⟨ps,_,_,res,_,_⟩=>max (sQ ps) (cL res)noncomputable def sQ:List (Kd×Bool)->Nat|[]=>0|k::r=>max (Pz k) (sQ r)noncomputable def Pz:Kd×Bool->Nat|(k,_)=>cL k end
noncomputable def ak(V:Nat)(a b:Kd):Int:=u8 V 3 a b
noncomputable def cW(v:Int):List Nat:=(if v.toNat.testBit 0=Y then[1]else[])++((if v.toNat.testBit 1=Y then[2]else[])++(if v.toNat.testBit 2=Y then[11]else[]))
structure cC(V:Nat)(T:List aa)(key:Nat×Nat)(K1 K2:Kd)(c:Bool)(n:Nat):Prop where
le:n<=2
w1:aT V n K1
w2:aT V n K2
r1:KR c T K1 key.1
r2:KR (!c) T K2 key.2
noncomputable def vp(d:aa):Bool:=match d with|.ab l=>decide (l=[.int 6,l.getD 1 .none])|.none=>aj|.bool _=>aj|.int _=>aj|.str _=>aj|.ref _=>aj
theorem PA:vp d=Y↔∃x,d=.ab [.int 6,x]:=by induction d using aa.casesOn with|ab l=>exact⟨fun h=>⟨_,aI aa.ab (cK h)⟩,fun⟨x,e⟩=>by cases e;exact aN rfl⟩|_=>exact⟨nofun,nofun⟩
noncomputable def uT(T:List aa)(t:Nat):Nat:=if T[t]?.any vp=Y then 1 else 0
noncomputable def eF(T:List aa)(key:Nat×Nat)(K1 K2:Kd):Nat:=4*(cL K1+cL K2)+uT T key.1+uT T key.2
def on(V:Nat)(v:Int)(L:List Nat):Prop:=V=1->∀x∈cW v,x∈L
def j5(T:List aa)(V:Nat)(es:List (aa×aa)):Prop:=∀e∈es,E6 fun key v K1 K2 c n=>A4 (e=(bw key,.bool v)) (cC V T key K1 K2 c n) (v=decide (0<=ak V K1 K2)) (v=Y->on V (ak V K1 K2) [])
def j7(T:List aa)(V m:Nat)(L:List Nat)(Z:List (Nat×Nat)):Prop:=∀key∈Z,E4 fun K1 K2 c n=>cC V T key K1 K2 c n/\(m<=eF T key K1 K2\/(0<=ak V K1 K2/\on V (ak V K1 K2) L))
def mT(T:List aa)(V:Nat)(L:List Nat)(Z:List (Nat×Nat)):Prop:=∀key∈Z,E4 fun K1 K2 c n=>A3 (cC V T key K1 K2 c n) (0<=ak V K1 K2) (on V (ak V K1 K2) L)
structure Rs where
T:List aa
N:List Nat
es:List (aa×aa)Tr:List (Nat×Nat)tr:Nat
σ:AH
structure Iv(A:Ad)(R W V b dp m b0:Nat)(S:Rs):Prop where
st:St A R b S.T V dp S.N S.es S.Tr S.Tr S.tr S.σ
lN:S.N.length+b<av
lK:S.es.length+S.Tr.length+b<W
wl:W<=av
nd:S.Tr.Nodup
kn:j5 S.T V S.es
tk:j7 S.T V m (S.N.drop b0) S.Tr
b0:b0<=S.N.length
dp:dp+m<=60
structure Pw(A:Ad)(R W V b dp m b0:Nat)(v:Int)(S S':Rs):Prop where
iv:Iv A R W V b dp m b0 S'
pre:S.T<+:S'.T
fq:Fq A R S.tr S.σ S'.tr S'.σ
out:E2 fun i9 j8=>A5 (S'.N=S.N++i9) (S'.Tr=S.Tr++j8) (S.Tr=[]->j8=[]) (mT S'.T V (S'.N.drop b0) j8) (0<=v->V=1->(∀x∈i9,x∈cW v)/\∀x∈cW v,x∈S'.N.drop b0)
structure Pq(A:Ad)(R W V b dp m b0:Nat)(v:Int)(S S':Rs):Prop extends Pw A R W V b dp m b0 v S S' where cl:v<0->S'.N=S.N/\S'.Tr=S.Tr
section
variable{R W V b b' dp m b0:Nat}
theorem cC.aq(h:T<+:T')(x:cC V T key K1 K2 c n):cC V T' key K1 K2 c n:={x with r1:=x.r1.aq h,r2:=x.r2.aq h}
theorem cC.cV(x:cC V T key K1 K2 c n)(y:cC V T key Z sR X U):K1=Z/\K2=sR:=⟨(KR.cV (x.w1.aq x.le) (y.w1.aq y.le) x.r1 y.r1).1,(KR.cV (x.w2.aq x.le) (y.w2.aq y.le) x.r2 y.r2).1⟩
theorem on.aq(h:∀x∈L,x∈L')(x:on V v L):on V v L':=fun e y Z=>h y (x e y Z)
theorem j5.aq(h:T<+:T')(x:j5 T V es):j5 T' V es:=fun e Z=>(by obtain⟨key,v,K1,K2,c,n,a,b,d,X⟩:=x e Z;exact⟨key,v,K1,K2,c,n,a,b.aq h,d,X⟩)
theorem mT.aq(h:T<+:T')(Z:∀x∈L,x∈X)(x:mT T V L Tr):mT T' V X Tr:=fun e U=>(by obtain⟨K1,K2,c,n,a,b,d⟩:=x e U;exact⟨K1,K2,c,n,a.aq h,b,d.aq Z⟩)
theorem j9(h:T<+:T')(Z:t<T.length):uT T' t=uT T t:=by unfold uT;rw[bX h (List.getElem?_eq_getElem Z),List.getElem?_eq_getElem Z]
theorem j7.aq(Z:cH<+:T)(h:T<+:T')(X:∀x∈L,x∈U)(x:j7 T V m L Tr):j7 T' V m U Tr:=fun e J=>(by obtain⟨K1,K2,c,n,a,b⟩:=x e J;exact⟨K1,K2,c,n,a.aq h,by unfold eF;rw[j9 h (a.r1.gQ Z),j9 h (a.r2.gQ Z)];exact b.imp_right fun d=>⟨d.1,d.2.aq X⟩⟩)
theorem j7.PB(h:m'<=m)(x:j7 T V m L Tr):j7 T V m' L Tr:=fun e Z=>let⟨K1,K2,c,n,a,b⟩:=x e Z;⟨K1,K2,c,n,a,b.imp_left (bj h)⟩
theorem mT.ok(x:mT T V L Tr):j7 T V m L Tr:=fun e Z=>let⟨K1,K2,c,n,a,b,d⟩:=x e Z;⟨K1,K2,c,n,a,.inr ⟨b,d⟩⟩
theorem Iv.le(h:Iv A R W V b dp m b0 S)(l:b'<=b):Iv A R W V b' dp m b0 S:={h with st:=h.st.le l,lN:=by have:=h.lN;exact pn 0x15a80086d508055a0001 rfl l this,lK:=by have:=h.lK;exact sq 0xbe2b400021c5820bdab400001 rfl l this}
theorem Iv.lQ(h:Iv A R W V b dp m b0 S):S.N.length<av:=by have:=h.lN;exact aC 94145717817345 rfl this
theorem Iv.pG(h:Iv A R W V b dp m b0 S):S.Tr.length<av:=dM (bj (KI _ _) (b8 _ _)) (iW h.lK h.wl)
theorem Iv.az(h:Iv A R W V b dp m b0 S)(l:b'<=b)(U:Tb A b' T' Z)(X:S.T<+:T')(J:Fr A.aQ S.σ Z):Iv A R W V b' dp m b0 ⟨T',S.N,S.es,S.Tr,S.tr,Z⟩where st:=h.st.fr U J;lN:=(h.le l).lN;lK:=(h.le l).lK;wl:=h.wl;nd:=h.nd;kn:=h.kn.aq X;tk:=h.tk.aq h.st.tb.base X fun _ x=>x;b0:=h.b0;dp:=h.dp
theorem Pw.refl(h:Iv A R W V b dp m b0 S)(J:0<=v->on V v (S.N.drop b0)):Pw A R W V b dp m b0 v S S:=⟨h,dg _,.rfl,[],[],(bO _).symm,(bO _).symm,fun _=>rfl,fun _ q=>(nomatch q),fun q e=>⟨fun _ q=>(nomatch q),J q e⟩⟩
theorem Pw.FT(X:S.T<+:T')(U:Fq A R S.tr S.σ S.tr Z)(h:Pw A R W V b dp m b0 v ⟨T',S.N,S.es,S.Tr,S.tr,Z⟩ sU):Pw A R W V b dp m b0 v S sU:=⟨h.iv,X.trans h.pre,U.trans h.fq,h.out⟩
theorem FU:∀{es:List (aa×aa)}{k v:aa},ca es k=D v->(k,v)∈es
|(Z,X)::r,k,v,h=>by
 change(if Z=k then D X else ca r k)=D v at h;by_cases e:Z=k;.rw[af e]at h;cases h;rw[e];exact aW
 .rw[am e]at h;exact cI _ (FU h)
theorem FV:∀{es:List (aa×aa)}{k v:aa},∀e∈eR es k v,e∈es\/e=(k,v):=by intro es;induction es with|nil=>intro k v e h;exact .inr (ba.mp h)|cons X r U=>
obtain⟨Z,J⟩:=X;intro k v e h;change e∈(if Z=k then(Z,v)::r else(Z,J)::eR r k v)at h;by_cases q:Z=k;.rw[af q]at h;exact(ce.mp h).elim (fun h=>.inr (by rw[h,q])) fun h=>.inl (cI _ h)
.rw[am q]at h;exact(ce.mp h).elim (fun h=>.inl (h▸aW)) fun h=>(U e h).imp_left (cI _)
theorem FW:∀{es:List (aa×aa)}{k v:aa},(eR es k v).length<=es.length+1:=by intro es;induction es with|nil=>intro k v;exact aE 1|cons X r U=>
obtain⟨Z,J⟩:=X;intro k v;show(if Z=k then(Z,v)::r else(Z,J)::eR r k v).length<=_;by_cases q:Z=k;.rw[af q];exact dh _
.rw[am q];exact mi U
theorem j5.ok(h:j5 T V es):dd es (bw key)=true:=by unfold dd;refine fe.mpr ⟨rfl,fR.mpr fun e X=>?_⟩;obtain⟨Z,v,_,_,_,_,rfl,_⟩:=h e X;rfl
end
section
theorem PC(h:St A R b T V m N es Tr Tr tr σ)(nd:Tr.Nodup)(t:∀e∈es,ci e.1=2)(M:es.length+Tr.length<av)(s:∀Z Q X,St A R b T V m N Z [] [] Q X->Fq A R tr σ Q X->(∀e∈Z,e∈es\/(cl=Y/\∃key∈Tr,e=(bw key,.bool Y)))->Z.length<=es.length+Tr.length->k .none X):CW (n+1) 85 [.ref R,.bool cl] σ k:=by
 have hp:=h.pos;have mU:=h.ht;refine NA ?_;apply o h.om;apply o (kJ h.ct (by rw[aJ];exact aC 93080565927937 rfl M));refine j3 (fun r lc X=>E4 fun j Z d q=>A7 (r=q.map bw) (Tr=d++q) (lc=[D (.ref R),D (.bool cl),j]) (St A R b T V m N Z q Tr tr X) (Fq A R tr σ tr X) (∀e∈Z,e∈es\/(cl=Y/\∃key∈Tr,e=(bw key,.bool Y))) (Z.length<=es.length+d.length)) ?_ ?_ ?_ ⟨I,es,[],Tr,rfl,rfl,rfl,h,.rfl,fun _=>.inl,aE _⟩;.rintro r lc X⟨_,_,_,_,_,_,_,h,_⟩;exact h.ct
 .clear h nd M;rintro lc X⟨j,Z,d,q,L,rfl,rfl,h,O,U,J⟩;induction q using eQ with|cons=>cases L|nil=>apply o (u5 (v:=.ref X.length) (du h.c0) rfl (ax 691524489222 rfl hp));exact s Z _ _ h.Px ⟨fun i o a b c=>bm (du (O.keep i o a b c)) (c.elim (fun u=>aC 709778657286 rfl u) fun u=>aC 753852695105558 rfl u.1),.inr O.len,by rw[oX,aU];have:=O.len;exact aC 0xad0202901505000 rfl this⟩ U (by rw[bO];exact J)
 .rintro x r lc X K⟨j,Z,d,q,L,H,rfl,h,O,U,J⟩f;rcases q with _|⟨y,q⟩;.cases L
  cases L;have z:(y::q).length+d.length=Tr.length:=by rw[H,aU];exact bB 0x2d015054b400002 rfl
  have E:=z;rw[iD]at E;apply o h.qV;apply o (FP (l:=[]) (r:=q) (x:=y) h.c2 (nomatch·) (by rw[xq];exact n9 0xb5cb40002215aa008445a0001 rfl M z) (aB 141164550 rfl));have g:=h.vj (vk:=q);have C:Fq A R tr σ tr (X.set (R+2) (.dict (eY q))):=O.trans (.aQ (.inl (⟨aB 222318592 rfl,aB 468158382080 rfl⟩)) (aB 222318592 rfl));have hy:y∈Tr:=by rw[H];exact jO _ aW
  rcases cl with _|_;.exact f _ _ ⟨_,Z,d++[y],q,rfl,by rw[H,dy];rfl,rfl,g,C,U,by rw[aU];exact da 0xb5414080a40581505000 rfl J⟩
  apply o g.qW;have w:dd Z (bw y)=true:=fe.mpr ⟨rfl,fR.mpr fun e H=>by
  rcases U e H with q|⟨_,key,_,rfl⟩;.rw[t e q];rfl
  .rfl⟩;apply o (mM (v:=.bool Y) g.c3 w (mK 0xb5cb800022bd41408056a802115001 rfl M J E) (aB 142213126 rfl));exact f _ _ ⟨_,eR Z (bw y) (.bool Y),d++[y],q,rfl,by rw[H,dy];rfl,rfl,g.FM,C.trans (.aQ (.inl (⟨aB 255873024 rfl,aB 468159430656 rfl⟩)) (aB 255873024 rfl)),fun e H=>(FV e H).elim (U e) fun q=>.inr ⟨rfl,y,hy,q⟩,by have:=FW (es:=Z) (k:=bw y) (v:=.bool Y);rw[aU,qg];exact n9 0x2dc14082d505c202d81505000 rfl J this⟩
theorem j5.k2(h:j5 T V es):∀e∈es,ci e.1=2:=fun e Q=>by obtain⟨key,v,_,_,_,_,rfl,_⟩:=h e Q;rfl
theorem PD(h:Iv A R W V (b+b'+1) dp m b0 S)(ht:cC V S.T (s,t) K1 K2 c n')(hr:eF S.T (s,t) K1 K2<m)(qX:∀S1 FX k',Iv A R W V (b+b') (dp+1) (eF S1.T (s,t) K1 K2) FX S1->cC V S1.T (s,t) K1 K2 c n'->S1.T=S.T->(∀S2,Pw A R W V b (dp+1) (eF S1.T (s,t) K1 K2) FX (ak V K1 K2) S1 S2->k' (.bool (decide (0<=ak V K1 K2))) S2.σ)->CW (n+2) (if V=3 then 98 else 92) [.ref R,.int s,.int t] S1.σ k')(E:∀S',Pq A R W V b dp m b0 (ak V K1 K2) S S'->k (.bool (decide (0<=ak V K1 K2))) S'.σ):CW (n+3) 84 [.ref R,.int s,.int t] S.σ k:=by obtain⟨T,N,es,Tr,tr,σ⟩:=S;have hp:=h.st.pos;have mU:tr=R+4\/R+9<tr:=h.st.ht;have hr:eF T (s,t) K1 K2<m:=hr;have wl:W<=av:=h.wl;have lK:es.length+Tr.length+(b+b'+1)<W:=h.lK;have lN:N.length+(b+b'+1)<av:=h.lN;have st:St A R (b+b'+1) T V dp N es Tr Tr tr σ:=h.st;have FY:=h.dp;have K:b0<=N.length:=h.b0;refine Nz ?_;apply o st.qW;have J:=h.kn.ok (key:=(s,t));apply o (pp st.c3 J);induction hl:ca es (bw (s,t))using cN with|some d=>obtain⟨key,v,yX,sR,c',PE,e1,e2,e3,e4⟩:=h.kn _ (FU hl);injection e1 with e5 e6;have e5:=vo e5;subst e5 e6;obtain⟨rfl,rfl⟩:=ht.cV e2;subst e3;apply o st.qW;apply o ((E0 st.c3 J rfl).trans hl);exact E _ ⟨.refl (h.le (bB 195018379264 rfl)) fun L=>(e4 (aN L)).aq fun x(q:x∈[])=>ae q bK,fun _=>⟨rfl,rfl⟩⟩|none=>
 apply o st.qV;apply o (pp st.c2 (sP (x:=(s,t))));rw[yV];refine bE (fun hm=>?_) fun hm=>?_
 .refine cps fun P hP=>?_;obtain⟨yX,sR,c',PE,e1,e2⟩:=h.tk _ hm;obtain⟨rfl,rfl⟩:=ht.cV e1;refine hP ?_;rcases e2 with e2|⟨e2,e3⟩;.exact ae (iW hr e2) (oW _)
  .have:=E _ ⟨.refl (h.le (bB 195018379264 rfl)) fun _=>e3,fun q=>ae q (ig.mpr e2)⟩;rw[aN e2]at this;exact this
 have hm:(s,t)∉Tr:=hm;apply o st.yS;refine bD (fun q=>ae (nA.mp q) (xp.mpr (iW (KA (Nat.zero_lt_of_lt hr)) FY))) fun _=>?_;apply vn st h.lQ h.pG;apply o st.qV;apply o ((mM (v:=.int 1) st.c2 (sP (x:=(s,t))) (by unfold eY;rw[aJ];exact sq 0xa971700296000211542015001 rfl wl lK) (aB 141164550 rfl)).trans (by rw[FO hm]));have s2:=st.vj (vk:=Tr++[(s,t)]);apply o s2.om;apply o s2.ct;apply o (eA s2.ct);have em:Tr.map bw++[bw (s,t)]=(Tr++[(s,t)]).map bw:=by rw[g7];rfl
 apply p ((gy (v:=bw (s,t)) (by rw[aJ];exact sq 0xa971700296000211542015001 rfl wl lK) (mU.elim (fun w3=>aC 304586248310790 rfl w3) fun w3=>aC 718702682198022 rfl w3)).trans (by rw[em]));have s3:=s2.yQ (vm:=Tr++[(s,t)]);apply o s3.yS;apply o (show o9 WD _ (.ref R) 19 (.int ((dp:Int)+1))=D (((σ.set (R+2) (.dict (eY (Tr++[(s,t)])))).set tr (.list ((Tr++[(s,t)]).map bw))).set R (.bl 7 (lP A R V (dp+1) tr)))from u5 s3.c0 rfl (ax 691524489222 rfl hp));have s4:=s3.FL (vi:=dp+1);have f4:=((Fq.aQ (A:=A) (R:=R) (tr:=tr) (σ:=σ) (x:=.dict (eY (Tr++[(s,t)]))) (j:=R+2) (.inl (⟨aB 222318592 rfl,aB 468158382080 rfl⟩)) (aB 222318592 rfl)).trans (.aQ (x:=.list ((Tr++[(s,t)]).map bw)) (j:=tr) (.inr rfl) (mU.elim (fun w3=>aC 303487810981888 rfl w3) fun w3=>aC 753852695105536 rfl w3))).trans (.aQ (x:=.bl 7 (lP A R V (dp+1) tr)) (j:=R) (.inl (⟨aB 675840 rfl,aB 457199616 rfl⟩)) (aE R));generalize((σ.set (R+2) (.dict (eY (Tr++[(s,t)])))).set tr (.list ((Tr++[(s,t)]).map bw))).set R (.bl 7 (lP A R V (dp+1) tr))=jc at s4 f4;clear s2 s3;have FZ:(Tr++[(s,t)]).Nodup:=oV.mpr ⟨h.nd,fh.mpr ⟨bK,jP⟩,fun a ha b hb e=>hm (by rw[ba.mp hb]at e;exact e▸ha)⟩;have l:(Tr++[(s,t)]).length=Tr.length+1:=by rw[aU];rfl
 obtain⟨b1,C,u⟩:∃b1,b1<=N.length/\((Tr=[]/\b1=N.length)\/(Tr≠[]/\b1=b0)):=by
  by_cases e:Tr=[];.exact⟨N.length,aE _,.inl ⟨e,rfl⟩⟩
  .exact⟨b0,K,.inr ⟨e,rfl⟩⟩
 have F0:Iv A R W V (b+b') (dp+1) (eF T (s,t) K1 K2) b1 ⟨T,N,es,Tr++[(s,t)],tr,jc⟩:={
  st:=s4.le (bB 0xb5a0015a0000 rfl)
  lN:=by show N.length+(b+b')<av;exact da 0x45b5400a002115aa0a0001 rfl lN
  lK:=by show es.length+(Tr++[(s,t)]).length+(b+b')<W;exact yr 0x2e41508b05bd800cd00008717b02b400001 rfl lK l
  wl:=wl
  nd:=FZ
  kn:=h.kn
  tk:=fun key PF=>by
   rcases dI.mp PF with q|q
   .rcases u with⟨e,_⟩|⟨_,e⟩;.rw[e]at q;cases q
    .rw[e];exact h.tk.PB (li hr) key q
   .rw[ba.mp q];exact⟨K1,K2,c,n',ht,.inl (aE _)⟩
  b0:=C
  dp:=bj (by rw[eL,nz 1];exact eP hr dp) FY};apply o s4.eZ;have hf:(if(V:Int)=3 then 98 else 92)=if V=3 then 98 else 92:=by
  by_cases q:V=3;.rw[af q,af (aI ko q)]
  .rw[am q,am fun e=>q (KB.mp e)]
 refine MV (A:=fun f=>CW (n+2) f [.ref R,.int s,.int t] jc _) ?_;rw[hf];apply qX ⟨T,N,es,Tr++[(s,t)],tr,jc⟩ b1 _ F0 ht rfl;rintro⟨T2,N2,oo,yY,U,fF⟩⟨i5,i,f5,Q,j8,rfl,rfl,_,M,O⟩;have i:T<+:T2:=i;have s5:St A R b T2 V (dp+1) (N++Q) oo ((Tr++[(s,t)])++j8) ((Tr++[(s,t)])++j8) U fF:=i5.st;have g:((Tr++[(s,t)])++j8).Nodup:=i5.nd;have w:(N++Q).length+b<av:=i5.lN;have H:oo.length+((Tr++[(s,t)])++j8).length+b<W:=i5.lK;have k5:j5 T2 V oo:=i5.kn;have y:=ht.aq i;have sV:cH<+:T:=h.st.tb.base;have M:mT T2 V ((N++Q).drop b1) j8:=M;rw[dy,List.singleton_append]at s5 g H;apply o s5.yS;have hz:(((dp+1:Nat):Int)-1)=dp:=pj dp;apply o (show o9 WD fF (.ref R) 19 (.int (((dp+1:Nat):Int)-1))=D (fF.set R (.bl 7 (lP A R V dp U)))from(u5 s5.c0 rfl (ax 691524489222 rfl hp)).trans (by rw[hz];rfl));have z:=s5.FL (vi:=dp);have f6:Fq A R tr σ U (fF.set R (.bl 7 (lP A R V dp U))):=(f4.trans (f5)).trans (.aQ (.inl (⟨aB 675840 rfl,aB 457199616 rfl⟩)) (aE R));generalize fF.set R (.bl 7 (lP A R V dp U))=vq at z f6;have D?:=z.ht;by_cases L:0<=ak V K1 K2
 .obtain O:=O L;have X:V=1->(∀x∈Q,x∈cW (ak V K1 K2))/\∀x∈cW (ak V K1 K2),x∈(N++Q).drop b1:=O;rw[aN L]at E⊢;refine bD (fun e=>?_) fun e=>?_
  .have e:Tr=[]:=nD (ax 158957981698 rfl e);clear ht qX lK st J hm em s4 FZ l F0 i5 s5 O;subst e;have C:b1=N.length:=u.elim (fun x=>x.2) fun x=>ae rfl x.1;subst C;rw[KJ]at X M;apply o z.mS;apply o z.pF;apply p (yT z (aC 94145717817345 rfl w));rw[xq]at z g H;apply PC (cl:=decide (((N++Q).length:Int)=N.length)) z g k5.k2 (n9 0x2d72d4140002115820116a0a0001 rfl wl H);intro Z jC au s7 f7 he yO;have PG:decide (((N++Q).length:Int)=N.length)=Y->Q=[]:=fun e=>nD (by have:=cK e;rw[aU]at this;exact aC 761583645118466 rfl this);have key:∀key∈(s,t)::j8,E4 fun K1 K2 c n=>A3 (cC V T2 key K1 K2 c n) (0<=ak V K1 K2) (on V (ak V K1 K2) Q):=fun key E=>by
    rcases ce.mp E with rfl|E;.exact⟨K1,K2,c,n',y,L,fun q=>(X q).2⟩
    .exact M key E
   refine E ⟨T2,N++Q,Z,[],jC,au⟩ ⟨⟨⟨s7,w,by show Z.length+0+b<W;exact sq 0xb805c14082d52e01700021b549400001 rfl H yO,wl,jP,fun e hq=>?_,fun _ q=>ae q bK,by show b0<=(N++Q).length;rw[aU];exact da 760897166397440 rfl K,h.dp⟩,i,f6.trans f7,Q,[],rfl,rfl,fun _=>rfl,fun _ q=>ae q bK,fun _ q=>⟨(X q).1,fun x hx=>?_⟩⟩,fun q=>ae L (cY.mpr q)⟩
   .rcases he e hq with q|⟨PH,ky,J,rfl⟩;.exact k5 e q
    .obtain⟨yX,sR,c',n2,a,b,d⟩:=key ky J;refine⟨ky,Y,yX,sR,c',n2,rfl,a,(aN b).symm,fun _=>?_⟩;rw[PG PH]at d;exact d
   .rw[show(Rs.mk T2 (N++Q) Z [] jC au).N.drop b0=(N++Q).drop b0 from rfl,xr K];exact jO _ ((X q).2 x hx)
  .have e:Tr≠[]:=fun q=>e (by rw[q];rfl);have C:b1=b0:=u.elim (fun x=>ae x.1 e) fun x=>x.2;clear u;subst C;refine E ⟨T2,N++Q,oo,Tr++(s,t)::j8,U,vq⟩ ⟨⟨⟨z,w,H,wl,g,k5,fun key J=>?_,by show b1<=(N++Q).length;rw[aU];exact da 760897166397440 rfl C,h.dp⟩,i,f6,Q,(s,t)::j8,rfl,rfl,fun q=>ae q e,fun key J=>?_,fun _=>X⟩,fun q=>ae L (cY.mpr q)⟩
   .rcases dI.mp J with q|q;.refine h.tk.aq sV i (fun x hx=>?_) key q;show x∈(N++Q).drop b1;rw[xr K];exact mh _ hx
    .clear J;rcases ce.mp q with rfl|q;.exact⟨K1,K2,c,n',y,.inr ⟨L,fun q=>(X q).2⟩⟩
     .exact M.ok key q
   .rcases ce.mp J with rfl|q;.exact⟨K1,K2,c,n',y,L,fun q=>(X q).2⟩
    .exact M key q
 .rw[bS L]at E⊢;apply FQ z g (aC 94145717817345 rfl w) (n9 0xade96000211542015001 rfl wl H);intro sW s7 f7;have PI:∀{Z au},St A R b T2 V dp N Z Tr Tr U au->Z.length<=oo.length+1->j5 T2 V Z->Iv A R W V b dp m b0 ⟨T2,N,Z,Tr,U,au⟩:=fun{Z au}st hl E=>{
   st:=st
   lN:=by show N.length+b<av;exact da 0x116d50028008455a0001 rfl lN
   lK:=by show Z.length+Tr.length+b<W;rw[aU,iD]at H;exact yr 0x2f62e41506000084b805020bdab400001 rfl hl H
   wl:=wl
   nd:=h.nd
   kn:=E
   tk:=h.tk.aq sV i fun _ x=>x
   b0:=K
   dp:=h.dp};have r:∀{Z au},St A R b T2 V dp N Z Tr Tr U au->Z.length<=oo.length+1->j5 T2 V Z->Fq A R tr σ U au->k (.bool aj) au:=fun{Z au}st hl PJ hf=>E ⟨T2,N,Z,Tr,U,au⟩ ⟨⟨PI st hl PJ,i,hf,[],[],(bO _).symm,(bO _).symm,fun _=>rfl,fun _ q=>ae q bK,fun q=>ae q L⟩,fun _=>⟨rfl,rfl⟩⟩;have iR:E2 fun Z au=>A5 (i6 sW (R+3) (bw (s,t)) (.bool aj)=D au) (St A R b T2 V dp N Z Tr Tr U au) (Z.length<=oo.length+1) (j5 T2 V Z) (Fq A R tr σ U au):=by
   refine⟨eR oo (bw (s,t)) (.bool aj),_,mM s7.c3 k5.ok (n9 0xaded4000211542015001 rfl wl H) (aB 142213126 rfl),s7.FM,FW,fun e he=>?_,(f6.trans f7).trans (.aQ (.inl (⟨aB 255873024 rfl,aB 468159430656 rfl⟩)) (aB 255873024 rfl))⟩;rcases FV e he with q|rfl;.exact k5 e q
   .exact⟨(s,t),aj,K1,K2,c,n',rfl,y,(bS L).symm,nofun⟩
  refine cps fun P hP=>?_;obtain⟨Z,au,e1,e2,e3,e4,e5⟩:=iR;refine hP ?_;refine bD (fun _=>?_) fun _=>?_;.apply o s7.qW;apply o e1;exact r e2 e3 e4 e5
  .apply o s7.eZ;refine bN (bD (fun _=>?_) fun _=>?_);.exact r s7 (dh _) k5 (f6.trans f7)
   .apply o s7.qW;apply o e1;exact r e2 e3 e4 e5
end
noncomputable def dj(x:Nat):Nat:=match x with|13=>1|14=>13|15=>6|x=>gA x
noncomputable def oq(c:Nat):Nat:=match c with|0=>12|1=>11|2=>13|3=>10|4=>9|5=>8|6=>2|7=>5|_=>16
structure Co(T:List aa)(t x:Nat):Prop where
lt:x<16
row:∃r,T[t]?=D (.ab (.int (dj x)::r))/\r.length<=7
id:∀c,(c<8\/c=10\/c=13)->(t=c↔x=oq c)lO:x<13->At T t x
structure KC(x:Nat)(K:Kd):Prop where
a:x<13->K=.mk (2^x) I
n:x=13->K=.mk 0 I
s:x=14->∃y,K=.mk 0 (D y)u:x=15->K.m&&&6144=0/\K.m≠0/\(K.s=I->∀i,i<13->K.m≠2^i)
section
variable{R b dp V tr:Nat}{n s t x y:Nat}
theorem Co.eq(h:Co T t x)(c:Nat)(hz:z=(c:Int))(Q:c<8\/c=10\/c=13):((t:Int)=z)↔x=oq c:=by subst hz;exact Iff.trans ⟨dr,aI _⟩ (h.id c Q)
theorem bC(h:Co T t x)(c:Nat)(hz:z=(c:Int))(Z:c<8\/c=10\/c=13)(X:x=oq c->A)(U:x≠oq c->B):br (decide ((t:Int)=z)) A B:=bD (fun q=>X ((h.eq c hz Z).mp q)) fun q=>U fun e=>q ((h.eq c hz Z).mpr e)
noncomputable def vR:List aa:=[.int 1,.int 2,.int 3,.int 4,.int 5]
noncomputable def dR:List aa:=[.int 10,.int 14,.int 15,.int 16,.int 17,.int 18,.int 19]
theorem PL:WD.mH 71=D (.ab dR):=rfl
theorem PM:WD.mH 72=D (.ab (.int 6::.int 7::dR)):=rfl
theorem PN:∀x,x<16->vR.contains (.int (dj x))=decide (x<14):=by decide+kernel
theorem F1:∀x,x<16->dR.contains (.int (dj x))=false:=by decide+kernel
theorem F3:∀x,x<16->(aa.int 6::.int 7::dR).contains (.int (dj x))=decide (x=15):=by decide+kernel
theorem vr(h:l.all cg=Y):io σ (.int z) (.ab l)=D (l.contains (.int z)):=af (show(cg (.int z)&&_)=Y by rw[h];rfl)
theorem PO(h:x<16):io σ (.int (dj x)) (.ab dR)=D false:=(vr rfl).trans (aI D (F1 x h))
theorem PP(h:x<16):io σ (.int (dj x)) (.ab (.int 6::.int 7::dR))=D (decide (x=15)):=(vr rfl).trans (aI D (F3 x h))
theorem F4:∀{l:List Nat},(aZ l).all cg=true:=by intro l;induction l with|nil=>exact rfl|cons _ l Z=>exact Z
theorem PQ:∀{l:List Nat}{z:Int},(aZ l).contains (.int z)=decide (∃p:Nat,p∈l/\(p:Int)=z):=by intro l;induction l with|nil=>intro z;exact(bS (by rintro⟨_,h,_⟩;exact nomatch h)).symm|cons p l Z=>
intro z;show(aa.int z==aa.int p||(aZ l).contains (.int z))=_;rw[Z];by_cases e:(p:Int)=z;.rw[aN (⟨p,aW,e⟩:∃q:Nat,q∈p::l/\(q:Int)=z),aV.mpr (aI aa.int e.symm)];rfl
.rw[gl.mpr fun q=>e (aa.int.inj q).symm,KK];exact iF.mpr ⟨(by rintro⟨q,a,b⟩;exact⟨q,cI _ a,b⟩),(by rintro⟨q,a,b⟩;exact⟨q,(ce.mp a).resolve_left fun a=>e (a▸b),b⟩)⟩
theorem ot:io σ (.int z) (.ab (aZ l))=D (decide (∃p:Nat,p∈l/\(p:Int)=z)):=(vr F4).trans (aI D PQ)
theorem Co.di(h:Co T t x)(e:T[t]?=D d):cZ σ d (.int 0)=D (.int (dj x)):=by obtain⟨r,a,b⟩:=h.row;rw[a]at e;cases e;exact Mine.di rfl b
theorem Co.ir(h:Co T t x):∃d,T[t]?=D d:=(by obtain⟨_,a,_⟩:=h.row;exact⟨_,a⟩)
noncomputable def dz(V x y:Nat):Int:=if y=12 then 1 else if x=13 then 1 else if x=12/\V=4 then 0 else if y=11 then 1 else if x=12 then(if y=13 then 0 else 2)else if x=11 then 0 else if y=13/\x≠15 then 0 else-1
theorem PW{s:Option Sg}(X:cH<+:T)(U:PR T m l q)(J:dC c T s l q)(hz:z=11):¬∃p:Nat,p∈l/\(p:Int)=z:=by
 rintro⟨p,H,e⟩;have e:p=11:=KB.mp (e.trans hz);subst e;have:=bX X (show cH[11]?=D Fb from rfl);rcases U.all 11 H with⟨i,hi,f,_,e⟩|e;.rw[this]at e;have Z:=pA (i:=i) (f:=f);rw[<-b9 e]at Z;exact ae (show(8:Int)<6 from Z) (by decide)
 .obtain⟨_,_,_,_,e⟩:=dC.dZ (T:=T) J 11 e;rw[this]at e;exact gM (b9 e) rfl
theorem bM(c:Nat)(hz:a=(c:Int))(Z:V=c->A)(X:V≠c->B):br (decide ((V:Int)=a)) A B:=by subst hz;exact bD (fun q=>Z (dr q)) fun q=>X fun e=>q (aI _ e)
theorem PX(h:St A R b T V dp N es v m tr σ)(f:N.length<av)(Z:Co T s x)(H:Co T t y)(i:KR c T K t)(X:∀r,dz V x y=r->r≠2->k (.int r) σ)(a:dz V x y=2->∀U,St A R b T V dp (N++[1]) es v m tr U->Fq A R tr σ tr U->k (.int 1) U):CW (n+3) 87 [.ref R,.int s,.int t] σ k:=by
 have O:∀{x:Nat},x<16->x≠16:=fun h e=>lb h e;refine Er ?_;refine bC H 0 rfl (.inl (by decide)) (fun q=>X 1 (af q) (by decide)) fun C=>?_;refine bC H 13 rfl (.inr (.inr rfl)) (fun q=>ae q (O H.lt)) fun _=>?_;have C:y≠12:=C;refine bC Z 2 rfl (.inl (by decide)) (fun q=>X 1 ((am C).trans (af q)) (by decide)) fun q1=>?_;refine bC Z 13 rfl (.inr (.inr rfl)) (fun q=>ae q (O Z.lt)) fun _=>?_;have e1:∀{r},(if x=12/\V=4 then 0 else if y=11 then 1 else if x=12 then(if y=13 then 0 else 2)else if x=11 then 0 else if y=13/\x≠15 then 0 else-1)=r->dz V x y=r:=fun e=>((am C).trans (am (q1))).trans e;by_cases Q:x=12
 .by_cases M:V=4;.refine bC Z 0 rfl (.inl (by decide)) (fun _=>?_) fun q=>ae Q q;apply o h.eZ;exact bM 4 rfl (fun _=>X 0 (e1 (af ⟨Q,M⟩)) (by decide)) fun q=>ae M q
  .refine bC Z 0 rfl (.inl (by decide)) (fun _=>?_) fun q=>ae Q q;apply o h.eZ;refine bM 4 rfl (fun q=>ae q M) fun _=>?_;have e2:∀{r},(if y=11 then 1 else if x=12 then(if y=13 then 0 else 2)else if x=11 then 0 else if y=13/\x≠15 then 0 else-1)=r->dz V x y=r:=fun e=>e1 ((am fun q=>M q.2).trans e);refine bC H 1 rfl (.inl (by decide)) (fun q=>X 1 (e2 (af q)) (by decide)) fun L=>?_;refine bC Z 0 rfl (.inl (by decide)) (fun _=>?_) fun q=>ae Q q;refine bC H 2 rfl (.inl (by decide)) (fun J=>X 0 (e2 ((am L).trans ((af Q).trans (af J)))) (by decide)) fun J=>?_;apply FN (c:=1) h f;intro U h' hf;exact a (e2 ((am L).trans ((af Q).trans (am J)))) U h' hf
 .refine bC Z 0 rfl (.inl (by decide)) (fun q=>ae q Q) fun _=>?_;have e2:∀{r},(if y=11 then 1 else if x=12 then(if y=13 then 0 else 2)else if x=11 then 0 else if y=13/\x≠15 then 0 else-1)=r->dz V x y=r:=fun e=>e1 ((am fun q=>Q q.1).trans e);refine bC H 1 rfl (.inl (by decide)) (fun q=>X 1 (e2 (af q)) (by decide)) fun L=>?_;refine bC Z 0 rfl (.inl (by decide)) (fun q=>ae q Q) fun _=>?_;have e3:∀{r},(if x=11 then 0 else if y=13/\x≠15 then 0 else-1)=r->dz V x y=r:=fun e=>e2 ((am L).trans ((am Q).trans e));obtain⟨d,u⟩:=H.ir;refine bC Z 1 rfl (.inl (by decide)) (fun J=>?_) fun J=>?_;.have w:=e3 (af J);refine NB ?_;refine h.eD u ?_;apply o (H.di u);apply o PL;apply o (PO H.lt);refine h.ol ?_;apply pD h.tb i;intro l q _ hP hS;apply o h.eZ;refine bM 4 rfl (fun _=>X 0 w (by decide)) fun _=>?_;apply o (ot (l:=l) (z:=11));rw[bS (PW h.tb.base hP hS rfl)];exact X 0 w (by decide)
  .have J:x≠11:=J;refine bC H 2 rfl (.inl (by decide)) (fun j=>?_) fun j=>X (-1) (e3 ((am J).trans (am fun q=>j q.1))) (by decide);obtain⟨d',E⟩:=Z.ir;refine h.eD E ?_;apply o (Z.di E);apply o PM;apply o (PP Z.lt);by_cases g:x=15;.rw[aN g];exact X (-1) (e3 ((am J).trans (am fun q=>q.2 g))) (by decide)
   .rw[bS g];exact X 0 (e3 ((am J).trans (af ⟨j,g⟩))) (by decide)
end
noncomputable def lR(x:Nat):Nat:=match x with|0=>2|1=>2|3=>5|4=>5|_=>16
noncomputable def pH(V x y:Nat):Int:=if x=9 then(if y=10 then 1 else 0)else if y=lR x then 1 else if V=2/\x=lR y then 1 else 0
noncomputable def dD(V x y:Nat):Int:=if dz V x y≠-1 then dz V x y else if x=15\/y=15 then-1 else if y<14 then(if x<14 then pH V x y else 0)else if x=9\/x=8\/x=10 then 0 else-1
theorem ka{i:Decidable c}(Z:a≠z)(X:b≠z):(if c then a else b)≠z:=by cases i;exact X;exact Z
theorem yZ{i:Decidable c}(Z:-1<=a/\a<=2)(X:-1<=b/\b<=2):-1<=(if c then a else b)/\(if c then a else b)<=2:=by cases i;exact X;exact Z
theorem F5:-1<=dz V x y/\dz V x y<=2:=by
 unfold dz;repeat' refine yZ ?_ ?_
 all_goals decide
section
variable{n s t x y:Nat}
theorem F6(h:x<16)(Z:x=15->A)(X:x≠15->B):br ((aa.int 6::aa.int 7::dR).contains (.int (dj x))==Y) A B:=by rw[F3 x h];exact bE Z X
theorem vt(h:x<16)(Z:x<14->A)(X:¬x<14->B):br (vR.contains (.int (dj x))==Y) A B:=by rw[PN x h];exact bE Z X
theorem F7(O:x<13)(h:Co T t y):wh x=(t:Int)↔y=lR x:=by have X:¬y=16:=fun e=>oW _ (e▸h.lt);have U:=h.eq (z:=6) 6 rfl (.inl (by decide));have J:=h.eq (z:=7) 7 rfl (.inl (by decide));have H:(6:Int)=t↔y=2:=⟨fun q=>U.mp q.symm,fun q=>(U.mpr q).symm⟩;have Q:(7:Int)=t↔y=5:=⟨fun q=>J.mp q.symm,fun q=>(J.mpr q).symm⟩;have Z:(-1:Int)=t↔y=16:=⟨fun q=>by have:=hZ t;rw[<-q]at this;exact ae this (by decide),fun q=>ae q X⟩;exact vc (p:=fun x=>wh x=(t:Int)↔y=lR x) H H Z Q Q Z Z Z Z Z Z Z Z x O
theorem PY(X:x<13)(h:y=lR x)(Z:y<16):wh x>=0:=vc (p:=fun x=>y=lR x->wh x>=0) (fun _=>by decide) (fun _=>by decide) (fun q=>ae (q▸Z) (by decide)) (fun _=>by decide) (fun _=>by decide) (fun q=>ae (q▸Z) (by decide)) (fun q=>ae (q▸Z) (by decide)) (fun q=>ae (q▸Z) (by decide)) (fun q=>ae (q▸Z) (by decide)) (fun q=>ae (q▸Z) (by decide)) (fun q=>ae (q▸Z) (by decide)) (fun q=>ae (q▸Z) (by decide)) (fun q=>ae (q▸Z) (by decide)) x X h
theorem bW(Z:x<13)(h:Co T t y)(X:y=lR x->A)(U:y≠lR x->B):br (decide (wh x=(t:Int))) A B:=bD (fun q=>X ((F7 Z h).mp q)) fun q=>U fun e=>q ((F7 Z h).mpr e)
theorem ou:(gA x:Int)≠5:=by rcases x with _|_|_|_|_|_|_|_|x<;>exact cK rfl
theorem PZ(h:St A R b T V r N es u w tr σ)(O:Co T s x)(H:Co T t y)(J:x<13)(Q:y<13)(Z:k (.int (pH V x y)) σ):CW (n+3) 90 [.ref R,.int s,.int t] σ k:=by
 refine cps fun P d=>?_;obtain⟨f,_,e1⟩:=O.lO J;obtain⟨g,_,e2⟩:=H.lO Q;obtain⟨v,X,U⟩:=qM (f:=f) J;obtain⟨m,E,C⟩:=qM (f:=g) Q;refine d ?_;refine NC ?_;unfold pH at Z;by_cases q:x=9
 .rw[af q]at Z;refine bC O 4 rfl (.inl (by decide)) (fun _=>?_) fun e=>ae q e;by_cases K:y=10;.rw[af K]at Z;exact bC H 3 rfl (.inl (by decide)) (fun _=>Z) fun e=>ae K e
  .rw[am K]at Z;exact bC H 3 rfl (.inl (by decide)) (fun e=>ae e K) fun _=>Z
 rw[am q]at Z;refine bC O 4 rfl (.inl (by decide)) (fun e=>ae e q) fun _=>?_;refine h.eD e1 ?_;refine h.eD e2 ?_;apply sG J;by_cases M:y=lR x;.rw[af M]at Z;refine bW J H (fun _=>?_) fun e=>ae M e;apply sG J;exact bD (fun _=>Z) fun e=>ae (PY J M H.lt) e
 rw[am M]at Z;refine bW J H (fun e=>ae e M) fun _=>?_;apply o h.eZ;by_cases L:V=2/\x=lR y;.rw[af L]at Z;refine bM 2 rfl (fun _=>?_) fun e=>ae L.1 e;apply sG Q;exact bW Q O (fun _=>Z) fun e=>ae L.2 e
 rw[am L]at Z;by_cases j:V=2;.refine bM 2 rfl (fun _=>?_) fun e=>ae j e;apply sG Q;refine bW Q O (fun e=>ae ⟨j,e⟩ L) fun _=>?_;apply o (di X (ax 227667202048 rfl U));refine bD (fun e=>ae e ou) fun _=>?_;apply o (di X (ax 227667202048 rfl U));refine bD (fun e=>ae e ou) fun _=>?_;refine Eu ?_;apply o h.eZ;refine bM 4 rfl (fun _=>Z) fun _=>?_;refine Et ?_;apply o (di E (ax 227667202048 rfl C));exact bD (fun e=>ae e ou) fun _=>bN (bD (fun e=>ae e ou) fun _=>Z)
 .refine bM 2 rfl (fun e=>ae e j) fun _=>?_;apply o (di X (ax 227667202048 rfl U));refine bD (fun e=>ae e ou) fun _=>?_;apply o (di X (ax 227667202048 rfl U));refine bD (fun e=>ae e ou) fun _=>?_;refine Eu ?_;apply o h.eZ;refine bM 4 rfl (fun _=>Z) fun _=>?_;refine Et ?_;apply o (di E (ax 227667202048 rfl C));exact bD (fun e=>ae e ou) fun _=>bN (bD (fun e=>ae e ou) fun _=>Z)
theorem F8(h:St A R b T V f N es z l tr σ)(i:N.length<av)(X:Co T s x)(J:Co T t y)(a:KR c T K t)(U:∀r,dD V x y=r->r≠2->k (.int r) σ)(hn:dD V x y=2->∀Z,St A R b T V f (N++[1]) es z l tr Z->Fq A R tr σ tr Z->k (.int 1) Z):CW (n+4) 86 [.ref R,.int s,.int t] σ k:=by
 refine Ep ?_;apply PX h i X J a
 .intro r O r2;by_cases q:r=-1
  .refine bD (fun e=>ae e (by rw[q];decide)) fun _=>?_;have e1:∀{r},(if x=15\/y=15 then-1 else if y<14 then(if x<14 then pH V x y else 0)else if x=9\/x=8\/x=10 then 0 else-1)=r->dD V x y=r:=fun e=>(am fun e'=>e' (O.trans q)).trans e;refine cps fun P hP=>?_;obtain⟨d,m⟩:=X.ir;obtain⟨d',E⟩:=J.ir;refine hP ?_;apply o h.cR;apply o h.tb.az;apply o h.tb.fW;apply o (h.tb.row m);apply o (X.di m);apply o (h.tb.row E);apply o (J.di E);refine F6 X.lt (fun M=>U (-1) (e1 (af (.inl M))) (by decide)) fun M=>?_;refine F6 J.lt (fun L=>U (-1) (e1 (af (.inr L))) (by decide)) fun L=>?_;have e2:∀{r},(if y<14 then(if x<14 then pH V x y else 0)else if x=9\/x=8\/x=10 then 0 else-1)=r->dD V x y=r:=fun e=>e1 ((am fun q=>q.elim M L).trans e);refine bC J 10 rfl (.inr (.inl rfl)) (fun q=>ae J.lt (by rw[q];exact oW _)) fun _=>?_;refine vt J.lt (fun C=>?_) fun C=>?_
   .refine vt X.lt (fun H=>?_) fun H=>U 0 (e2 ((af C).trans (am H))) (by decide);have hv:pH V x y≠2:=ka (ka (by decide) (by decide)) (ka (by decide) (ka (by decide) (by decide)));have g:x≠13:=fun e=>by refine ae (O.trans q) (ka (by decide) ?_);rw[af e];decide
    have j:y≠13:=fun e=>by refine ae (O.trans q) (ka (by decide) (ka (by decide) (ka (by decide) (ka (by decide) (ka (ka (by decide) (by decide)) (ka (by decide) ?_))))));rw[af ⟨e,M⟩];decide
    exact PZ h X J ((gk g).elim (fun Q=>ax 605625569281 rfl Q) fun Q=>hO 0x95041a44218d001 rfl Q H) ((gk j).elim (fun Q=>ax 605625569281 rfl Q) fun Q=>hO 0x95041a44218d001 rfl Q C) (U _ (e2 ((af C).trans (af H))) hv)
   .have e3:∀{r},(if x=9\/x=8\/x=10 then 0 else-1)=r->dD V x y=r:=fun e=>e2 ((am C).trans e);refine bC X 4 rfl (.inl (by decide)) (fun H=>U 0 (e3 (af (.inl H))) (by decide)) fun H=>?_;refine bC X 5 rfl (.inl (by decide)) (fun u=>U 0 (e3 (af (.inr (.inl u)))) (by decide)) fun u=>?_;refine bC X 3 rfl (.inl (by decide)) (fun w=>U 0 (e3 (af (.inr (.inr w)))) (by decide)) fun w=>?_;exact U (-1) (e3 (am fun q=>q.elim H fun q=>q.elim u w)) (by decide)
  .have v:r>=0:=Int.add_one_le_of_lt (KL.mpr ⟨O▸F5.1,g8 q⟩);exact bD (fun _=>U r ((af (by rw[O];exact q)).trans O) r2) fun e=>ae v e
 .intro e Z h' hf;exact hn ((af (by rw[e];decide)).trans e) Z h' hf
end
noncomputable def ke(V ma mb:Nat)(sa sb:Bool)(ft:Int):Int:=if mb&&&4096≠0\/(ma==0&&!sa)=Y then 0 else if ma&&&4096≠0/\V=4 then-1 else if mb&&&2048≠0 then 0 else if ma&&&4096≠0 then(if(mb==0&&!sb)=Y then-1 else 1)else if V=2 then(if ma&&&j2 mb (mb==0&&!sb)≠0\/0<=ft then 0 else-1)else if ma&&&gJ mb≠ma then-1 else if(!sa)=Y then 0 else ft
theorem F9:∀{a b:Kd},gK g V a b=ke V a.m b.m a.s.isSome b.s.isSome (iN g a.s b.s)|.mk _ I,.mk _ I=>rfl|.mk _ I,.mk _ (D _)=>rfl|.mk _ (D _),.mk _ I=>rfl|.mk _ (D _),.mk _ (D _)=>rfl
noncomputable def aM(x:Nat):Nat:=if x<13 then 2^x else 0
noncomputable def bV(r:Int):Bool:=r==1||r==2
noncomputable def vv(V x y:Nat):Bool:=bV (dD V x y)||(decide (V=2/\y≠13)&&bV (dD V y x))
noncomputable def eb(V x y:Nat):Int:=ke V (aM x) (aM y) (x==14) (y==14) (-1)
noncomputable def Ga(V x y:Nat):Bool:=x==y||(vv V x y==decide (0<=eb V x y)&&(V !=1||!bV (dD V x y)||cW (eb V x y)==if dD V x y=2 then[1]else[]))
theorem P0:∀V∈[1,2,4],∀x,x<15->∀y,y<15->Ga V x y=true:=by decide+kernel
theorem Gb(Z:V∈[1,2,4])(U:x<15)(J:y<15)(H:x≠y):vv V x y=decide (0<=eb V x y)/\(V=1->bV (dD V x y)=Y->cW (eb V x y)=if dD V x y=2 then[1]else[]):=by have f:=P0 V Z x U y J;unfold Ga at f;rw[gl.mpr H,KK,gG]at f;refine⟨aV.mp f.1,fun e1 e2=>?_⟩;have X:=f.2;clear Z f;subst e1;rw[e2]at X;exact aV.mp X
theorem qY:∀V∈[1,2,4],∀x,x<16->(dD V x 15=if x=13 then 1 else if x=12 then(if V=4 then 0 else 2)else if x=11 then 0 else-1)/\(dD V 15 x=if x=12 then 1 else if x=11 then 1 else-1):=by decide+kernel
theorem Gc:∀mb,mb<8192->decide (mb&&&6144=0->mb&&&4096=0/\mb&&&2048=0/\2048&&&gJ mb≠2048/\2048&&&j2 mb aj≠0)=true:=kN (by decide+kernel)
section
theorem vw(h:V≠3):ak V K1 K2=ke V K1.m K2.m K1.s.isSome K2.s.isSome (iN (fun x y=>gS V 3 x y aj) K1.s K2.s):=(am h).trans F9
theorem KC.kP(h:KC x K)(U:x<15):K.m=aM x/\K.s.isSome=(x==14):=by
 by_cases Z:x<13;.rw[h.a Z];exact⟨(af Z).symm,(gl.mpr (ax 605625602070 rfl Z)).symm⟩
 .by_cases e:x=13;.rw[h.n e];clear h U Z;subst e;exact⟨rfl,rfl⟩
  .obtain⟨y,J⟩:=h.s ((gk e).elim (fun X=>fx (ax 674345078784 rfl U) (hO 0x8d0458d021a4800 rfl X Z)) fun X=>fx (ax 674345078784 rfl U) (ax 705483655168 rfl X));have:x=14:=(gk e).elim (fun X=>fx (ax 674345078784 rfl U) (hO 0x8d0458d021a4800 rfl X Z)) fun X=>fx (ax 674345078784 rfl U) (ax 705483655168 rfl X);clear h U Z e;subst this;rw[J];exact⟨rfl,rfl⟩
theorem Gd(Z:V∈[1,2,4])(X:KC x K1)(U:KC y K2)(J:x<15)(H:y<15)(Q:¬(x=14/\y=14)):ak V K1 K2=eb V x y:=by
 unfold eb;have e1:=X.kP J;have e2:=U.kP H;rw[vw (by rintro rfl;revert Z;decide),e1.1,e1.2,e2.1,e2.2];congr 1;by_cases q:x=14;.have:y≠14:=fun e=>Q ⟨q,e⟩;have e3:=e2.2;rw[gl.mpr this]at e3;rw[KM,nI]at e3;rw[e3];cases K1.s<;>rfl
 .have e3:=e1.2;rw[gl.mpr q]at e3;rw[KM,nI]at e3;rw[e3];rfl
structure P1(V x y:Nat)(v:Int):Prop where
y1:bV (dD V x y)=Y->0<=v/\(V=1->cW v=if dD V x y=2 then[1]else[])y2:V=2->y≠13->bV (dD V y x)=Y->0<=v
no:dD V x y=0->¬(V=2/\y≠13/\bV (dD V y x)=Y)->v<0
theorem P2(hm:V∈[1,2,4])(h1:KC x K1)(h2:KC y K2)(hx:x<16)(hy:y<16)(l1:K1.m<8192)(l2:K2.m<8192)(ne:x≠y\/14<=x):P1 V x y (ak V K1 K2):=by
 by_cases q:x=y
 .clear h2 hy;subst q;rcases n8 14 hx (ne.resolve_left fun q=>q rfl)with rfl|rfl;.have:=(by decide+kernel:∀V∈[1,2,4],dD V 14 14=-1) V hm;exact⟨fun e=>(by rw[this]at e;cases e),fun _ _ e=>(by rw[this]at e;cases e),fun e=>(by rw[this]at e;cases e)⟩
  .have:=(qY V hm 15 (by decide)).1;rewrite[am (by decide),am (by decide),am (by decide)]at this;exact⟨fun e=>(by rw[this]at e;cases e),fun _ _ e=>(by rw[this]at e;cases e),fun e=>(by rw[this]at e;cases e)⟩
 by_cases lo:x<15/\y<15
 .have f:=Gb hm lo.1 lo.2 q;rw[<-Gd hm h1 h2 lo.1 lo.2 (fun e=>q (e.1.trans e.2.symm))]at f;unfold vv at f;refine⟨fun e=>?_,fun e1 e2 e3=>?_,fun e1 e2=>?_⟩;.have f1:=f.1;rw[e,Bool.true_or]at f1;exact⟨cK f1.symm,fun e1=>f.2 e1 e⟩
  .have f1:=f.1;rw[aN ⟨e1,e2⟩,e3,lh,KN]at f1;exact cK f1.symm
  .have f1:=f.1;have f2:(decide (V=2/\y≠13)&&bV (dD V y x))=false:=by rw[<-KO,gG];exact fun e=>e2 ⟨(cK e.1).1,(cK e.1).2,e.2⟩
   rw[f2,e1]at f1;exact cY.mp (of_decide_eq_false f1.symm)
 .have n3:V≠3:=by rintro rfl;revert hm;decide
  by_cases sX:x=15
  .clear hx ne lo;subst sX;have hu:=(qY V hm y hy).2;have lS:=(qY V hm y hy).1;have y5:y<15:=(gk q).elim (fun w3=>hO 0x2010d041a4c219d001 rfl w3 hy) fun w3=>ax 674345111553 rfl w3;have e2:=h2.kP y5;have f1:=cK (Gc K1.m l1) (h1.u rfl).1;rw[vw n3];have nv:(K1.m==0&&!K1.s.isSome)=false:=by rw[gl.mpr (h1.u rfl).2.1];rfl
   unfold ke;rw[nv,f1.1];by_cases y6:y=12;.subst y6;rw[af rfl]at hu;rw[e2.1,af (.inl (by decide))];refine⟨fun _=>⟨fS 0,fun _=>by rw[hu];rfl⟩,fun _ _ _=>fS 0,fun e=>(by rw[hu]at e;cases e)⟩
   .rw[am y6]at hu;by_cases sY:y=11;.subst sY;rw[af rfl]at hu;rw[e2.1,am (fun q=>q.elim (by decide) nofun),am (fun q=>q.1 rfl),af (by decide)];refine⟨fun _=>⟨fS 0,fun _=>by rw[hu];rfl⟩,fun _ _ _=>fS 0,fun e=>(by rw[hu]at e;cases e)⟩
    .rw[am sY]at hu;refine⟨fun e=>(by rw[hu]at e;cases e),fun _ a e=>?_,fun e=>(by rw[hu]at e;cases e)⟩;rw[am a,am y6,am sY]at lS;rw[lS]at e;cases e
  .have y5:y=15:=fx (oU hy) (g9.mp fun r=>lo ⟨xt (oU hx) sX,r⟩);clear hy ne q lo;subst y5;have hu:=(qY V hm x hx).1;have lS:=(qY V hm x hx).2;have sX:x<15:=(gk sX).elim (fun w3=>ax 674345111553 rfl w3) fun w3=>hO 0x2010d041a4c219d001 rfl w3 hx;have e2:=h1.kP sX;have f1:=cK (Gc K2.m l2) (h2.u rfl).1;rw[vw n3];have nv:(K2.m==0&&!K2.s.isSome)=false:=by rw[gl.mpr (h2.u rfl).2.1];rfl
   unfold ke;rw[nv,f1.1,f1.2.1,e2.1,e2.2];by_cases Ge:x=13;.subst Ge;rw[af rfl]at hu;rw[af (.inr rfl)];exact⟨fun _=>⟨fS 0,fun _=>by rw[hu];rfl⟩,fun _ _ _=>fS 0,fun e=>(by rw[hu]at e;cases e)⟩
   rw[am Ge]at hu;by_cases uG:x=12
   .subst uG;rw[af rfl]at hu lS;rw[am (fun q=>q.elim (fun q=>q rfl) (by decide))];by_cases m4:V=4;.clear hm n3 lS;subst m4;rw[af ⟨by decide,rfl⟩];exact⟨fun e=>(by rw[hu]at e;cases e),fun e=>(nomatch e),fun _ _=>by decide⟩
    .rw[am m4]at hu;rw[am (fun q=>m4 q.2),am (fun q=>q rfl),af (by decide),am nofun];exact⟨fun _=>⟨by decide,fun _=>by rw[hu];rfl⟩,fun _ _ _=>by decide,fun e=>(by rw[hu]at e;cases e)⟩
   rw[am uG]at hu lS;by_cases vx:x=11
   .subst vx;rw[af rfl]at hu lS;rw[am (fun q=>q.elim (fun q=>q rfl) (by decide)),am (fun q=>q.1 (by decide)),am (fun q=>q rfl),am (by decide)];by_cases m2:V=2;.rw[af m2,af (.inl f1.2.2.2)];exact⟨fun e=>(by rw[hu]at e;cases e),fun _ _ _=>by decide,fun _ q=>ae ⟨m2,by decide,by rw[lS];rfl⟩ q⟩
    .rw[am m2,af (show aM 11&&&gJ K2.m≠aM 11 from f1.2.2.1)];exact⟨fun e=>(by rw[hu]at e;cases e),fun q=>ae q m2,fun _ _=>by decide⟩
   .rw[am vx]at hu lS;exact⟨fun e=>(by rw[hu]at e;cases e),fun _ _ e=>(by rw[lS]at e;cases e),fun e=>(by rw[hu]at e;cases e)⟩
theorem P3(Z:V∈[1,2,4])(H:KC x K1)(Q:KC y K2)(X:x<15)(U:y<15)(J:x≠y)(e1:bV (dD V x y)=aj)(e2:¬(V=2/\y≠13/\bV (dD V y x)=Y)):ak V K1 K2<0:=by
 have f:=(Gb Z X U J).1;rw[<-Gd Z H Q X U (fun e=>J (e.1.trans e.2.symm))]at f;unfold vv at f;have O:(decide (V=2/\y≠13)&&bV (dD V y x))=false:=by rw[<-KO,gG];exact fun e=>e2 ⟨(cK e.1).1,(cK e.1).2,e.2⟩
 rw[O,e1]at f;exact cY.mp (of_decide_eq_false f.symm)
end
noncomputable def pI:List Nat:=[0,1,2,3,4,5,6,7,10,13]
theorem mV(h:c<8\/c=10\/c=13):c∈pI:=by
 rcases h with h|rfl|rfl;.exact(by decide:∀c,c<8->c∈pI) c h
 .decide
 .decide
theorem P4:∀c∈pI,∀i,i<13->∀f,f<2->(cH[c]?=D (bn i f)↔i=oq c):=by decide+kernel
theorem y7:∀c∈pI,(2=c↔13=oq c)/\14≠oq c/\15≠oq c:=by decide+kernel
theorem y8:∀c∈pI,∃d,cH[c]?=D d/\jb d<12/\jb d≠6:=fun c h=>by
 have:=(by decide+kernel:∀c∈pI,((cH[c]?).map fun d=>decide (jb d<12/\jb d≠6))=D Y) c h;rcases e:cH[c]? with _|d;.rw[e]at this;cases this
 rw[e]at this;exact⟨d,rfl,cK (b9 this)⟩
theorem P5:∀m,m<8192->decide (c4 m=m->m&&&6144≠0->m=2^11\/m=2^12)=true:=kN (by decide+kernel)
theorem P6:∀i,i<13->eX i=aj->∀f,f<2->bn i f=bn i 0:=by decide+kernel
theorem vz(hi:i<13)(Z:f<2)(X:eX i=aj):bn i f=bn i 0:=P6 i hi X f Z
section
variable{T:List aa}{t s:Nat}
theorem sZ(nd:T.Nodup)(a:T[s]?=D d)(b:T[t]?=D d):s=t:=by obtain⟨v,x⟩:=bp.mp a;obtain⟨w,y⟩:=bp.mp b;exact(xo nd).mp (x.trans y.symm)
theorem PR.inj(h:PR T m l q)(nd:T.Nodup){i p p':Nat}(hi:i<13)(C:p∈l)(Z:p'∈l)(a:At T p i)(M:At T p' i):p=p':=by
 obtain⟨f,O,e⟩:=a;obtain⟨g,J,X⟩:=M;by_cases q:f=g;.clear J;subst q;exact sZ nd e X
 .rcases H:eX i with _|_;.rw[vz hi O H]at e;rw[vz hi J H]at X;exact sZ nd e X
  rcases(by exact(gk q).elim (fun U=>.inr (⟨fx (b5 0x35421ad02125000 rfl U J) (aB 659456 rfl),fx (ax 227668054016 rfl J) (aC 709778609152 rfl U)⟩)) fun U=>.inl (⟨fx (ax 227668054016 rfl O) (aC 709778609152 rfl U),fx (b5 0x35421ad02125000 rfl U O) (aB 659456 rfl)⟩):(f=1/\g=0)\/(f=0/\g=1))with⟨rfl,rfl⟩|⟨rfl,rfl⟩;.exact ae X (h.tw i hi H p C e p' Z)
  .exact ae e (h.tw i hi H p' Z X p C)
theorem y9(M:cH<+:T)(nd:T.Nodup)(L:KR c T K t)(u:aT V n K):∃x,Co T t x/\KC x K:=by
 have J:∀{c d z},c∈pI->cH[c]?=D d->T[t]?=D z->jb z≠jb d->t≠c:=fun Z e b h q=>by clear Z;subst q;rw[bX M e]at b;exact h (aI jb (b9 b).symm)
 induction L.vd using TV.casesOn with
|jA e=>clear J L;subst e;refine⟨13,⟨by decide,⟨_,bX M (d:=dJ "never") rfl,cm rfl⟩,fun c Z=>(y7 c (mV Z)).1,fun h=>ae h (by decide)⟩,⟨fun h=>ae h (by decide),fun _=>rfl,fun h=>ae h (by decide),fun h=>ae h (by decide)⟩⟩|lO i f hi a ne e=>
  obtain⟨r,e1,e2⟩:=qM (f:=f) hi;refine⟨i,⟨ax 620160529518593 rfl hi,⟨r,?_,ax 227667202048 rfl e2⟩,fun c Z=>?_,fun _=>⟨f,a,e⟩⟩,⟨fun _=>rfl,fun h=>ae h (ax 605625569302 rfl hi),fun h=>ae h (ax 605625602070 rfl hi),fun h=>ae h (ax 605625634838 rfl hi)⟩⟩;.rw[e,e1];unfold dj;split<;>first|rfl|exact ae hi (by decide)
  .rw[<-P4 c (mV Z) i hi f a];constructor;.intro q;subst q;obtain⟨d,O,_⟩:=y8 t (mV Z);rw[O,e.symm,<-bX M O]
   .intro q;exact sZ nd e (bX M q)|dZ y ne hS=>obtain⟨ps,rt,pd,fl,e⟩:=hS.row;refine⟨14,⟨by decide,⟨_,e,cm rfl⟩,fun c Z=>⟨fun q=>?_,fun q=>ae q (y7 c (mV Z)).2.1⟩,fun h=>ae h (by decide)⟩,⟨fun h=>ae h (by decide),fun h=>ae h (by decide),fun _=>⟨y,rfl⟩,fun h=>ae h (by decide)⟩⟩;obtain⟨d,O,A,_⟩:=y8 c (mV Z);exact ae q (J (mV Z) O e fun q=>by rw[q.symm]at A;exact ae (show(13:Int)<12 from A) (by decide))|sD l q m s ne e l2 H w=>
  refine⟨15,⟨by decide,⟨_,e,cm rfl⟩,fun c Z=>⟨fun q=>?_,fun q=>ae q (y7 c (mV Z)).2.2⟩,fun h=>ae h (by decide)⟩,⟨fun h=>ae h (by decide),fun h=>ae h (by decide),fun h=>ae h (by decide),fun _=>?_⟩⟩;.obtain⟨d,O,_,A⟩:=y8 c (mV Z);exact ae q (J (mV Z) O e fun q=>A q.symm)
  .clear e;obtain⟨X,p2,r,rfl⟩:E3 fun X p2 r=>l=X::p2::r:=by
    rcases l with _|⟨X,_|⟨p2,r⟩⟩;.cases l2
    .exact ae (show 2<=1 from l2) (by decide)
    .exact⟨_,_,_,rfl⟩
   have U:X≠p2:=fun e=>(fh.mp H.nd).1 (e▸aW);have m1:X∈X::p2::r:=aW;have m2:p2∈X::p2::r:=cI _ aW;have Q:∀i,i<13->q=I->m≠2^i:=fun i hi hq E=>by
    have f:∀p∈X::p2::r,At T p i:=fun p C=>by
     rcases H.all p C with⟨j,v,g⟩|e;.have:=(H.dX j v).mpr ⟨p,C,g⟩;rw[E,jm]at this;rw[cK this];exact g
     .rw[hq]at e;cases e
    exact U (H.inj nd hi m1 m2 (f X m1) (f p2 m2))
   refine⟨nJ fun h=>?_,fun E=>?_,fun e i hi=>Q i hi (by clear L u;subst e;exact w)⟩
   .have k:=u.kP h;clear L;subst k;rcases cK (P5 m H.lt) u.nm.2 h with e|e;.exact Q 11 (by decide) w e
    .exact Q 12 (by decide) w e
   .have E:m=0:=E;have f:∀p∈X::p2::r,q=D p:=fun p C=>(H.all p C).resolve_left fun⟨j,v,g⟩=>by have:=(H.dX j v).mpr ⟨p,C,g⟩;rw[E,nH]at this;cases this
    exact U (b9 ((f X m1).symm.trans (f p2 m2)))
theorem P7(nd:T.Nodup)(h:Co T s x)(h':Co T t x)(Z:x<14)(Q:Se T s)(O:Se T t):s=t:=by
 by_cases e:x=13;.have a:=(h.id 2 (.inl (by decide))).mpr e;rw[a,((h'.id 2 (.inl (by decide))).mpr e)]
 .have Z:x<13:=(gk e).elim (fun U=>ax 605625569281 rfl U) fun U=>hO 0x95041a44218d001 rfl U Z;obtain⟨f,J,e1⟩:=h.lO Z;obtain⟨g,H,e2⟩:=h'.lO Z;rcases X:eX x with _|_;.rw[vz Z J X]at e1;rw[vz Z H X]at e2;exact sZ nd e1 e2
  rw[Q x f Z J e1 X]at e1;rw[O x g Z H e2 X]at e2;exact sZ nd e1 e2
end
section
theorem pJ(T:List aa)(t:Nat):(uT T t=0/\∀x,T[t]?≠D (.ab [.int 6,x]))\/(uT T t=1/\∃x,T[t]?=D (.ab [.int 6,x])):=by
 have e:T[t]?.any vp=Y↔∃x,T[t]?=D (.ab [.int 6,x]):=by
  rcases T[t]? with _|d;.exact⟨nofun,nofun⟩
  exact PA.trans ⟨(by rintro⟨x,e⟩;exact⟨x,aI D e⟩),(by rintro⟨x,e⟩;exact⟨x,b9 e⟩)⟩
 unfold uT;by_cases h:T[t]?.any vp=Y;.exact .inr ⟨af h,e.mp h⟩
 .exact .inl ⟨am h,fun x q=>h (e.mpr ⟨x,q⟩)⟩
theorem Gf(h:∀x,T'[t]?=D (.ab [.int 6,x])->T[s]?=D (.ab [.int 6,x])):uT T' t<=uT T s:=by
 rcases pJ T' t with⟨e,_⟩|⟨e,x,Z⟩;.rw[e];exact bQ _
 .rcases pJ T s with⟨_,f⟩|⟨f,_⟩;.exact ae (h x Z) (f x)
  .rw[e,f];exact aE 1
theorem Gg(Q:V≠3):∀{n:Nat},n<=3->aT V n a->aT V n b->gK (fun x y=>gS V n x y aj) V a b=gK (fun x y=>gS V 3 x y aj) V a b:=fun{n}h Z X=>by
 have s:∀{n},aT V n a->aT V n b->gK (fun x y=>gS V n x y aj) V a b=gK (fun x y=>gS V (n+1) x y aj) V a b:=fun Z X=>Fi Q Z X;have h:=BG h;induction n,h using qJ;.exact(s Z X).trans ((s (Z.aq (bQ 1)) (X.aq (bQ 1))).trans (s (Z.aq (bQ 2)) (X.aq (bQ 2))))
 .exact(s Z X).trans (s (Z.aq (dh 1)) (X.aq (dh 1)))
 .exact s Z X
 .rfl
theorem cC.same(h:cC V T (s,s) K1 K2 c n):ak V K1 K2=0:=by
 obtain⟨rfl,e⟩:=KR.cV h.w1 h.w2 h.r1 h.r2;unfold ak u8;by_cases q:V=3;.rw[af q,af rfl]
 .rw[am q,<-Gg q (lj h.le) h.w1 h.w2];exact e (by clear e h;cases c<;>nofun) V q
theorem P8(h:cB K1=cB K2):K1.m=K2.m/\K1.s.isSome=K2.s.isSome:=by
 obtain⟨m,s⟩:=K1;obtain⟨m',s'⟩:=K2;injection h with h;injection h with X Z;injection Z with Z _;refine⟨j4 X,?_⟩;rcases s with _|x;.induction s' using cN with|none=>rfl|some y=>obtain⟨_,_,_,_,_,_⟩:=y;exact nomatch Z
 induction s' using cN with|none=>obtain⟨_,_,_,_,_,_⟩:=x;exact nomatch Z|some y=>rfl
theorem P9:∀x,x<15->∀y,y<15->aM x=aM y->(x==14)=(y==14)->x=y:=by decide+kernel
theorem Qa:∀x,x<15->aM x≠0->x<13/\aM x=2^x:=by decide+kernel
theorem Gh(O:KC x K1)(E:KC y K2)(U:x<16)(C:y<16)(M:x≠y):ak 3 K1 K2<0:=by
 show(if cB K1=cB K2 then(0:Int)else-1)<0;rw[am];.decide
 intro e;have e:=P8 e;have L:∀{K Q:Kd}{x:Nat},KC 15 K->KC x Q->x<15->K.m=Q.m->K.s.isSome=Q.s.isSome->False:=fun{K Q x}h h' U e1 e2=>by
  have f:=h'.kP U;have g:=h.u rfl;rw[f.1]at e1;rw[f.2]at e2;have p:=Qa x U (by rw[e1.symm];exact g.2.1);have w:K.s=none:=by rw[gl.mpr (show x≠14 by exact ax 605625602070 rfl p.1),KM,nI]at e2;exact e2
  exact g.2.2 w x p.1 (e1.trans p.2)
 by_cases q:x=15;.clear U;subst q;exact L O E ((gk M).elim (fun Z=>hO 0x2010d041a4c219d001 rfl Z C) fun Z=>ax 674345111553 rfl Z) e.1 e.2
 .by_cases A:y=15;.clear C M;subst A;exact L E O ((gk q).elim (fun Z=>ax 674345111553 rfl Z) fun Z=>hO 0x2010d041a4c219d001 rfl Z U) e.1.symm e.2.symm
  .have j:x<15:=(gk q).elim (fun Z=>ax 674345111553 rfl Z) fun Z=>hO 0x2010d041a4c219d001 rfl Z U;have l2:y<15:=(gk A).elim (fun Z=>ax 674345111553 rfl Z) fun Z=>hO 0x2010d041a4c219d001 rfl Z C;have d:=O.kP j;have r:=E.kP l2;rw[d.1,r.1,d.2,r.2]at e;exact M (P9 x j y l2 e.1 e.2)
theorem Pq.Gi(U:S.T<+:T')(J:Fq A R S.tr S.σ S.tr Z)(h:Iv A R W V b H m Q ⟨T',S.N,S.es,S.Tr,S.tr,Z⟩)(O:0<=v->V=1->cW v=[]):Pq A R W V b H m Q v S ⟨T',S.N,S.es,S.Tr,S.tr,Z⟩:=⟨.FT U J (.refl h fun q e x X=>by rw[O q e]at X;exact nomatch X),fun _=>⟨rfl,rfl⟩⟩
theorem Pq.Gj(C:Fq A R S.tr S.σ S.tr X)(h:Iv A R W V (b+1) H m Z S)(Q:St A R b S.T V H (S.N++[1]) S.es S.Tr S.Tr S.tr X)(M:0<=v)(L:V=1->cW v=[1]):Pq A R W V b H m Z v S ⟨S.T,S.N++[1],S.es,S.Tr,S.tr,X⟩:=by
 have K:=h.lN;have J:=h.lK;have O:Z<=S.N.length:=h.b0;have E:(S.N++[1]).drop Z=S.N.drop Z++[1]:=xr O;refine⟨⟨⟨Q,?_,?_,h.wl,h.nd,h.kn,?_,?_,h.dp⟩,dg _,C,[1],[],rfl,(bO _).symm,fun _=>rfl,fun _ q=>(nomatch q),fun _ e=>?_⟩,fun q=>ae M (cY.mpr q)⟩;.show(S.N++[1]).length+b<av;rw[aU,qg];exact(um _ 1 b▸K:S.N.length+1+b<av)
 .have J:S.es.length+S.Tr.length+(b+1)<W:=J;exact dM (dh _) J
 .show j7 S.T V m ((S.N++[1]).drop Z) S.Tr;rw[E];exact j7.aq Q.tb.base (dg _) (fun x U=>mh _ U) h.tk
 .show Z<=(S.N++[1]).length;rw[aU];exact aC 0xad0202901505000 rfl O
 .rw[L e];refine⟨fun x U=>U,fun x U=>?_⟩;show x∈(S.N++[1]).drop Z;rw[E];exact jO _ U
end
section
theorem vA(X:dd es d=Y)(U:ci d=1):uN 3 es σ [d]=D ((ca es d).getD .none,σ):=by show(if(dd es d&&ci d==1)=Y then D ((ca es d).getD .none,σ)else I)=_;rw[X,U];exact af rfl
theorem Qb(h:St A R b T V H N es Q O tr σ)(X:Z≠3)(U:Z≠8)(J:k (.bool aj) σ):CW (n+1) 77 [.ref R,.int Z,a,d] σ k:=by refine En ?_;apply o h.qU;apply o h.c1;apply o (pq h.c1);have e:ca [(aa.int 3,aa.ref (R+8)),(aa.int 8,aa.ref (R+9))] (.int Z)=none:=(am fun e=>X (aa.int.inj e).symm).trans (am fun e=>U (aa.int.inj e).symm);apply p ((vA rfl rfl).trans (by rw[e]));exact J
theorem Qc:∀x,x<16->[aa.int 11,aa.int 12].contains (.int (dj x))=false:=by decide+kernel
theorem qZ(hx:x<16):∀g∈[7,11,12,5,8,9],dj x≠g:=(by decide+kernel:∀x,x<16->∀g∈[7,11,12,5,8,9],dj x≠g) x hx
theorem jd:∀x,x<16->(dj x=6↔x=15):=by decide+kernel
theorem vC:∀x,x<16->(dj x=13↔x=14):=by decide+kernel
theorem bT(g:Nat)(hz:z=(g:Int))(Z:dj x=g->P)(X:dj x≠g->Q):br (decide ((dj x:Int)=z)) P Q:=by subst hz;exact bD (fun q=>Z (dr q)) fun q=>X fun e=>q (aI _ e)
theorem za(Z:x<16)(X:Q):br (dR.contains (.int (dj x))==Y) P Q:=by rw[F1 x Z];exact X
theorem Gk(Z:x<16)(X:Q):br ([aa.int 11,aa.int 12].contains (.int (dj x))==Y) P Q:=by rw[Qc x Z];exact X
theorem zb(Z:x<16)(U:y<16)(X:k (.int (if x=14/\y=14 then 3 else 5)) σ):CW (n+1) 93 [.int (dj x),.int (dj y)] σ k:=by
 refine ND ?_;refine bT 7 rfl (fun e=>ae e (qZ Z 7 (by decide))) fun _=>?_;refine bT 7 rfl (fun e=>ae e (qZ U 7 (by decide))) fun _=>?_;refine za Z (za U ?_);by_cases q:x=14/\y=14;.rw[af q]at X;refine bT 13 rfl (fun _=>?_) fun e=>ae ((vC x Z).mpr q.1) e;exact bT 13 rfl (fun _=>X) fun e=>ae ((vC y U).mpr q.2) e
 .rw[am q]at X;refine bT 13 rfl (fun e1=>?_) fun e1=>?_;.refine bT 13 rfl (fun e2=>ae ⟨(vC x Z).mp e1,(vC y U).mp e2⟩ q) fun _=>?_;exact Gk Z X
  .exact Gk Z X
theorem Qd:-1<=dD V x y/\dD V x y<=2:=by
 unfold dD;refine yZ F5 ?_;unfold pH;repeat' refine yZ ?_ ?_
 all_goals decide
theorem Qe(Q:V=3\/V∈[1,2,4])(h:V≠3):V∈[1,2,4]:=Q.resolve_left h
theorem Gl(hm:V=3\/V∈[1,2,4])(h:Iv A R W V (b+u+1) dp m b0 S)(Q:cC V S.T (s,t) K1 K2 c n')(z:eF S.T (s,t) K1 K2<m)(qX:∀S1 s' t' x y l k',S.T<+:S1.T->Iv A R W V (b+u) (dp+1) (eF S1.T (s',t') K1 K2) l S1->cC V S1.T (s',t') K1 K2 c n'->eF S1.T (s',t') K1 K2<=eF S.T (s,t) K1 K2->Co S1.T s' x->Co S1.T t' y->KC x K1->KC y K2->(x=15\/y=15\/(x=14/\y=14))->(V≠3->dD V x y=-1)->(∀S2,Pw A R W V b (dp+1) (eF S1.T (s',t') K1 K2) l (ak V K1 K2) S1 S2->k' (.bool (decide (0<=ak V K1 K2))) S2.σ)->CW (n+3) (if V=3 then 98 else 92) [.ref R,.int s',.int t'] S1.σ k')(hk:∀S',Pq A R W V b dp m b0 (ak V K1 K2) S S'->k (.bool (decide (0<=ak V K1 K2))) S'.σ):CW (n+5) 83 [.ref R,.int s,.int t] S.σ k:=by
 refine Eo ?_;have hb:b<=b+u+1:=bB 195018379264 rfl;refine bD (fun e=>?_) fun _=>?_;.clear z qX;cases dr e;have Z:ak V K1 K2=0:=Q.same;have:=hk _ (Pq.Gi (dg _) .rfl (h.le hb) fun _ _=>by rw[Z];rfl);rw[Z]at this;exact this
 apply o h.st.cR;apply FJ h.st.tb Q.r1;intro s' T1 bY t1 p1 f1 r1 zc u1;have h1:=h.az (aE _) t1 p1 f1;apply o h1.st.cR;have Gn:=Q.aq p1;apply FJ t1 Gn.r2;intro t' T2 cz i p2 f2 r2 Go u2;have O:=h1.az (aE _) i p2 f2;have q6:=p1.trans p2;have zc:Se T2 s':=zc.aq (r1.gQ t1.base) p2;have zd:KR c T2 K1 s':=r1.aq p2;have ze:cC V T2 (s',t') K1 K2 c n':=⟨Q.le,Q.w1,Q.w2,zd,r2⟩;have pK:eF T2 (s',t') K1 K2<=eF S.T (s,t) K1 K2:=by
  have a1:uT T2 s'<=uT S.T s:=by rw[j9 p2 (r1.gQ t1.base)];exact Gf u1
  have a2:uT T2 t'<=uT S.T t:=by refine bj (Gf u2) ?_;rw[j9 p1 (Q.r2.gQ (h.st.tb.base))];exact aE _
  unfold eF;exact jL (jL (aE _) a1) a2
 have E:∀S',Pq A R W V b dp m b0 (ak V K1 K2) ⟨T2,S.N,S.es,S.Tr,S.tr,cz⟩ S'->k (.bool (decide (0<=ak V K1 K2))) S'.σ:=fun S' q=>hk S' ⟨q.toPw.FT q6 (St.fq i (f1.trans f2)),q.cl⟩;clear hk;have zf:=i.nd;obtain⟨x,c1,k1⟩:=y9 i.base zf zd Q.w1;obtain⟨y,X,k2⟩:=y9 i.base zf r2 Q.w2;have Gp:=O.le hb;have C:∀{v:Int}{bb:Bool},(0<=v->V=1->cW v=[])->ak V K1 K2=v->decide (0<=v)=bb->k (.bool bb) cz:=fun{v bb}q e e2=>by have:=E _ (Pq.Gi (dg _) .rfl Gp (by rw[e];exact q));rw[e,e2]at this;exact this
 refine bD (fun e=>?_) fun ne=>?_;.clear r2 Go u2 pK X;cases dr e;exact C (fun _ _=>rfl) ze.same rfl
 have ne:s'≠t':=fun e=>ne (aI _ e);have vD:x≠y\/14<=x:=by
  by_cases q:x=y;.clear k2;subst q;exact .inr (nJ fun q=>ne (P7 zf c1 X (ax 706560479233 rfl q) zc Go))
  .exact .inl q
 have M:(x=15\/y=15\/(x=14/\y=14)\/(V≠3/\ak V K1 K2<0))->(V≠3->dD V x y=-1)->CW (n+4) 84 [.ref R,.int s',.int t'] cz k:=fun hc Qf=>by
  refine PD (n:=n+1) (b:=b) (b':=u) (S:=⟨T2,S.N,S.es,S.Tr,S.tr,cz⟩) O ze (dM pK z) ?_ E;intro S1 l k' K Qg eT g;have eT:S1.T=T2:=eT;by_cases U:x=15\/y=15\/(x=14/\y=14);.refine qX S1 s' t' x y l k' (by rw[eT];exact q6) K Qg (by rw[eT];exact pK) (by rw[eT];exact c1) (by rw[eT];exact X) k1 k2 U Qf g
  .have Z:=(hc.resolve_left fun q=>U (.inl q)).resolve_left (fun q=>U (.inr (.inl q)));have Z:=Z.resolve_left fun q=>U (.inr (.inr q));rw[am Z.1];have g:=g S1 (.refl (K.le (b8 b u)) fun q=>ae q (cY.mpr Z.2));rw[bS (cY.mpr Z.2)]at g;refine Ev ?_;have K:=K.st;rw[eT]at K;obtain⟨d,hd⟩:=c1.ir;obtain⟨d',j⟩:=X.ir;apply o K.cR;apply o K.tb.az;apply o K.tb.fW;apply o (K.tb.row hd);apply o (c1.di hd);apply o (K.tb.row j);apply o (X.di j);refine bT 6 rfl (fun e=>ae (.inl ((jd x c1.lt).mp e)) U) fun _=>?_;refine bT 6 rfl (fun e=>ae (.inr (.inl ((jd y X.lt).mp e))) U) fun _=>?_;apply zb c1.lt X.lt;rw[am fun q=>U (.inr (.inr q))];exact Qb K (by decide) (by decide) g
 apply o O.st.eZ;refine bM 3 rfl (fun e3=>?_) fun e3=>?_
 .clear hm h Q qX h1 Gn ze E Gp;subst e3;obtain⟨d,hd⟩:=c1.ir;obtain⟨d',j⟩:=X.ir;apply o O.st.cR;apply o i.az;apply o i.fW;refine bC c1 13 rfl (.inr (.inr rfl)) (fun q=>ae c1.lt (by rw[q];decide)) fun _=>?_;refine bC X 13 rfl (.inr (.inr rfl)) (fun q=>ae X.lt (by rw[q];decide)) fun _=>?_;apply o (i.row hd);apply o (c1.di hd);have no:x≠y->k (.bool aj) cz:=fun q=>by have Z:=Gh k1 k2 c1.lt X.lt q;exact C (v:=ak 3 K1 K2) (fun q=>ae q (cY.mpr Z)) rfl (bS (cY.mpr Z))
  refine vt c1.lt (fun q=>no fun e=>?_) fun q=>?_;.have:=vD.resolve_left fun q=>q e;exact vD.elim (fun w=>(gk w).elim (fun w2=>b5 0xad032ad02121003 rfl w2 e) fun w2=>b5 0xa5422ad02121003 rfl w2 e) fun w=>hO 0x95021a482021003 rfl w q
  apply o (i.row j);apply o (X.di j);refine vt X.lt (fun H=>no fun e=>?_) fun H=>?_;.exact Oo 0xad022954219502521003 rfl q H e
  exact M ((n8 14 c1.lt (g9.mp q)).elim (fun a=>(n8 14 X.lt (g9.mp H)).elim (fun b=>.inr (.inr (.inl ⟨a,b⟩))) fun b=>.inr (.inl b)) .inl) fun q=>ae rfl q
 have hm:=Qe hm e3;have L:=P2 hm k1 k2 c1.lt X.lt (Q.w1.nm).1 (Q.w2.nm).1 vD;have Gq:b+1<=b+u+1:=bB 0xb5a0005a0000 rfl;apply F8 (n:=n) O.st O.lQ c1 X r2
 .intro r z f;refine bD (fun e1=>?_) fun e1=>?_;.clear f;subst e1;have:=L.y1 (by rw[z];rfl);exact C (v:=ak V K1 K2) (fun _ e=>by rw[this.2 e,z];rfl) rfl (aN this.1)
  have ny:bV (dD V x y)=false:=by rw[z];unfold bV;rw[gl.mpr e1,gl.mpr f];rfl
  have rest:¬(V=2/\y≠13/\bV (dD V y x)=Y)->br (decide (r<0)) (CW (n+4) 84 [.ref R,.int s',.int t'] cz k) (k (.bool (decide (r<0))) cz):=fun q=>by
   have q7:-1<=r/\r<=2:=by rw[z.symm];exact Qd
   refine bD (fun H=>?_) fun H=>?_
   .have Qh:r=-1:=BH (Int.le_sub_one_of_lt H) q7.1;clear f e1 q7 H;subst Qh;refine M ?_ fun _=>z;by_cases hx:x=15;.exact .inl hx
    by_cases hy:y=15;.exact .inr (.inl hy)
    refine .inr (.inr ?_);by_cases e:x=y;.clear X k2 M L ny q z hy;subst e;exact .inl (by have:=(n8 14 c1.lt (vD.resolve_left fun q=>q rfl)).resolve_right hx;exact⟨this,this⟩)
    .exact .inr ⟨e3,P3 hm k1 k2 (by have:=c1.lt;exact(gk hx).elim (fun w=>ax 674345111553 rfl w) fun w=>hO 0x2010d041a4c219d001 rfl w this) (by have:=X.lt;exact(gk hy).elim (fun w=>ax 674345111553 rfl w) fun w=>hO 0x2010d041a4c219d001 rfl w this) e ny q⟩
   .have Qi:r=0:=BH (YT (show r<0+1 from KL.mpr ⟨YT (show r<1+1 from KL.mpr ⟨q7.2,f⟩),e1⟩)) (ig.mp H);clear f e1 q7 H;subst Qi;have Z:=L.no z q;exact C (v:=ak V K1 K2) (fun q=>ae q (cY.mpr Z)) rfl (bS (cY.mpr Z))
  apply o O.st.eZ;refine bM 2 rfl (fun e2=>?_) fun e2=>rest fun q=>e2 q.1;refine bN (bC X 2 rfl (.inl (by decide)) (fun q=>rest fun H=>H.2.1 q) fun q=>?_);have q:y≠13:=q;apply F8 (n:=n) O.st O.lQ X c1 zd
  .intro r' J Gr;refine bD (fun e1=>?_) fun e1=>rest fun H=>?_;.clear Gr;subst e1;have Z:=L.y2 e2 q (by rw[J];rfl);exact C (v:=ak V K1 K2) (fun _ e=>by rw[e2]at e;cases e) rfl (aN Z)
   .have:=H.2.2;rw[J]at this;unfold bV at this;rw[gl.mpr e1,gl.mpr Gr]at this;cases this
  .intro J eh lT f3;have Z:=L.y2 e2 q (by rw[J];rfl);have:=E _ (Pq.Gj (S:=⟨T2,S.N,S.es,S.Tr,S.tr,cz⟩) f3 (O.le Gq) (lT.le hb) Z fun e=>by rw[e2]at e;cases e);rw[aN Z]at this;exact this
 .intro J eh lT f3;have Z:=L.y1 (by rw[J];rfl);have:=E _ (Pq.Gj (S:=⟨T2,S.N,S.es,S.Tr,S.tr,cz⟩) f3 (O.le Gq) (lT.le hb) Z.1 fun e=>by rw[Z.2 e,J];rfl);rw[aN Z.1]at this;exact this
end
noncomputable def s0(b x:Nat):Bool:=b.testBit x||(b.testBit 2&&(x==0||x==1))||(b.testBit 5&&(x==3||x==4))||(b.testBit 10&&x==9)
noncomputable def vE(b x:Nat):Bool:=s0 b x||(x==2&&(b.testBit 0||b.testBit 1))||(x==5&&(b.testBit 3||b.testBit 4))||(x==10&&b.testBit 9)
theorem Qj(Z:a<8192):a&&&r=a↔∀i,i<13->a.testBit i=Y->r.testBit i=true:=by
 constructor;.intro e i _ h;rw[<-e,BI,gG]at h;exact h.2
 .intro h;refine pB (dM uq Z) Z fun i hi=>?_;rw[BI,gG];exact⟨fun q=>q.1,fun q=>⟨q,h i hi q⟩⟩
theorem zg(Z:a<8192):a&&&r≠0↔∃i,i<13/\a.testBit i=Y/\r.testBit i=true:=by
 constructor;.intro e;refine nJ fun q=>e (pB (dM uq Z) (by decide) fun i hi=>?_);rw[BI,gG,nH];exact⟨fun h=>ae ⟨i,hi,h⟩ q,nofun⟩
 .rintro⟨i,_,a,b⟩e;have:(0:Nat).testBit i=true:=by rw[<-e,BI,a,b];rfl
  rw[nH]at this;cases this
theorem q8(h:m&&&r≠0↔b=Y):(if m&&&r≠0 then v else 0).testBit x=(b&&v.testBit x):=by
 rcases b with _|_;.rw[am (fun q=>(by have h:=h.mp q;contradiction)),nH,YU]
 rw[af (h.mpr rfl)];rfl
theorem s8(Z:m<8192)(j:Nat)(X:j<13):m&&&2^j≠0↔m.testBit j=true:=(zg Z).trans ⟨by rintro⟨i,_,a,b⟩;rw[jm]at b;rw[cK b];exact a,fun h=>⟨j,X,h,by rw[jm];exact aN rfl⟩⟩
theorem Gs(Z:m<8192)(j l:Nat)(X:j<13)(U:l<13):m&&&(2^j|||2^l)≠0↔(m.testBit j||m.testBit l)=true:=(zg Z).trans ⟨by rintro⟨i,_,a,b⟩;rw[jR,jm,jm,jS]at b;rw[jS];exact b.imp (fun b=>by rw[cK b];exact a) fun b=>by rw[cK b];exact a,fun h=>(rW.mp h).elim (fun h=>⟨j,X,h,by rw[jR,jm,aN rfl];rfl⟩) fun h=>⟨l,U,h,by rw[jR,jm,jm,aN (rfl:l=l),KN]⟩⟩
theorem cb:∀x,x<11->(3).testBit x=(x==0||x==1)/\(24).testBit x=(x==3||x==4)/\(512).testBit x=(x==9)/\(4).testBit x=(x==2)/\(32).testBit x=(x==5)/\(1024).testBit x=(x==10)/\(2048).testBit x=false:=by decide+kernel
theorem Gu(Z:m<8192)(X:x<11):(gJ m).testBit x=s0 m x:=by unfold gJ s0;have c:=cb x X;rw[jR,jR,jR,q8 (s8 Z 2 (by decide)),q8 (s8 Z 5 (by decide)),q8 (s8 Z 10 (by decide)),c.1,c.2.1,c.2.2.1]
theorem Qk(Z:m<8192)(X:x<11):(j2 m U).testBit x=vE m x:=by
 unfold j2 vE;have c:=cb x X;have e:(if U=Y then 0 else 2048:Nat).testBit x=false:=by cases U;exact c.2.2.2.2.2.2;exact nH x
 rw[jR,jR,jR,jR,Gu Z X,q8 (r:=3) (Gs Z 0 1 (by decide) (by decide)),q8 (r:=24) (Gs Z 3 4 (by decide) (by decide)),q8 (s8 Z 9 (by decide)),c.2.2.2.1,c.2.2.2.2.1,c.2.2.2.2.2.1,e,xu,KP (m.testBit 0||m.testBit 1),KP (m.testBit 3||m.testBit 4),KP (m.testBit 9)]
noncomputable def iu(V:Nat)(Z:Bool)(b x:Nat):Bool:=if V=2 then(j2 b Z).testBit x else(gJ b).testBit x
theorem zh:∀m,m<8192->decide (m&&&6144=0->m.testBit 11=aj/\m.testBit 12=aj/\m&&&4096=0/\m&&&2048=0)=true:=kN (by decide+kernel)
noncomputable def pL(x j:Nat):Bool:=x==j||(j==2&&(x==0||x==1))||(j==5&&(x==3||x==4))||(j==10&&x==9)
noncomputable def rl(V x j:Nat):Bool:=pL x j||(V==2&&pL j x)
theorem Gv(Z:x<13):s0 b x=Y↔∃j,j<13/\b.testBit j=Y/\pL x j=true:=by
 unfold s0 pL;simp only[jS,gG,aV];constructor
 .rintro(((h|h)|h)|h);.exact⟨x,Z,h,.inl (.inl (.inl rfl))⟩
  .exact⟨2,by decide,h.1,.inl (.inl (.inr ⟨rfl,h.2⟩))⟩
  .exact⟨5,by decide,h.1,.inl (.inr ⟨rfl,h.2⟩)⟩
  .exact⟨10,by decide,h.1,.inr ⟨rfl,h.2⟩⟩
 .rintro⟨j,X,h,((e|e)|e)|e⟩;.clear X;subst e;exact .inl (.inl (.inl h))
  .exact .inl (.inl (.inr ⟨e.1▸h,e.2⟩))
  .exact .inl (.inr ⟨e.1▸h,e.2⟩)
  .exact .inr ⟨e.1▸h,e.2⟩
theorem Ql(X:x<13):vE b x=Y↔∃j,j<13/\b.testBit j=Y/\(pL x j=Y\/pL j x=Y):=by
 unfold vE;rw[jS,jS,jS,Gv X];unfold pL;simp only[jS,gG,aV];constructor
 .rintro(((⟨j,a,b,c⟩|h)|h)|h);.exact⟨j,a,b,.inl c⟩
  .exact h.2.elim (fun q=>⟨0,by decide,q,.inr (.inl (.inl (.inr ⟨h.1,.inl rfl⟩)))⟩) fun q=>⟨1,by decide,q,.inr (.inl (.inl (.inr ⟨h.1,.inr rfl⟩)))⟩
  .exact h.2.elim (fun q=>⟨3,by decide,q,.inr (.inl (.inr ⟨h.1,.inl rfl⟩))⟩) fun q=>⟨4,by decide,q,.inr (.inl (.inr ⟨h.1,.inr rfl⟩))⟩
  .exact⟨9,by decide,h.2,.inr (.inr ⟨h.1,rfl⟩)⟩
 .rintro⟨j,Z,h,e|((e|e)|e)|e⟩;.exact .inl (.inl (.inl ⟨j,Z,h,e⟩))
  .exact .inl (.inl (.inl ⟨j,Z,h,.inl (.inl (.inl e.symm))⟩))
  .exact .inl (.inl (.inr ⟨e.1,e.2.imp (fun q=>by rw[q]at h;exact h) fun q=>by rw[q]at h;exact h⟩))
  .exact .inl (.inr ⟨e.1,e.2.imp (fun q=>by rw[q]at h;exact h) fun q=>by rw[q]at h;exact h⟩)
  .exact .inr ⟨e.1,by rw[e.2]at h;exact h⟩
theorem vF(X:b<8192)(Z:x<11):iu V U b x=Y↔∃j,j<13/\b.testBit j=Y/\rl V x j=true:=by
 unfold iu rl;by_cases q:V=2;.rw[af q,aV.mpr q];rw[Qk X Z,Ql (gY Z (by decide))];simp only[KH,jS]
 .rw[am q,gl.mpr q,Gu X Z,Gv (gY Z (by decide))];simp only[YU,xu]
theorem Gw(Z:j<13)(X:x<11):iu V U (2^j) x=rl V x j:=by
 rw[uo,vF (xn (by decide) Z) X];constructor;.rintro⟨J,_,h,e⟩;rw[jm]at h;rw[cK h];exact e
 .intro e;exact⟨j,Z,by rw[jm];exact aN rfl,e⟩
theorem Qm(Z:x<11):iu V X 0 x=false:=by rw[jJ,Ne,vF (by decide) Z];rintro⟨j,_,h,_⟩;rw[nH]at h;cases h
section
noncomputable def fN(K:Kd):Bool:=K.m==0&&!K.s.isSome
noncomputable def ft(V:Nat)(a b:Kd):Int:=iN (fun x y=>gS V 3 x y aj) a.s b.s
structure Lo(K:Kd):Prop where
lt:K.m<8192
lo:K.m&&&6144=0
theorem ta(J:V≠3)(X:Lo K1)(U:Lo K2)(Z:fN K1=aj):ak V K1 K2=if V=2 then(if K1.m&&&j2 K2.m (fN K2)≠0\/0<=ft V K1 K2 then 0 else-1)else if K1.m&&&gJ K2.m≠K1.m then-1 else if(!K1.s.isSome)=Y then 0 else ft V K1 K2:=by have a:=cK (zh _ X.lt) X.lo;have b:=cK (zh _ U.lt) U.lo;have Z:(K1.m==0&&!K1.s.isSome)=false:=Z;rw[vw J];unfold ke;rw[b.2.2.1,b.2.2.2,a.2.2.1,Z,am (fun q=>q.elim (fun q=>q rfl) nofun),am (fun q=>q.1 rfl),am (fun q=>q rfl),am (fun q=>q rfl)];rfl
theorem Gx(U:V≠3)(Z:V≠2)(X:Lo K1)(l2:Lo K2)(J:fN K1=aj):(0<=ak V K1 K2↔(∀i,i<13->K1.m.testBit i=Y->iu V (fN K2) K2.m i=Y)/\(K1.s.isSome=Y->0<=ft V K1 K2))/\(0<=ak V K1 K2->ak V K1 K2=if(!K1.s.isSome)=Y then 0 else ft V K1 K2):=by
 rw[ta U X l2 J,am Z];have e:(∀i,i<13->K1.m.testBit i=Y->iu V (fN K2) K2.m i=Y)↔K1.m&&&gJ K2.m=K1.m:=by rw[Qj X.lt];unfold iu;simp only[am Z]
 rw[e];by_cases q:K1.m&&&gJ K2.m=K1.m
 .rw[am (fun H=>H q)];refine⟨?_,fun _=>rfl⟩;rcases K1.s.isSome with _|_;.exact⟨fun _=>⟨q,nofun⟩,fun _=>fS 0⟩
  exact⟨fun h=>⟨q,fun _=>h⟩,fun h=>h.2 rfl⟩
 .rw[af q];exact⟨⟨fun h=>ae h (by decide),fun h=>ae h.1 q⟩,fun h=>ae h (by decide)⟩
theorem Gy(U:Lo K1)(l2:Lo K2)(J:fN K1=aj):(0<=ak 2 K1 K2↔(∃i,i<13/\K1.m.testBit i=Y/\iu 2 (fN K2) K2.m i=Y)\/0<=ft 2 K1 K2)/\(0<=ak 2 K1 K2->ak 2 K1 K2=0):=by
 rw[ta (by decide) U l2 J,af rfl];rw[((zg U.lt).symm)];by_cases q:K1.m&&&j2 K2.m (fN K2)≠0\/0<=ft 2 K1 K2;.rw[af q];exact⟨⟨fun _=>q,fun _=>fS 0⟩,fun _=>rfl⟩
 .rw[am q];exact⟨⟨fun h=>ae h (by decide),fun h=>ae h q⟩,fun h=>ae h (by decide)⟩
theorem vG(H:V≠3)(hi:i<11)(l2:Lo K2):ak V (.mk (2^i) I) K2=if iu V (fN K2) K2.m i=Y then 0 else-1:=by
 have X:Lo (.mk (2^i) I):=⟨(xn (a:=2) (m:=i) (n:=13) (by decide) (gY hi (by decide))),(by decide:∀i,i<11->2^i&&&6144=0) i hi⟩;have U:fN (.mk (2^i) I)=false:=by show(2^i==0&&Y)=aj;rw[gl.mpr (jl (uj i))];rfl
 have b:∀j,((Kd.mk (2^i) I).m).testBit j=Y↔i=j:=fun j=>by show(2^i).testBit j=Y↔_;rw[jm];exact decide_eq_true_iff
 have M:¬(0<=ft V (.mk (2^i) I) K2):=by show¬((0:Int)<=-1);decide
 by_cases Q:V=2
 .clear H;subst Q;have h:=Gy X l2 U;by_cases q:iu 2 (fN K2) K2.m i=Y;.rw[af q];exact h.2 (h.1.mpr (.inl ⟨i,gY hi (by decide),(b i).mpr rfl,q⟩))
  .rw[am q];have O:ak 2 (.mk (2^i) I) K2=0\/ak 2 (.mk (2^i) I) K2=-1:=by
    rw[ta (by decide) X l2 U,af rfl];split;.exact .inl rfl
    .exact .inr rfl
   refine O.resolve_left fun e=>?_;rcases h.1.mp (by rw[e];exact fS 0)with⟨j,_,E,C⟩|L;.rw[<-(b j).mp E]at C;exact q C
   .exact M L
 .have h:=Gx H Q X l2 U;by_cases q:iu V (fN K2) K2.m i=Y;.rw[af q];exact h.2 (h.1.mpr ⟨fun j _ E=>by rw[<-(b j).mp E];exact q,nofun⟩)
  .rw[am q];have O:ak V (.mk (2^i) I) K2=0\/ak V (.mk (2^i) I) K2=-1:=by
    rw[ta H X l2 U,am Q];split;.exact .inr rfl
    .exact .inl rfl
   refine O.resolve_left fun e=>?_;exact q ((h.1.mp (by rw[e];exact fS 0)).1 i (gY hi (by decide)) ((b i).mpr rfl))
theorem pM(U:V≠3)(l2:Lo K2):ak V (.mk 0 (D y)) K2=if V=2 then(if 0<=ft V (.mk 0 (D y)) K2 then 0 else-1)else ft V (.mk 0 (D y)) K2:=by
 rw[ta U (K1:=.mk 0 (D y)) ⟨(by decide:0<8192),BJ 6144⟩ l2 rfl];by_cases Z:V=2
 .rw[af Z,af Z];have e:(Kd.mk 0 (D y)).m&&&j2 K2.m (fN K2)=0:=BJ _;by_cases q:0<=ft V (.mk 0 (D y)) K2;.rw[af q,af (.inr q)]
  .rw[am q,am (fun X=>X.elim (fun X=>X e) q)]
 .rw[am Z,am Z,am (fun q=>q (BJ _)),am nofun]
end
def dm(K Z:Kd):Prop:=(∃i,A3 (i<11) (K.m.testBit i=Y) (Z=.mk (2^i) I))\/∃y,K.s=D y/\Z=.mk 0 (D y)
theorem Qo:∀i,i<13->c4 (2^i)=2^i:=by decide+kernel
theorem zj:∀i,i<11->2^i<8192/\2^i&&&6144=0:=by decide+kernel
section
variable{t p m:Nat}
theorem zk(h:i<11):Lo (.mk (2^i) I):=⟨(zj i h).1,(zj i h).2⟩
theorem zl:Lo (.mk 0 (D y)):=⟨(by decide:0<8192),BJ 6144⟩
theorem dm.lo(h:dm K K'):Lo K':=by
 rcases h with⟨i,hi,_,rfl⟩|⟨y,_,rfl⟩;.exact zk hi
 .exact zl
theorem tc(h:Lo K)(hi:i<13)(Z:K.m.testBit i=Y):i<11:=by
 have:=cK (zh _ h.lt) h.lo;by_cases q:i<11;.exact q
 .rcases n8 11 hi (g9.mp q)with rfl|rfl;.rw[this.1]at Z;cases Z
  .rw[this.2.1]at Z;cases Z
theorem dm.wf(Z:aT V n K)(h:dm K K'):aT V n K':=by
 rcases h with⟨i,hi,_,rfl⟩|⟨y,e,rfl⟩;.exact aT.aq (n:=0) ⟨⟨(zj i hi).1,Qo i (gY hi (by decide))⟩,rfl⟩ (bQ n)
 .obtain⟨m,s⟩:=K;rcases n with _|n;.rw[show s=I from Z.2]at e;cases e
  have:=Z.2 y e;exact⟨⟨by decide,rfl⟩,fun x e=>by cases e;exact⟨⟨by decide,this.1.2⟩,this.2⟩⟩
theorem dm.dp(h:dm K Z):cL Z<=cL K:=by
 obtain⟨m,s⟩:=K;rcases h with⟨i,hi,_,rfl⟩|⟨y,e,rfl⟩;.exact bQ _
 .rw[show s=D y from e];exact aE _
theorem zm(e:T[p]?=D d)(h:jb d≠6):uT T p=0:=by
 rcases pJ T p with⟨a,_⟩|⟨_,x,Z⟩;.exact a
 .rw[e]at Z;clear e;cases Z;exact ae rfl h
theorem vH(Q:cH<+:T)(X:PR T K.m l q)(Z:dC c T K.s l q)(L:Lo K)(O:p∈l):∃U,A4 (dm K U) (KR c T U p) (uT T p=0) (U.s.isSome=Y->q=D p):=by
 rcases X.all p O with⟨i,hi,J⟩|e;.have E:=(X.dX i hi).mpr ⟨p,O,J⟩;refine⟨_,.inl ⟨i,tc L hi E,E,rfl⟩,qN hi Q J,?_,nofun⟩;obtain⟨f,_,e⟩:=J;exact zm e fun q=>by have:=pA (i:=i) (f:=f);rw[q]at this;exact ae this (by decide)
 .rcases H:K.s with _|y;.rw[H]at Z;rw[show q=I from Z]at e;cases e
  rw[H]at Z;obtain⟨A,C,_,M⟩:=Z;rw[e]at C;cases C;clear X;subst e;obtain⟨_,_,_,_,e⟩:=M.row;exact⟨_,.inr ⟨y,H,rfl⟩,ve Q M,zm e (show(13:Int)≠6 by decide),fun _=>rfl⟩
theorem q9(Q:cH<+:T)(E:PR T K.m l q)(O:dC c T K.s l q)(h:dm K C):∃p∈l,KR c T C p:=by
 rcases h with⟨i,hi,M,rfl⟩|⟨y,e,rfl⟩;.have hi:i<13:=gY hi (by decide);obtain⟨p,X,L⟩:=(E.dX i hi).mp M;exact⟨p,X,qN hi Q L⟩
 .rw[e]at O;obtain⟨p,_,X,A⟩:=O;exact⟨p,X,ve Q A⟩
theorem pN(Z:V≠3)(hi:i<11)(l2:Lo K2):0<=ak V (.mk (2^i) I) K2↔iu V (fN K2) K2.m i=true:=by
 rw[vG Z hi l2];by_cases q:iu V (fN K2) K2.m i=Y;.rw[af q];exact⟨fun _=>q,fun _=>fS 0⟩
 .rw[am q];exact⟨fun h=>ae h (by decide),fun h=>ae h q⟩
theorem VU(Z:V≠3)(H:V≠2)(Q:Lo K1)(l2:Lo K2)(C:fN K1=aj):(0<=ak V K1 K2↔∀U,dm K1 U->0<=ak V U K2)/\(0<=ak V K1 K2->ak V K1 K2=match K1.s with|some y=>ak V (.mk 0 (D y)) K2|none=>0):=by
 have h:=Gx Z H Q l2 C;have e:∀y,K1.s=D y->ak V (.mk 0 (D y)) K2=ft V K1 K2:=fun y e=>by rw[pM Z l2,am H];unfold ft;rw[e];rfl
 refine⟨h.1.trans ⟨fun q U M=>?_,fun q=>⟨fun i hi X=>?_,fun J=>?_⟩⟩,fun q=>(h.2 q).trans ?_⟩
 .rcases M with⟨i,hi,X,rfl⟩|⟨y,O,rfl⟩;.exact(pN Z hi l2).mpr (q.1 i (gY hi (by decide)) X)
  .rw[e y O];exact q.2 (by rw[O];rfl)
 .have hi:=tc Q hi X;exact(pN Z hi l2).mp (q _ (.inl ⟨i,hi,X,rfl⟩))
 .obtain⟨y,E⟩:=BK.mp J;rw[<-e y E];exact q _ (.inr ⟨y,E,rfl⟩)
 .rcases J:K1.s with _|y;.rfl
  exact(e y J).symm
theorem Gz(O:Lo K1)(l2:Lo K2)(C:fN K1=aj):0<=ak 2 K1 K2↔∃H,dm K1 H/\0<=ak 2 H K2:=by
 have h:=Gy O l2 C;have e:∀y,K1.s=D y->(0<=ak 2 (.mk 0 (D y)) K2↔0<=ft 2 K1 K2):=fun y e=>by
  rw[pM (by decide) l2,af rfl];unfold ft;rw[e];show 0<=ite (0<=iN _ (D y) K2.s) _ _↔_;split;.exact⟨fun _=>by assumption,fun _=>fS 0⟩
  .exact⟨fun h=>ae h (by decide),fun h=>ae h (by assumption)⟩
 refine h.1.trans ⟨?_,?_⟩
 .rintro(⟨i,hi,J,M⟩|q);.have hi:=tc O hi J;exact⟨_,.inl ⟨i,hi,J,rfl⟩,(pN (by decide) hi l2).mpr M⟩
  .rcases X:K1.s with _|y;.rw[show ft 2 K1 K2=-1 by unfold ft;rw[X];rfl]at q;exact ae q (by decide)
   exact⟨_,.inr ⟨y,X,rfl⟩,(e y X).mpr q⟩
 .rintro⟨H,⟨i,hi,J,rfl⟩|⟨y,X,rfl⟩,q⟩;.exact .inl ⟨i,gY hi (by decide),J,(pN (by decide) hi l2).mp q⟩
  .exact .inr ((e y X).mp q)
theorem VT(X:V≠3)(E:(∃i,i<11/\K1=.mk (2^i) I)\/∃y,K1=.mk 0 (D y))(l2:Lo K2):(∀J,dm K2 J->0<=ak V K1 J->ak V K1 K2=ak V K1 J)/\(0<=ak V K1 K2->∃J,dm K2 J/\0<=ak V K1 J):=by
 rcases E with⟨i,hi,rfl⟩|⟨y,rfl⟩
 .constructor
  .intro J Q q;have U:=(pN X hi Q.lo).mp q;rw[vG X hi Q.lo,af U,vG X hi l2,af];clear q;rcases Q with⟨j,Z,H,rfl⟩|⟨y,e,rfl⟩;.have U:iu V _ (2^j) i=true:=U;rw[Gw (gY Z (by decide)) hi]at U;exact(vF l2.lt hi).mpr ⟨j,gY Z (by decide),H,U⟩
   .have U:iu V _ 0 i=true:=U;rw[Qm hi]at U;cases U
  .intro q;refine cps fun P C=>?_;obtain⟨j,Z,H,e⟩:=(vF l2.lt hi).mp ((pN X hi l2).mp q);refine C ?_;have Z:=tc l2 Z H;refine⟨_,.inl ⟨j,Z,H,rfl⟩,(pN X hi (zk Z)).mpr ?_⟩;show iu V _ (2^j) i=Y;rw[Gw (gY Z (by decide)) hi];exact e
 .have e:∀z,K2.s=D z->ak V (.mk 0 (D y)) K2=ak V (.mk 0 (D y)) (.mk 0 (D z)):=fun z e=>by rw[pM X l2,pM X zl];unfold ft;rw[e];rfl
  constructor
  .rintro J(⟨j,Z,H,rfl⟩|⟨z,hz,rfl⟩)q;.rw[pM X (zk Z)]at q;have q:(0:Int)<=if V=2 then(if(0:Int)<=-1 then 0 else-1)else-1:=q;rw[am (by decide:¬(0:Int)<=-1),ite_self]at q;exact ae q (by decide)
   .exact e z hz
  .intro q;rcases O:K2.s with _|z;.rw[pM X l2,show ft V (.mk 0 (D y)) K2=-1 by unfold ft;rw[O];rfl,am (by decide:¬(0:Int)<=-1),ite_self]at q;exact ae q (by decide)
   exact⟨_,.inr ⟨z,O,rfl⟩,e z O▸q⟩
end
section
variable{R W W' V b b' dp m b0:Nat}{c d:Nat}
theorem bF{p:Prop}{i:Decidable p}(Z:¬p->A)(X:p->B):br (decide p==aj) A B:=bI (fun h=>Z fun q=>by rw[aN q]at h;cases h) fun h=>X (nJ fun q=>by rw[bS q]at h;cases h)
theorem tf:x∈cW (c:Int)↔(c.testBit 0=Y/\x=1)\/(c.testBit 1=Y/\x=2)\/(c.testBit 2=Y/\x=11):=by
 have f:∀{b:Bool}{y:Nat},x∈(if b=Y then[y]else[])↔b=Y/\x=y:=fun{b y}=>by
  cases b;.exact⟨fun h=>ae h bK,fun h=>(by have h:=h.1;contradiction)⟩
  .exact⟨fun h=>⟨rfl,ba.mp h⟩,fun h=>ba.mpr h.2⟩
 show x∈_++(_++_)↔_;rw[dI,dI,f,f,f];rfl
theorem GA:x∈cW ((c|||d:Nat):Int)↔x∈cW (c:Int)\/x∈cW (d:Int):=by
 rw[tf,tf,tf,jR,jR,jR,jS,jS,jS];constructor
 .rintro(⟨a|a,e⟩|⟨a|a,e⟩|⟨a|a,e⟩);.exact .inl (.inl ⟨a,e⟩)
  .exact .inr (.inl ⟨a,e⟩)
  .exact .inl (.inr (.inl ⟨a,e⟩))
  .exact .inr (.inr (.inl ⟨a,e⟩))
  .exact .inl (.inr (.inr ⟨a,e⟩))
  .exact .inr (.inr (.inr ⟨a,e⟩))
 .rintro((⟨a,e⟩|⟨a,e⟩|⟨a,e⟩)|(⟨a,e⟩|⟨a,e⟩|⟨a,e⟩));.exact .inl ⟨.inl a,e⟩
  .exact .inr (.inl ⟨.inl a,e⟩)
  .exact .inr (.inr ⟨.inl a,e⟩)
  .exact .inl ⟨.inr a,e⟩
  .exact .inr (.inl ⟨.inr a,e⟩)
  .exact .inr (.inr ⟨.inr a,e⟩)
theorem vI{a Z:List Nat}(h:x∈a.drop b0):x∈(a++Z).drop b0:=by rw[List.drop_append];exact mh _ h
theorem Iv.w(h:Iv A R W V b dp m b0 S)(Z:S.es.length+S.Tr.length+b'<W')(X:W'<=av)(U:b'<=b):Iv A R W' V b' dp m b0 S:={h.le U with lK:=Z,wl:=X}
theorem Pw.w(h:Pw A R W V b dp m b0 v S S')(Z:S'.es.length+S'.Tr.length+b<W')(X:W'<=av):Pw A R W' V b dp m b0 v S S':=⟨h.iv.w Z X (aE b),h.pre,h.fq,h.out⟩
theorem Pw.fail(h:Pw A R W V b dp m b0 v S S')(Z:u<0):Pw A R W V b dp m b0 u S S':=let⟨X,U,a1,J,H,Q,_⟩:=h.out;⟨h.iv,h.pre,h.fq,X,U,a1,J,H,Q,fun q=>ae q (cY.mpr Z)⟩
theorem Pq.zero(h:Pq A R W V b dp m b0 v S S')(Z:v<0):Pw A R W V b dp m b0 (0:Nat) S S':=⟨h.iv,h.pre,h.fq,[],[],by rw[bO];exact(h.cl Z).1,by rw[bO];exact(h.cl Z).2,fun _=>rfl,fun _ q=>ae q bK,fun _ _=>⟨fun _ q=>ae q bK,fun _ q=>nomatch q⟩⟩
theorem Pw.trans(h:Pw A R W V b' dp m b0 (c:Int) S Z)(h':Pw A R W V b dp m b0 (d:Int) Z sU):Pw A R W V b dp m b0 ((c|||d:Nat):Int) S sU:=by
 refine cps fun P C=>?_;obtain⟨M,L,a1,J,K,g,O⟩:=h.out;obtain⟨H,Q,e1,e2,e3,j,E⟩:=h'.out;refine C ?_;refine⟨h'.iv,h.pre.trans h'.pre,h.fq.trans h'.fq,M++H,L++Q,by rw[e1,a1,dy],by rw[e2,J,dy],fun q=>by rw[K q]at J⊢;rw[e3 (by rw[J,q];rfl)];rfl,?_,fun _ U=>⟨fun x X=>?_,fun x X=>?_⟩⟩
 .intro key r;rcases dI.mp r with q|q;.exact g.aq h'.pre (fun x X=>by rw[e1];exact vI X) key q
  .exact j key q
 .rw[GA];exact(dI.mp X).imp ((O (hZ c) U).1 x) ((E (hZ d) U).1 x)
 .rcases GA.mp X with q|q;.rw[e1];exact vI ((O (hZ c) U).2 x q)
  .exact(E (hZ d) U).2 x q
theorem Pw.toNat(h:Pw A R W V b dp m b0 v S S')(Q:0<=v):Pw A R W V b dp m b0 (v.toNat:Int) S S':=by rw[lk Q];exact h
noncomputable def cS(qa Z:Nat)(K1 K2:Kd):Nat:=qa+if(K1.s.isSome&&K2.s.isSome)=Y then Z else 0
noncomputable def sm(f:Nat->Nat):List Nat->Nat|[]=>0|p::l=>sm f l+f p
def dc(A:Ad)(R V F L qa X U:Nat):Prop:=∀⦃n W b dp m b0:Nat⦄⦃S:Rs⦄⦃s t:Nat⦄⦃K1 K2:Kd⦄⦃c:Bool⦄⦃k:Po⦄,Iv A R W V (b+cS qa X K1 K2) dp m b0 S->cC V S.T (s,t) K1 K2 c L->eF S.T (s,t) K1 K2<m->uT S.T s+uT S.T t<=U->(∀Z,Pq A R W V b dp m b0 (ak V K1 K2) S Z->k (.bool (decide (0<=ak V K1 K2))) Z.σ)->CW (n+F+1) 83 [.ref R,.int s,.int t] S.σ k
theorem dc.aR{c:Bool}(ask:dc A R V F L qa X U)(h:Iv A R W V (b+cS qa X K1 K2) dp m b0 S)(J:cC V S.T (s,t) K1 K2 c L)(H:eF S.T (s,t) K1 K2<m)(Q:uT S.T s+uT S.T t<=U)(O:∀Z,Pq A R W V b dp m b0 (ak V K1 K2) S Z->k (.bool (decide (0<=ak V K1 K2))) Z.σ):dt WD (CW (n+F+2)) 36 R S.σ S.σ [.int s,.int t] k:=o h.st.c0 ⟨rfl,Em (ask h J H Q O)⟩
theorem Qp:∀{l:List Nat},(∀p∈l,f p=qa+if q=D p then w else 0)->(∀p∈l,q≠D p)->sm f l=l.length*qa:=by intro l;induction l with|nil=>intro _ _;exact(rR qa).symm|cons p l X=>intro h h';show sm f l+f p=_;rw[X (fun p Z=>h p (cI _ Z)) fun p Z=>h' p (cI _ Z),h p aW,am (h' p aW),iD,oT,rS];rfl
theorem Qq:∀{l:List Nat},(∀p∈l,f p=qa+if q=D p then w else 0)->l.Nodup->sm f l<=l.length*qa+if q.isSome=Y then w else 0:=by intro l;induction l with|nil=>intro _ _;exact bQ _|cons p l U=>
intro h nd;have nd:=fh.mp nd;show sm f l+f p<=_;rw[h p aW,iD,oT,rS];by_cases e:q=D p;.rw[Qp (fun p Z=>h p (cI _ Z)) fun J Z X=>nd.1 (by rw[e]at X;cases X;exact Z),af e,af (show q.isSome=Y by rw[e];rfl),eL];exact aE _
.rw[am e];have:=U (fun p Z=>h p (cI _ Z)) nd.2;exact ER 0x2f605020bd6c0012a0a0000 rfl this
theorem GB(h:St A R b T V dp (N++J) es (X++U) (X++U) tr σ)(nd:(X++U).Nodup)(H:(N++J).length<av)(Q:(X++U).length<av)(O:∀Z,St A R b T V dp N es X X tr Z->Fq A R tr σ tr Z->k .none Z):dt WD (CW (n+2)) 41 R σ σ [.ab [.int N.length,.int X.length]] k:=o h.c0 ⟨rfl,Nx (FQ h nd H Q fun Z a b=>O Z a b)⟩
theorem GC(hi:σ[i]?=D (.list ys))(Z:xs.length+ys.length<av)(X:j≠i)(U:j≠0):qD 1 j xs σ [.ref i]=D (.none,σ.set j (.list (xs++ys))):=by show(match σ[i]? with|some (.list ys)=>_|_=>I)=_;rw[hi];exact af (by rw[aN Z,fy.mpr X,fy.mpr U];rfl)
theorem Qr(h:St A R b T V dp N es U U tr σ)(ha:σ[a]?=D (.list (O.map eN)))(C:σ[e]?=D (.list (M.map bw)))(la:R+9<a)(L:R+9<e/\e≠tr)(nd:(U++M).Nodup)(h2:∀e∈es,ci e.1=2)(hN:(N++O).length<av)(j:(U++M).length<av)(hk:∀Z X,St A R b T V dp (N++O) es (U++Z) (U++Z) tr X->(∀x∈Z,x∈M)->Z.length<=M.length->(U++Z).Nodup->Fq A R tr σ tr X->k .none X):CW (n+1) 96 [.ref R,.ab [.ref a,.ref e]] σ k:=by
 have hp:=h.pos;have u:=h.ht;refine NG ?_;apply o h.mS;apply o h.pF;apply o h.c7;apply o (eA h.c7);have z:N.map eN++O.map eN=(N++O).map eN:=g7.symm;apply p ((GC ha (by rw[aU.symm,z,aJ];exact hN) (aC 0xab680086aba0016 rfl la) (aB 146407430 rfl)).trans (by rw[z]));have J:Fq A R tr σ tr (σ.set (R+7) (.list ((N++O).map eN))):=.aQ (.inl (⟨aB 390090752 rfl,aB 468163624960 rfl⟩)) (aB 390090752 rfl);apply o (kJ (J.keep e _ C (fun q=>by have:=h.lo;rcases ce.mp q with q|q;exact fk 0x2d508a96086ada002121003 rfl L.1 this.2.1 q;exact fk 0x2d508a96086ada002121003 rfl L.1 this.2.2.1 (ba.mp q)) (.inr L)) (by rw[aJ];rw[aU]at j;exact aC 93080565927937 rfl j));refine j3 (fun r lc X=>E4 fun w d Z q=>A8 (r=q.map bw) (M=d++q) (lc=[D (.ref R),D (.ab [.ref a,.ref e]),w]) (St A R b T V dp (N++O) es (U++Z) (U++Z) tr X) (Fq A R tr σ tr X) (∀x∈Z,x∈d) (Z.length<=d.length) ((U++Z).Nodup)) ?_ ?_ ?_ ⟨I,[],[],M,rfl,rfl,rfl,by rw[bO];exact h.yR,J,fun _ q=>ae q bK,aE _,by rw[bO];exact(oV.mp nd).1⟩;.rintro r lc X⟨_,_,_,_,_,_,_,_,J,_⟩;exact J.keep e _ C (fun q=>by have:=h.lo;rcases ce.mp q with q|q;exact fk 0x2d508a96086ada002121003 rfl L.1 this.2.1 q;exact fk 0x2d508a96086ada002121003 rfl L.1 this.2.2.1 (ba.mp q)) (.inr L)
 .clear C nd j;rintro lc X⟨w,d,Z,q,t,rfl,rfl,h,J,s,g,H⟩;induction q using eQ with|cons=>cases t|nil=>rw[bO]at hk;exact hk Z X h s g H J
 .clear C nd hk;rintro x r lc X K⟨w,d,Z,q,t,rfl,rfl,h,J,s,g,H⟩hK;rcases q with _|⟨y,q⟩;.cases t
  cases t;have lq:(U++(d++y::q)).length=U.length+(d.length+(q.length+1)):=by rw[aU,aU,iD]
  have f:(U++Z).length=U.length+Z.length:=aU;have Q:∀(B:Prop),(E4 fun w d' Z q'=>A8 (q.map bw=q'.map bw) (d++y::q=d'++q') ([D (.ref R),D (.ab [.ref a,.ref e]),D (bw y)]=[D (.ref R),D (.ab [.ref a,.ref e]),w]) (St A R b T V dp (N++O) es (U++Z) (U++Z) tr X) (Fq A R tr σ tr X) (∀x∈Z,x∈d') (Z.length<=d'.length) ((U++Z).Nodup)):=fun _=>⟨_,d++[y],Z,q,rfl,by rw[dy];rfl,rfl,h,J,fun x l=>mh _ (s x l),by rw[aU];exact aC 0xad0202901505000 rfl g,H⟩;apply o h.qV;apply o (pp h.c2 (sP (x:=y)));rw[yV];refine bF (fun hy=>?_) fun _=>hK _ _ (Q True);apply o h.qW;apply o (pp h.c3 (fe.mpr ⟨rfl,fR.mpr fun e C=>by rw[h2 e C];rfl⟩));refine bI (fun _=>?_) fun _=>hK _ _ (Q True);apply o h.qV;apply o ((mM (v:=.int 1) h.c2 (sP (x:=y)) (by unfold eY;rw[aJ];exact ET 0xae014088b90581805c3215c21b542015001 rfl g j lq f) (aB 141164550 rfl)).trans (by rw[FO hy]));have i:=h.vj (vk:=U++Z++[y]);apply o i.om;apply o i.ct;apply o (eA i.ct);have z:(U++Z).map bw++[bw y]=(U++Z++[y]).map bw:=by rw[g7 (l₂:=[y])];rfl
  apply p ((gy (v:=bw y) (by rw[aJ];exact ET 0xae014088b90581805c3215c21b542015001 rfl g j lq f) (u.elim (fun E=>aC 304586248310790 rfl E) fun E=>aC 718702682198022 rfl E)).trans (by rw[z]));have s3:=i.yQ (vm:=U++Z++[y]);rw[dy]at s3;refine hK _ _ ⟨_,d++[y],Z++[y],q,rfl,by rw[dy];rfl,rfl,by rw[dy];exact s3,J.trans ((Fq.aQ (.inl (⟨aB 222318592 rfl,aB 468158382080 rfl⟩)) (aB 222318592 rfl)).trans (.aQ (.inr rfl) (u.elim (fun E=>aC 303487810981888 rfl E) fun E=>aC 753852695105536 rfl E))),fun x l=>?_,by rw[aU,aU];exact ur g _,?_⟩;.rw[dI]at l⊢;exact l.imp_left (s x)
  .rw[<-dy];exact oV.mpr ⟨H,fh.mpr ⟨bK,jP⟩,fun a ha b hb e=>hy (by rw[ba.mp hb]at e;exact e▸ha)⟩
end
def th(R W V b U:Nat)(S:Rs)(v:Int)(T:List aa)(es:List (aa×aa))(tr:Nat)(σ:AH)(d:aa):Prop:=E4 fun a e Z X=>EY (d=.ab [.ref a,.ref e]) (σ[a]?=D (.list (Z.map eN))) (σ[e]?=D (.list (X.map bw))) (R+9<a/\a≠tr) (R+9<e/\e≠tr) ((S.Tr++X).Nodup) ((S.N++Z).length+b<av) (es.length+S.Tr.length+X.length+b<W) (S.Tr=[]->X=[]) (mT T V ((S.N++Z).drop U) X) (0<=v->V=1->(∀x∈Z,x∈cW v)/\∀x∈cW v,x∈(S.N++Z).drop U)
section
variable{A:Ad}
theorem iS(lo:A.az<R/\A.r<R/\A.ix<R/\A.bd<R)(h:R<=i):i∉A.aQ:=fun q=>by
 rcases ce.mp q with q|q;.exact ae (q▸lo.2.1) (g9.mpr h)
 .exact ae (ba.mp q▸lo.2.2.1) (g9.mpr h)
theorem th.keep(h:th R W V b M S v T es tr σ d)(lo:A.az<R/\A.r<R/\A.ix<R/\A.bd<R)(L:T<+:T')(O:Fq A R tr σ jC Z)(K:b'<=b)(j:X.length+b'<=es.length+b):th R W V b' M S v T' X jC Z d:=by
 obtain⟨a,e,u,w,e1,e2,e3,U,J,k,m,f,y,H,Q⟩:=h;have E:∀{i o},σ[i]?=D o->i≠tr->i≠jC:=fun{i o}h q C=>by
  have:=(bp.mp h).1;rcases O.tr with e|e;.exact q (C.trans e)
  .exact fk 0xad820b5021ad03221003 rfl C this e
 have g:∀{i o},σ[i]?=D o->R+9<i/\i≠tr->Z[i]?=D o:=fun{i o}h q=>O.keep i o h (iS lo (aC 753852695105536 rfl q.1)) (.inr q);exact⟨a,e,u,w,e1,g e2 U,g e3 J,⟨U.1,E e2 U.2⟩,⟨J.1,E e3 J.2⟩,k,pn 0x15a80086d508055a0001 rfl K m,EU 0xc6ad5c80000875905e8008317b568000001 rfl j f,y,H.aq L fun _ x=>x,Q⟩
theorem GD(h:i<av):bound m u (.int i)=D (min i m):=by show(if small i=Y then D (if(i:Int)<0 then((i:Int)+m).toNat else min (i:Int).toNat m)else I)=_;rw[af (jw h),am (ig.mpr (hZ _)),ic]
theorem GE(h:σ[i]?=D (.list (xs++ys)))(X:(xs++ys).length<av):qB σ (.ref i) (.int xs.length) .none=D (.ref σ.length,σ++[.list ys]):=by
 have l2:xs.length<=(xs++ys).length:=by rw[aU];exact b8 _ _
 have e:dT (xs++ys) (.int xs.length) .none=D ys:=by unfold dT;rw[af X,GD (dM l2 X),mj l2];show D (((xs++ys).take _).drop _)=_;rw[rX,KJ]
 show(match σ[i]? with|some (.list xs)=>_|_=>I)=_;rw[h];show(match dT (xs++ys) _ _ with|some r=>_|none=>I)=_;rw[e]
theorem GF(f:Nat->Nat)(ask:dc A R V F L qa qs U)(h:Iv A R W V (b+sm f l) dp m b0 S)(hl:l.length<av)(hp:∀p∈l,∃X,A4 (cC V S.T (s,p) K1 X c L) (eF S.T (s,p) K1 X<m) (uT S.T s+uT S.T p<=U) (cS qa qs K1 X<=f p))(hy:∀p∈l,∀X S',cC V S.T (s,p) K1 X c L->0<=ak V K1 X->Pw A R W V b dp m b0 (ak V K1 X) S S'->k (.bool Y) S'.σ)(hn:∀S',(∀p∈l,∀X,cC V S.T (s,p) K1 X c L->ak V K1 X<0)->Pq A R W V b dp m b0 (-1) S S'->k (.bool aj) S'.σ):CW (n+F+3) 95 [.ref R,.int s,.ab (aZ l)] S.σ k:=by
 obtain⟨T,N,es,Tr,tr,σ⟩:=S;have sV:cH<+:T:=h.st.tb.base;have zn:b0<=N.length:=h.b0;have lo:=h.st.lo;have wl:=h.wl;refine NF ?_;apply o (hU (xs:=aZ l) (by rw[jB];exact hl));refine j3 (fun r lc Q=>E8 fun v3 v4 v5 T1 Z H dn q=>A7 (r=aZ q) (l=dn++q) (lc=[D (.ref R),D (.int s),D (.ab (aZ l)),D v3,v4,v5]) (Iv A R W V (b+sm f q) dp m b0 ⟨T1,N,Z,Tr,H,Q⟩) (T<+:T1) (Fq A R tr σ H Q) ((v3=.none/\∀p∈dn,∀X,cC V T (s,p) K1 X c L->ak V K1 X<0)\/∃p∈l,∃X,A3 (cC V T (s,p) K1 X c L) (0<=ak V K1 X) (th R W V (b+sm f q) b0 ⟨T,N,es,Tr,tr,σ⟩ (ak V K1 X) T1 Z H Q v3))) ?_ ?_ ?_ ⟨.none,I,I,T,es,tr,[],l,rfl,rfl,rfl,h,dg T,.rfl,.inl ⟨rfl,fun _ q=>ae q bK⟩⟩;.exact fun _ _ _ _=>trivial
 .rintro lc Q⟨v3,v4,v5,T1,Z,H,dn,q,hr,hl,rfl,O,p1,f1,hd⟩;induction q using eQ with|cons=>cases hr|nil=>
  rw[bO]at hl;subst hl;have O:Iv A R W V b dp m b0 ⟨T1,N,Z,Tr,H,Q⟩:=O;rcases hd with⟨rfl,hd⟩|⟨p,hp,X,ht,hv,a,e,v,u,rfl,e2,e3,e4,e5,e6,e7,e8,e9,Qs,Qt⟩;.exact hn ⟨T1,N,Z,Tr,H,Q⟩ hd ⟨⟨O,p1,f1,[],[],(bO _).symm,(bO _).symm,fun _=>rfl,fun _ q=>ae q bK,fun q=>ae q (by decide)⟩,fun _=>⟨rfl,rfl⟩⟩
  .have e7:(N++v).length+b<av:=e7;have e8:Z.length+Tr.length+u.length+b<W:=e8;apply Qr O.st e2 e3 e4.1 e5 e6 O.kn.k2 (dM (b8 _ _) e7) (by show(Tr++u).length<av;rw[aU];exact dM (bj (ur (KI _ _) _) (b8 _ _)) (iW e8 wl));intro vJ cz s2 hs zo Qu f2;have GG:mT T1 V ((N++v).drop b0) vJ:=fun key hk=>Qs key (hs key hk);refine hy p hp X ⟨T1,N++v,Z,Tr++vJ,H,cz⟩ ht hv ⟨⟨s2,e7,?_,wl,Qu,O.kn,fun key hk=>?_,by show b0<=(N++v).length;rw[aU];exact da 760897166397440 rfl zn,O.dp⟩,p1,f1.trans f2,v,vJ,rfl,rfl,fun q=>?_,GG,Qt⟩;.show Z.length+(Tr++vJ).length+b<W;rw[aU,<-eL];exact dM (ur (eP zo _) b) e8
   .rcases dI.mp hk with q|q;.exact O.tk.aq O.st.tb.base (dg _) (fun x hx=>vI hx) key q
    .exact GG.ok key q
   .rw[e9 q]at zo;exact nD (YV.mp zo)
 .rintro x r lc Q K⟨v3,v4,v5,T1,Z,H,dn,q,hr,hq,rfl,O,p1,f1,hd⟩hK;rcases q with _|⟨y,q⟩;.cases hr
  cases hr;have pO:y∈l:=by rw[hq];exact jO _ aW
  obtain⟨X,ht,pK,hu,hc⟩:=hp y pO;have vs:=ht.r1.gQ sV;have vy:=ht.r2.gQ sV;rw[sm,<-eL]at O hd;have ti:Z.length+Tr.length+(b+sm f q+f y)<W:=O.lK;apply vn O.st O.lQ O.pG;apply dc.aR ask (S:=⟨T1,N,Z,Tr,H,Q⟩) (O.w (b':=b+sm f q+cS qa qs K1 X) (W':=Z.length+Tr.length+(b+sm f q+f y)+1) (BG (eP (eP hc _) _)) (bj ti wl) (eP hc _)) (ht.aq p1) (by unfold eF at pK⊢;rw[j9 p1 vs,j9 p1 vy];exact pK) (by rw[j9 p1 vs,j9 p1 vy];exact hu);rintro⟨T2,N2,J,yY,M,cz⟩⟨hw,t⟩;have j:J.length+yY.length+(b+sm f q)<Z.length+Tr.length+(b+sm f q+f y)+1:=hw.iv.lK;have hw:=hw.w (iW j ti) wl;have p2:T1<+:T2:=hw.pre;have f2:Fq A R H Q M cz:=hw.fq;have q6:=p1.trans p2;have GH:=f1.trans f2;have pP:l=(dn++[y])++q:=by rw[hq,dy];rfl
  refine bD (fun hv=>?_) fun hv=>?_
  .clear t;obtain⟨v,u,rfl,rfl,g1,g2,g3⟩:=hw.out;have i2:=hw.iv;have i:(N++v).length+(b+sm f q)<av:=i2.lN;have GI:J.length+(Tr++u).length+(b+sm f q)<W:=i2.lK;have j:J.length+(Tr++u).length+(b+sm f q)<Z.length+Tr.length+(b+sm f q+f y)+1:=j;rw[aU]at j;have E:St A R (b+sm f q) T2 V dp (N++v) J (Tr++u) (Tr++u) M cz:=i2.st;apply o E.mS;apply o E.pF;apply p (yT E (da 97566951031787521 rfl i));refine bD (fun e=>?_) fun ne=>?_;.exact hy y pO X ⟨T2,N++v,J,Tr++u,M,cz⟩ ht hv ⟨i2.le (bB 725635072 rfl),q6,GH,v,u,rfl,rfl,g1,g2,g3⟩
   have fp:∀{eh v3},St A R (b+sm f q) T2 V dp (N++v) J (Tr++u) (Tr++u) M eh->Fq A R H Q M eh->(∃p∈l,∃X,A3 (cC V T (s,p) K1 X c L) (0<=ak V K1 X) (th R W V (b+sm f q) b0 ⟨T,N,es,Tr,tr,σ⟩ (ak V K1 X) T2 J M eh v3))->dt WD (CW (n+F+2)) 41 R eh eh [.ab [.int N.length,.int Tr.length]] fun d σ=>br (iJ d) (K [D (.ref R),D (.int s),D (.ab (aZ l)),D v3,D (.int y),D (.ab [.int N.length,.int Tr.length])] σ) False:=fun{eh v3}lT f3 hL=>by
    apply GB lT i2.nd (da 97566951031787521 rfl i) i2.pG;intro jc Qv f4;refine cps fun P hP=>?_;obtain⟨p,hp,z,C,tj,hL⟩:=hL;refine hP ?_;refine hK _ _ ⟨v3,_,_,T2,J,M,dn++[y],q,rfl,pP,rfl,⟨Qv,?_,?_,wl,O.nd,i2.kn,O.tk.aq O.st.tb.base p2 fun _ x=>x,zn,O.dp⟩,q6,f1.trans (f3.trans f4),.inr ⟨p,hp,z,C,tj,hL.keep lo (dg _) f4 (aE _) (aE _)⟩⟩;.show N.length+(b+sm f q)<av;rw[aU]at i;exact ER 0x56a82f40002115aa0a0001 rfl i
    .show J.length+Tr.length+(b+sm f q)<W;rw[aU]at GI;exact EV 0x2eaf6002b900017b0375050000871abd800ae40008717b02b400001 rfl ti j
   rcases hd with⟨rfl,hd⟩|⟨p',jz,z,C,tj,hL⟩
   .apply o E.mS;apply o E.pF;have em:(N++v).map eN=N.map eN++v.map eN:=g7;have GJ:(Tr++u).map bw=Tr.map bw++u.map bw:=g7;have c7:=E.c7;rw[em]at c7;have s1:=GE c7 (by rw[em.symm,aJ];exact da 97566951031787521 rfl i);rw[aJ]at s1;apply p s1;have lT:=E.cp (g:=[.list (v.map eN)]);apply o lT.om;have ct:=lT.ct;rw[GJ]at ct;have s2:=GE ct (by rw[GJ.symm,aJ];exact i2.pG);rw[aJ]at s2;apply p s2;have l9:=(bp.mp E.c9).1;have lt:=(bp.mp E.ct).1;refine fp (lT.cp (g:=[.list (u.map bw)])) f2.cp.cp ⟨y,pO,X,ht,hv,cz.length,_,v,u,rfl,du aS,aS,⟨l9,jl lt⟩,⟨?_,?_⟩,i2.nd,i,?_,g1,g2,g3⟩;.rw[aU];exact aC 0xab680084a40540da0001 rfl l9
    .rw[aU];exact aC 0xa5421a9480a0006 rfl lt
    .rw[aU]at GI;show J.length+Tr.length+u.length+_<W;exact EV 0xbbc5c00ae800062e0b541400021cef17002ba00021ce2e0b568000001 rfl ti j
   .refine bE (fun q=>?_) fun _=>?_;.obtain⟨_,_,_,_,rfl,_⟩:=hL;cases q
    .exact fp E f2 ⟨p',jz,z,C,tj,hL.keep lo p2 f2 (b8 _ _) (by show J.length+(b+sm f q)<=Z.length+(b+sm f q+f y);exact Os 0x2e2d50033700016a83590500008716a801705aa0a0000 rfl j)⟩
  .have t:=t (cY.mp hv);have e1:N2=N:=t.1;have e2:yY=Tr:=t.2;clear h hp hy hn zn O pK hu ti t;subst e1 e2;refine hK _ _ ⟨v3,_,_,T2,J,M,dn++[y],q,rfl,pP,rfl,hw.iv,q6,GH,?_⟩;rcases hd with⟨rfl,hd⟩|⟨p',jz,z,C,tj,hL⟩
   .refine .inl ⟨rfl,fun p hp z C=>?_⟩;rcases dI.mp hp with q|q;.exact hd p q z C
    .rw[ba.mp q]at C;rw[(C.cV ht).2];exact cY.mp hv
   .exact .inr ⟨p',jz,z,C,tj,hL.keep lo p2 f2 (b8 _ _) (by show J.length+(b+sm f q)<=Z.length+(b+sm f q+f y);exact Oq 0xb8b5400cdc0005aa0cd00008716a801705aa0a0000 rfl j)⟩
end
section
variable{K1 K2 K' dQ:Kd}
theorem Pw.any(h:Pw A R W V b Z m X v S S')(U:V≠1):Pw A R W V b Z m X u S S':=let⟨J,H,a1,Q,O,E,_⟩:=h.out;⟨h.iv,h.pre,h.fq,J,H,a1,Q,O,E,fun _ q=>ae q U⟩
theorem Pw.le(h:Pw A R W V b Z m X v S S')(l:b'<=b):Pw A R W V b' Z m X v S S':=⟨h.iv.le l,h.pre,h.fq,h.out⟩
theorem Pw.at(h:Pw A R W V b Z m X v S S')(e:v=U):Pw A R W V b Z m X U S S':=e▸h
theorem rd(nd:T.Nodup)(b:PR T K1.m l q)(d:dC c T K1.s l q):l.length<=27:=(PS.of b d).len nd b.nd fun _ x=>x
theorem Qx(h:a=0\/a=u)(h':e=0\/e=u):a|||e=0\/a|||e=u:=by
 rcases h with rfl|rfl<;>rcases h' with rfl|rfl;.exact .inl rfl
 .exact .inr (KQ _)
 .exact .inr (mq _)
 .exact .inr (KS _)
theorem GK(h:a=0\/a=u):a|||u=u:=by
 rcases h with rfl|rfl;.exact KQ _
 .exact KS _
theorem Qy(h':e=0\/e=u):u|||e=u:=by rw[Nat.or_comm];exact GK h'
theorem cC.pR(h:cC V T (s,t) K1 K2 c n)(Z:dm K1 K'){p:Nat}(r:KR c T K' p):cC V T (p,t) K' K2 c n:=⟨h.le,Z.wf h.w1,h.w2,r,h.r2⟩
theorem cC.pS(h:cC V T (s,t) K1 K2 c n)(Z:dm K2 K'){p:Nat}(r:KR (!c) T K' p):cC V T (s,p) K1 K' c n:=⟨h.le,h.w1,Z.wf h.w2,h.r1,r⟩
theorem Qz:∀x,x<16->[aa.int 8,aa.int 9].contains (.int (dj x))=false:=by decide+kernel
theorem QA(Z:x<16)(X:Q):br ([aa.int 8,aa.int 9].contains (.int (dj x))==Y) P Q:=by rw[Qz x Z];exact X
theorem vK(nd:T.Nodup)(b:PR T K1.m l q)(d:dC c T K1.s l q):∃f:Nat->Nat,(∀p,f p=qa+if q=D p then w else 0)/\sm f l<=27*qa+if K1.s.isSome=Y then w else 0:=by
 refine⟨fun p=>qa+if q=D p then w else 0,fun _=>rfl,bj (Qq (fun _ _=>rfl) b.nd) (jL (uk qa (rd nd b d)) ?_)⟩;rcases Z:K1.s with _|x;.rw[Z]at d;rw[show q=I from d];exact aE _
 show(if q.isSome=Y then w else 0)<=w;split<;>first|exact aE _|exact bQ _
theorem GL{qa Z p:Nat}(h:K'.s.isSome=Y->q=D p):cS qa Z K' K2<=qa+if q=D p then(if K2.s.isSome=Y then Z else 0)else 0:=by
 unfold cS;rcases e:K'.s.isSome with _|_;.exact b8 _ _
 rw[af (h e)];exact aE _
theorem GM{qa H p:Nat}(h:K'.s.isSome=Y->q=D p):cS qa H K1 K'<=qa+if q=D p then(if K1.s.isSome=Y then H else 0)else 0:=by unfold cS;rw[Bool.and_comm];exact GL h
noncomputable def mW(V:Nat)(K1 K2:Kd):Int:=match K1.s with|some y=>ak V (.mk 0 (D y)) K2|none=>0
theorem QB(hm:V≠3)(ask:dc A R V F L qa qs u')(h:Iv A R W V (b+cS (27*qa) qs K1 K2) dp m b0 S)(u:cC V S.T (s,t) K1 K2 c L)(hr:eF S.T (s,t) K1 K2<=m)(hs:uT S.T s=1)(hu:uT S.T t<=u')(l1:Lo K1)(l2:Lo K2)(nv:fN K1=aj)(hk:∀M,Pw A R W V b dp m b0 (ak V K1 K2) S M->k (.bool (decide (0<=ak V K1 K2))) M.σ):CW (n+F+3) 94 [.ref R,.int s,.int t] S.σ k:=by
 have O:=h.st.tb.base;refine NE ?_;refine h.st.ol ?_;apply pD h.st.tb u.r1;intro l qq zp z hS;apply o (hU (xs:=aZ l) (by rw[jB];exact ax 951133426241537 rfl (rd h.st.tb.nd z hS)));have pt:=fun p g=>vH O z hS l1 (p:=p) g;obtain⟨f,hf,zq⟩:=vK (qa:=qa) (w:=if K2.s.isSome=Y then qs else 0) h.st.tb.nd z hS;have bV:∀M,Pw A R W V b dp m b0 (ak V K1 K2) S M->0<=ak V K1 K2->k (.bool Y) M.σ:=fun M a e=>by have:=hk M a;rw[aN e]at this;exact this
 have no:∀M,Pw A R W V b dp m b0 (ak V K1 K2) S M->¬0<=ak V K1 K2->k (.bool aj) M.σ:=fun M a e=>by have:=hk M a;rw[bS e]at this;exact this
 refine j3 (fun r lc au=>E5 fun v3 S1 a dn q=>A7 (r=aZ q) (l=dn++q) (lc=[D (.ref R),D (.int s),D (.int t),v3]) (S1.σ=au) (Pw A R W V (b+sm f q) dp m b0 ((a:Nat):Int) S S1) (V=2->∀p∈dn,∀K',cC V S.T (p,t) K' K2 c L->ak 2 K' K2<0) (V≠2->(a=0\/a=(mW V K1 K2).toNat)/\∀p∈dn,∀K',dm K1 K'->cC V S.T (p,t) K' K2 c L->0<=ak V K' K2/\(∀y,K'=.mk 0 (D y)->a=(mW V K1 K2).toNat))) ?_ ?_ ?_ ⟨I,S,0,[],l,rfl,rfl,rfl,rfl,(Pw.refl (v:=0) (h.le (eP (bj zq (by unfold cS;cases K1.s.isSome<;>exact aE _)) b)) fun _ _ q j=>nomatch j),fun _ _ q=>ae q bK,fun _=>⟨.inl rfl,fun _ q=>ae q bK⟩⟩;.exact fun _ _ _ _=>trivial
 .rintro lc au⟨v3,S1,a,dn,q,hr,hl,rfl,rfl,J,h2,U⟩;induction q using eQ with|cons=>cases hr|nil=>
  rw[bO]at hl;subst hl;have J:Pw A R W V b dp m b0 ((a:Nat):Int) S S1:=J;apply o J.iv.st.eZ;by_cases e2:V=2;.clear hm ask h hk bV U;subst e2;refine no S1 (J.any (by decide)) fun q=>?_;obtain⟨K',d,H⟩:=(Gz l1 l2 nv).mp q;obtain⟨p,g,r⟩:=q9 O z hS d;exact ae H (cY.mpr (h2 rfl p g K' (u.pR d r)))
  .have U:=U e2;have H:=VU hm e2 l1 l2 nv;have Q:0<=ak V K1 K2:=H.1.mpr fun K' d=>by obtain⟨p,g,r⟩:=q9 O z hS d;exact(U.2 p g K' d (u.pR d r)).1
   have e:(!decide ((V:Int)=2))=true:=by rw[bS (fun q:(V:Int)=2=>e2 (dr q))];rfl
   have hy:=bV S1 (J.at ?_) Q;.rw[<-e]at hy;exact hy
   have es:ak V K1 K2=mW V K1 K2:=H.2 Q;rw[es]at Q⊢;rw[<-lk Q];congr 1;rcases hy:K1.s with _|y
   .have e0:(mW V K1 K2).toNat=0:=by unfold mW;rw[hy];rfl
    rw[e0]at U⊢;exact U.1.elim id id
   obtain⟨p,g,r⟩:=q9 O z hS (.inr ⟨y,hy,rfl⟩);exact(U.2 p g _ (.inr ⟨y,hy,rfl⟩) (u.pR (.inr ⟨y,hy,rfl⟩) r)).2 y rfl
 .rintro x r lc au K⟨v3,S1,a,dn,q,vb,j,rfl,rfl,J,h2,U⟩d;rcases q with _|⟨y,q⟩;.cases vb
  cases vb;have pO:y∈l:=by rw[j];exact jO _ aW
  refine cps fun P z=>?_;obtain⟨K',E,r,u0,iq⟩:=pt y pO;refine z ?_;have C:=u.pR E r;rw[sm,<-eL]at J;have e1:uT S1.T y=0:=(j9 J.pre (r.gQ O)).trans u0;have e2:uT S1.T t=uT S.T t:=j9 J.pre (u.r2.gQ O);have hd:=E.dp;have pP:l=(dn++[y])++q:=by rw[j,dy];rfl
  have GN:b<=b+sm f q:=b8 _ _;have hc:cS qa qs K' K2<=f y:=by rw[hf y];exact GL iq
  apply dc.aR ask (J.iv.le (eP hc _)) (C.aq J.pre) (by show 4*(cL K'+cL K2)+uT S1.T y+uT S1.T t<m;rw[e1,e2];exact ES 0xcd080bdb15c8083000202e032bd895a008300001 rfl hs (hr) hd) (by rw[e1,e2,gj];exact hu);intro S2 j;refine bD (fun H=>?_) fun H=>?_
  .have Z:=J.trans (j.toPw.toNat H);apply o Z.iv.st.eZ;refine bM 2 rfl (fun e=>?_) fun e=>?_;.clear hm ask h u hk no h2 U J d C j;subst e;have:=(Gz l1 l2 nv).mpr ⟨K',E,H⟩;exact bV S2 ((Z.any (by decide)).le GN) this
   .have U:=U e;have hc:(ak V K' K2).toNat=0\/(ak V K' K2).toNat=(mW V K1 K2).toNat:=by
     clear r iq C hd hc j H Z;rcases E with⟨i,hi,_,rfl⟩|⟨y,e,rfl⟩;.rw[vG hm hi l2];exact .inl (by split<;>rfl)
     .right;unfold mW;rw[e]
    refine d _ _ ⟨_,S2,_,dn++[y],q,rfl,pP,rfl,rfl,Z,fun q=>ae q e,fun _=>⟨Qx U.1 hc,fun p g dQ rf X=>?_⟩⟩;rcases dI.mp g with q|q;.exact⟨(U.2 p q dQ rf X).1,fun y ey=>by rw[(U.2 p q dQ rf X).2 y ey];exact Qy hc⟩
    .rw[ba.mp q]at X;have:=(X.cV C).1;clear E r iq C hd j Z hc;subst this;refine⟨H,fun y ey=>?_⟩;subst ey;rcases rf with⟨i,_,_,e⟩|⟨y',e,e'⟩;.injection e with _ e;cases e
     .cases e';have:(ak V (.mk 0 (D y)) K2).toNat=(mW V K1 K2).toNat:=by unfold mW;rw[e]
      rw[this];exact GK U.1
  .have H:=cY.mp H;have Z:=J.trans (j.zero H);apply o Z.iv.st.eZ;refine bN (bM 2 rfl (fun e=>?_) fun e=>?_)
   .clear hm ask h u hk bV no U J j;subst e;refine d _ _ ⟨_,S2,_,dn++[y],q,rfl,pP,rfl,rfl,Z,fun _ p g dQ X=>?_,fun q=>ae rfl q⟩;rcases dI.mp g with q|q;.exact h2 rfl p q dQ X
    .rw[ba.mp q]at X;rw[(X.cV C).1];exact H
   .have hn:¬0<=ak V K1 K2:=fun q=>ae ((VU hm e l1 l2 nv).1.mp q K' E) (cY.mpr H);exact no S2 ((Z.fail (cY.mp hn)).le GN) hn
theorem QC(hm:V≠3)(ask:dc A R V F L qa qs 0)(h:Iv A R W V (b+cS (27*qa) qs K1 K2) dp m b0 S)(E:cC V S.T (s,t) K1 K2 c L)(y:eF S.T (s,t) K1 K2<=m)(hs:uT S.T s=0)(hu:uT S.T t=1)(l2:Lo K2)(U:Co S.T s x)(i:x<11\/x=14)(C:KC x K1)(M:∀J,Pw A R W V b dp m b0 (ak V K1 K2) S J->k (.bool (decide (0<=ak V K1 K2))) J.σ):CW (n+F+4) 97 [.ref R,.int s,.int t] S.σ k:=by
 have K:=h.st.tb.base;have hV:=VT hm (i.imp (fun q=>⟨x,q,C.a (gY q (by decide))⟩) fun q=>C.s q) l2;refine NH ?_;refine h.st.ol ?_;apply pD h.st.tb E.r2;intro l qq zp Q j;have pt:=fun p H=>vH K Q j l2 (p:=p) H;obtain⟨f,hf,zq⟩:=vK (qa:=qa) (w:=if K1.s.isSome=Y then qs else 0) h.st.tb.nd Q j;have bV:∀J K' p,dm K2 K'->cC V S.T (s,p) K1 K' c L->Pw A R W V b dp m b0 (ak V K1 K') S J->0<=ak V K1 K'->k (.bool Y) J.σ:=fun J K' p Z H a e=>by have e':=hV.1 K' Z e;have:=M J (by rw[e'];exact a);rw[e',aN e]at this;exact this
 apply o (ot (l:=l) (z:=s));refine bE (fun q=>?_) fun _=>?_;.obtain⟨p,H,e⟩:=q;cases dr e;obtain⟨K',Z,r,_⟩:=pt s H;have X:=E.pS Z r;have e0:=X.same (V:=V);exact bV S K' s Z X (.refl (h.le (b8 _ _)) fun _ _ x U=>by rw[e0]at U;exact nomatch U) (by rw[e0];exact fS 0)
 apply GF (n:=n) (b:=b) (m:=m) f ask (h.le (eP (bj zq (by unfold cS;cases K1.s.isSome<;>cases K2.s.isSome<;>exact aE _)) b)) (ax 951133426241537 rfl (rd h.st.tb.nd Q j)) (fun p H=>by obtain⟨K',Z,r,u0,iq⟩:=pt p H;have u:=Z.dp;exact⟨K',E.pS Z r,by show 4*(cL K1+cL K')+uT S.T s+uT S.T p<m;have y:4*(cL K1+cL K2)+uT S.T s+uT S.T t<=m:=y;rw[hs,u0];exact ES 0xb5f38a008300020c54802dc32b1095a008300001 rfl hu u y,by rw[hs,u0];exact aE _,by rw[hf p];exact GM iq⟩);.intro p H K' J X v O;refine cps fun P Q=>?_;obtain⟨dQ,Z,r,u0⟩:=pt p H;refine Q ?_;rw[(X.cV (E.pS Z r)).2]at v O X;exact bV J dQ p Z X O v
 .intro J g O;have hn:¬0<=ak V K1 K2:=fun q=>by obtain⟨K',Z,v⟩:=hV.2 q;obtain⟨p,H,r⟩:=q9 K Q j Z;exact ae v (cY.mpr (g p H K' (E.pS Z r)))
  have M:=M J (O.toPw.fail (cY.mp hn));rw[bS hn]at M;have st:=O.iv.st;have U:=U;obtain⟨d,u⟩:=U.ir;apply o st.tb.fW;apply o (st.tb.row (bX O.pre u));apply o (U.di u);refine za U.lt ?_;refine bT 7 rfl (fun e=>ae e (qZ U.lt 7 (by decide))) fun _=>?_;refine bT 7 rfl (fun e=>ae e (qZ U.lt 7 (by decide))) fun _=>?_;refine QA U.lt ?_;refine bT 12 rfl (fun e=>ae e (qZ U.lt 12 (by decide))) fun q=>?_;show k (.bool (decide ((dj x:Int)=12))) J.σ;rw[bS fun e:(dj x:Int)=12=>q (dr e)];exact M
end
section
theorem V3:0<=ak 3 K1 K2↔cB K1=cB K2:=by
 show 0<=(if cB K1=cB K2 then(0:Int)else-1)↔_;by_cases q:cB K1=cB K2;.rw[af q];exact⟨fun _=>q,fun _=>fS 0⟩
 .rw[am q];exact⟨fun h=>ae h (by decide),fun h=>ae h q⟩
theorem pT(h:cB (.mk m s)=cB (.mk m' s')):m=m'/\ja s=ja s':=by injection h with h;injection h with X Z;injection Z with Z _;exact⟨j4 X,Z⟩
theorem QD(h:ja s=.none):s=none:=by
 rcases s with _|y;.rfl
 obtain⟨_,_,_,_,_,_⟩:=y;cases h
theorem GO(h:cB K1=cB K2)(U:dm K1 J):∃dQ,dm K2 dQ/\0<=ak 3 J dQ:=by
 obtain⟨m,s⟩:=K1;obtain⟨m',s'⟩:=K2;obtain⟨rfl,e⟩:=pT h;rcases U with⟨i,hi,H,rfl⟩|⟨y,Z,rfl⟩;.exact⟨_,.inl ⟨i,hi,H,rfl⟩,V3.mpr rfl⟩
 .have Z:s=D y:=Z;clear h;subst Z;rcases s' with _|X;. (have h:=QD e;contradiction)
  exact⟨_,.inr ⟨X,rfl,rfl⟩,V3.mpr (by show aa.ab [_,ja (D y)]=aa.ab [_,ja (D X)];rw[e])⟩
theorem GP(hi:i<13)(h:(2:Nat)^i=2^j):i=j:=by
 have:(2^i:Nat).testBit j=true:=by rw[h,jm];exact aN rfl
 rw[jm]at this;exact cK this
theorem QE(Q:Lo K1)(l2:Lo K2)(O:∀X,dm K1 X->∃Z,dm K2 Z/\0<=ak 3 X Z)(E:∀X,dm K2 X->∃Z,dm K1 Z/\0<=ak 3 X Z):cB K1=cB K2:=by
 have U:∀{K1 K2:Kd},Lo K1->(∀X,dm K1 X->∃Z,dm K2 Z/\0<=ak 3 X Z)->∀i,i<13->K1.m.testBit i=Y->K2.m.testBit i=true:=fun{K1 K2}l h i hi K=>by
  have C:=tc l hi K;obtain⟨Z,⟨j,d,J,rfl⟩|⟨y,_,rfl⟩,H⟩:=h _ (.inl ⟨i,C,K,rfl⟩);.rw[GP hi (pT (V3.mp H)).1];exact J
  .exact ae (pT (V3.mp H)).1 (jl (uj i))
 have A:∀{K1 K2:Kd},(∀X,dm K1 X->∃Z,dm K2 Z/\0<=ak 3 X Z)->∀y,K1.s=D y->ja K1.s=ja K2.s:=fun{K1 K2}h y g=>by
  obtain⟨Z,⟨j,d,J,rfl⟩|⟨r,M,rfl⟩,H⟩:=h _ (.inr ⟨y,g,rfl⟩);.exact ae (pT (V3.mp H)).1.symm (jl (uj j))
  .rw[g,M];exact(pT (V3.mp H)).2
 have L:K1.m=K2.m:=pB Q.lt l2.lt fun i hi=>⟨U Q O i hi,U l2 E i hi⟩;have es:ja K1.s=ja K2.s:=by
  rcases e1:K1.s with _|y;.induction e2:K2.s using cN with|none=>rfl|some y=>have:=A E y e2;rw[e1,e2]at this;exact this.symm
  rw[e1.symm];exact A O y e1
 clear Q O E;obtain⟨m,s⟩:=K1;obtain⟨m',s'⟩:=K2;have L:m=m':=L;have es:ja s=ja s':=es;show aa.ab [_,ja s]=aa.ab [_,ja s'];rw[L,es]
theorem GQ(ask:dc A R 3 F L qa qs 0)(h:Iv A R W 3 (b+cS (27*(27*qa)) qs K1 K2) dp m b0 S)(l:cC 3 S.T (s,t) K1 K2 c L)(hr:4*(cL K1+cL K2)<m)(QF:Lo K1)(QG:Lo K2)(p1:PR S.T K1.m l1 q1)(s1:dC c S.T K1.s l1 q1)(p2:PR S.T K2.m l2 q2)(s2:dC (!c) S.T K2.s l2 q2)(hy:∀O,(∀Z,dm K1 Z->∃dQ,dm K2 dQ/\0<=ak 3 Z dQ)->Pw A R W 3 b dp m b0 (0:Nat) S O->k (.bool Y) O.σ)(hn:∀O,¬(∀Z,dm K1 Z->∃dQ,dm K2 dQ/\0<=ak 3 Z dQ)->Pw A R W 3 b dp m b0 (0:Nat) S O->k (.bool aj) O.σ):CW (n+F+4) 99 [.ref R,.ab (aZ l1),.ab (aZ l2)] S.σ k:=by
 have X:=h.st.tb.base;have n1:=rd h.st.tb.nd p1 s1;have n2:=rd h.st.tb.nd p2 s2;obtain⟨f,hf,E⟩:=vK (qa:=27*qa) (w:=if K2.s.isSome=Y then qs else 0) h.st.tb.nd p1 s1;have E:b+sm f l1<=b+cS (27*(27*qa)) qs K1 K2:=eP (bj E (by unfold cS;cases K1.s.isSome<;>exact aE _)) b;refine NJ ?_;apply o (hU (xs:=aZ l1) (by rw[jB];exact ax 951133426241537 rfl n1));refine j3 (fun r lc C=>E4 fun v3 S1 v q=>A6 (r=aZ q) (l1=v++q) (lc=[D (.ref R),D (.ab (aZ l1)),D (.ab (aZ l2)),v3]) (S1.σ=C) (Pw A R W 3 (b+sm f q) dp m b0 (0:Nat) S S1) (∀p∈v,∀Z,dm K1 Z->KR c S.T Z p->∃dQ,dm K2 dQ/\0<=ak 3 Z dQ)) ?_ ?_ ?_ ⟨I,S,[],l1,rfl,rfl,rfl,rfl,(Pw.refl (h.le E) fun _ _ q hq=>nomatch hq),fun _ q=>ae q bK⟩;.exact fun _ _ _ _=>trivial
 .rintro lc C⟨v3,S1,v,q,hr,hl,rfl,rfl,J,hd⟩;induction q using eQ with|cons=>cases hr|nil=>rw[bO]at hl;subst hl;exact hy S1 (fun Z hK=>(by obtain⟨p,i,r⟩:=q9 X p1 s1 hK;exact hd p i Z hK r)) J
 .rintro x r lc C K⟨v3,S1,v,q,a,hq,rfl,rfl,J,hd⟩hK;rcases q with _|⟨y,q⟩;.cases a
  cases a;have pO:y∈l1:=by rw[hq];exact jO _ aW
  rw[sm,<-eL]at J;have pP:l1=(v++[y])++q:=by rw[hq,dy];rfl
  obtain⟨z,U,r0,u0,i0⟩:=vH X p1 s1 QF pO;have w0:=U.wf l.w1;have QH:=U.dp;have pt:=fun p i=>vH X p2 s2 QG (p:=p) i;have e1:uT S1.T y=0:=(j9 J.pre (r0.gQ X)).trans u0;obtain⟨g,hg,M⟩:=vK (qa:=qa) (w:=if z.s.isSome=Y then qs else 0) h.st.tb.nd p2 s2;have M:b+sm f q+sm g l2<=b+sm f q+f y:=eP (bj M (by
   rw[hf y];refine eP ?_ _;rcases e:z.s.isSome with _|_;.exact bj (by split<;>exact bQ _) (bQ _)
   rw[af (i0 e)];exact aE _)) _;have rg:∀p∈l2,∀dQ,cC 3 S1.T (y,p) z dQ c L->dm K2 dQ:=fun p H dQ j=>by obtain⟨K3,Q,r3,_⟩:=pt p H;rw[(j.cV (((l.pR U r0).pS Q r3).aq J.pre)).2];exact Q
  apply GF (c:=c) (K1:=z) (b:=b+sm f q) (m:=m) g ask (J.iv.le M) (ax 951133426241537 rfl n2) (fun p H=>by refine cps fun P hP=>?_;obtain⟨K3,Q,r3,u3,i3⟩:=pt p H;refine hP ?_;have e2:uT S1.T p=0:=(j9 J.pre (r3.gQ X)).trans u3;have QI:=Q.dp;refine⟨K3,((l.pR U r0).pS Q r3).aq J.pre,?_,by rw[e1,e2];exact aE 0,by rw[hg p];exact GM i3⟩;show 4*(cL z+cL K3)+uT S1.T y+uT S1.T p<m;rw[e1,e2];exact mK 0xc5480bd080b62e020c21b1095a008300001 rfl hr QH QI)
  .intro p H dQ O j hv d;refine hK _ _ ⟨_,O,v++[y],q,rfl,pP,rfl,rfl,J.trans (d.any (u:=(0:Nat)) (by decide)),fun p' jz Z sO r'=>?_⟩;rcases dI.mp jz with e|e;.exact hd p' e Z sO r'
   .rw[ba.mp e]at r';rw[(KR.cV (sO.wf l.w1) w0 r' r0).1];exact⟨dQ,rg p H dQ j,hv⟩
  .intro O pU d;refine hn O (fun q=>?_) ((J.trans (d.toPw.any (u:=(0:Nat)) (by decide))).le (b8 _ _));obtain⟨dQ,rf,hv⟩:=q z U;obtain⟨p,i,r⟩:=q9 X p2 s2 rf;exact ae hv (cY.mpr (pU p i dQ (((l.pR U r0).pS rf r).aq J.pre)))
end
def fY(A:Ad)(R V F L P w:Nat):Prop:=∀⦃n W b Z m X:Nat⦄⦃S:Rs⦄⦃s t:Nat⦄⦃x y:Sg⦄⦃c ay:Bool⦄⦃k:Po⦄,Iv A R W V (b+w) Z m X S->SR c S.T x s->SR (!c) S.T y t->bo V L x->bo V L y->x.ps.length<=P->y.ps.length<=P->4*(jD x+jD y)+2<m->(∀U,Pw A R W V b Z m X (gS V 3 x y ay) S U->k (.bool (decide (0<=gS V 3 x y ay))) U.σ)->CW (n+F) 118 [.ref R,.int s,.int t,.bool ay] S.σ k
section
theorem vL(h:Co T t x)(J:KR c T K t)(O:cH<+:T):(x=15->uT T t=1)/\(x≠15->uT T t=0):=by
 obtain⟨r,e,_⟩:=h.row;have U:∀{d},T[t]?=D d->jb d≠6->x≠15/\uT T t=0:=fun{d}X H=>by refine⟨fun q=>?_,zm X H⟩;rw[e]at X;cases X;clear h e;subst q;exact H rfl
 have Z:x≠15/\uT T t=0->(x=15->uT T t=1)/\(x≠15->uT T t=0):=fun h=>⟨fun q=>ae q h.1,fun _=>h.2⟩;induction J.vd using TV.casesOn with|jA e=>clear h J;subst e;exact Z (U (bX O (d:=dJ "never") rfl) (show(1:Int)≠6 by decide))|lO i f hi C Q e=>exact Z (U e fun q=>by have:=pA (i:=i) (f:=f);rw[q]at this;exact ae this (by decide))|dZ y Q E=>obtain⟨_,_,_,_,e⟩:=E.row;exact Z (U e (show(13:Int)≠6 by decide))|sD l q m s Q X l2 M L=>
  refine⟨fun _=>?_,fun q=>?_⟩
  .rcases pJ T t with⟨_,f⟩|⟨f,_⟩;.exact ae X (f _)
   .exact f
  .rw[X]at e;have:aa.int 6=.int (dj x):=by have e:=b9 e;injection e with e;injection e
   exact ae ((jd x h.lt).mp (j4 this).symm) q
theorem KC.GR(h:KC 15 K)(Z:K.m<8192):Lo K/\fN K=false:=⟨⟨Z,(h.u rfl).1⟩,by unfold fN;rw[gl.mpr (h.u rfl).2.1];rfl⟩
theorem KC.QJ(h:KC x K)(Q:x<16)(U:x≠11)(J:x≠12)(O:K.m<8192):Lo K:=by
 by_cases e:x=15;.clear Q U J;subst e;exact(h.GR O).1
 .refine⟨O,?_⟩;rw[(h.kP ((gk e).elim (fun X=>ax 674345111553 rfl X) fun X=>hO 0x2010d041a4c219d001 rfl X Q)).1];exact(by decide:∀x,x<15->x≠11->x≠12->aM x&&&6144=0) x ((gk e).elim (fun X=>ax 674345111553 rfl X) fun X=>hO 0x2010d041a4c219d001 rfl X Q) U J
theorem QK(h:St A R b T V X N es U J tr σ)(Z:CW n 118 [.ref R,a,d,.bool aj] σ k):CW (n+2) 77 [.ref R,.int 3,a,d] σ k:=by refine En ?_;apply o h.qU;apply o h.c1;apply o (pq h.c1);apply p ((vA (d:=.int 3) rfl rfl).trans (by rw[show ca [(aa.int 3,aa.ref (R+8)),(aa.int 8,aa.ref (R+9))] (.int 3)=D (.ref (R+8))from af rfl]));apply o h.c8;exact⟨rfl,NU Z⟩
theorem QL(U:V≠3):(0<=ak V (.mk 0 (D Z)) (.mk 0 (D X))↔0<=gS V 3 Z X aj)/\(V=1->ak V (.mk 0 (D Z)) (.mk 0 (D X))=gS V 3 Z X aj):=by
 rw[pM U zl];have J:ft V (.mk 0 (D Z)) (.mk 0 (D X))=gS V 3 Z X false:=rfl;rw[J];by_cases e:V=2
 .rw[af e];refine⟨?_,fun H=>ae (H.symm.trans e) (by decide)⟩;by_cases q:0<=gS V 3 Z X aj;.rw[af q];exact⟨fun _=>q,fun _=>fS 0⟩
  .rw[am q];exact⟨fun h=>ae h (by decide),fun h=>ae h q⟩
 .rw[am e];exact⟨Bw,fun _=>rfl⟩
theorem QM:0<=ak 3 (.mk 0 (D Z)) (.mk 0 (D y2))↔0<=gS 3 3 Z y2 false:=by
 rw[V3];show _↔0<=(if dH Z=dH y2 then(0:Int)else-1);have:cB (.mk 0 (D Z))=cB (.mk 0 (D y2))↔dH Z=dH y2:=⟨fun h=>(pT h).2,fun h=>by show aa.ab [_,dH Z]=aa.ab [_,dH y2];rw[h]⟩;rw[this];by_cases q:dH Z=dH y2;.rw[af q];exact⟨fun _=>fS 0,fun _=>q⟩
 .rw[am q];exact⟨fun h=>ae h q,fun h=>ae h (by decide)⟩
theorem Pw.conv(h:Pw A R W V b U m J v S S')(H:0<=u->0<=v)(Q:V=1->u=v):Pw A R W V b U m J u S S':=let⟨O,E,a1,C,M,L,K⟩:=h.out;⟨h.iv,h.pre,h.fq,O,E,a1,C,M,L,fun q e=>by rw[Q e];exact K (H q) e⟩
theorem GS(X:∀O,L=O+1->fY A R V F O 2 w)(h:Iv A R W V (b+cS 0 w K1 K2) j m d S)(U:cC V S.T (s,t) K1 K2 c L)(r:eF S.T (s,t) K1 K2<=m)(u:KC 14 K1)(v:KC 14 K2)(M:∀E,Pw A R W V b j m d (ak V K1 K2) S E->k (.bool (decide (0<=ak V K1 K2))) E.σ):CW (n+F+2) 77 [.ref R,.int 3,.int s,.int t] S.σ k:=by
 refine cps fun P z=>?_;obtain⟨x,rfl⟩:=u.s rfl;obtain⟨y,rfl⟩:=v.s rfl;refine z ?_;refine QK h.st ?_;have Z:=U.w1;have J:=U.w2;rcases L with _|O;. (have h:=Z.2;contradiction)
 have Z:=Z.2 x rfl;have J:=J.2 y rfl;have K:∀{c t y},KR c S.T (.mk 0 (D y)) t->SR c S.T y t:=fun{c t y}hK=>by
  obtain⟨l,q,a,b,p,rfl,H,hS⟩:=hK;rcases a with⟨_,e⟩|⟨_,e,e2⟩|⟨_,e,_⟩;.rw[e]at H;cases H
  .exfalso;have f:∀C∈l,C=p:=fun C Q=>(b.all C Q).elim (by rintro⟨i,hi,hA⟩;have:=(b.dX i hi).mpr ⟨C,Q,hA⟩;rw[nH]at this;cases this) fun e=>(b9 e).symm;clear e;rcases l with _|⟨p1,_|⟨p2,l⟩⟩;.cases H
   .exact ae e2 (by decide:¬2<=1)
   .exact(fh.mp b.nd).1 (by rw[f p1 aW,<-f p2 (cI _ aW)];exact aW)
  .rw[e]at H;rw[<-ba.mp H];exact hS
 have e:cS 0 w (.mk 0 (D x)) (.mk 0 (D y))=w:=gj w;rw[e]at h;have g:(0<=ak V (.mk 0 (D x)) (.mk 0 (D y))↔0<=gS V 3 x y aj)/\(V=1->ak V (.mk 0 (D x)) (.mk 0 (D y))=gS V 3 x y aj):=by
  by_cases e:V=3;.clear M X U Z J h;subst e;exact⟨QM,fun e=>ae e (by decide)⟩
  .exact QL e
 refine X O rfl h (K U.r1) (K U.r2) Z.2 J.2 Z.1.2 J.1.2 (yq 0x2d8b96a02d00020c00082c6ad00418001 rfl (r)) fun E hw=>?_;have:=M E (hw.conv g.1.mp g.2);rw[iF.mpr g.1]at this;exact this
end
section
theorem dc.le(h:dc A R V F L qa Z U)(l:U'<=U):dc A R V F L qa Z U':=by intro n W b E m C S s t K1 K2 c k X J H Q O;exact h X J H (bj Q l) O
theorem GT(a b w:Nat):b+cS (a+1) w K1 K2=b+cS a w K1 K2+1:=by unfold cS;exact fz 0x2daa0a00162d400a0002 rfl
theorem QN(a w:Nat):cS 0 w K1 K2<=cS a w K1 K2:=ur (bQ a) _
theorem KC.vM(h:KC x K)(Z:x=15)(X:K.m<8192):Lo K/\fN K=false:=by subst Z;exact h.GR X
theorem GU(h:eF T' (s',t') K1 K2<=eF T (s,t) K1 K2)(J:uT T s+uT T t<=U):uT T' s'+uT T' t'<=U:=by exact EU 0xc5f59010600569ac808300020b62e0082d5a0000 rfl J (h)
theorem QO(hm:V∈[1,2,4])(C:∀L',L=L'+1->fY A R V F L' 2 w)(Z:0<U->dc A R V (F+d) L qa w (U-1))(h:Iv A R W V (b+cS (27*qa) w K1 K2) dp m b0 S)(X:cC V S.T (s,t) K1 K2 c L)(a:eF S.T (s,t) K1 K2<=m)(v:uT S.T s+uT S.T t<=U)(c1:Co S.T s x)(J:Co S.T t y)(k1:KC x K1)(k2:KC y K2)(f:x=15\/y=15\/(x=14/\y=14))(z:dD V x y=-1)(i:∀S',Pw A R W V b dp m b0 (ak V K1 K2) S S'->k (.bool (decide (0<=ak V K1 K2))) S'.σ):CW (n+(F+d)+5) 92 [.ref R,.int s,.int t] S.σ k:=by
 have n3:V≠3:=by clear C Z h X z i;rintro rfl;revert hm;decide
 have O:=h.st;have M:=O.tb.base;have u1:=vL c1 X.r1 M;have u2:=vL J X.r2 M;have su:=qY V hm;refine Ev ?_;obtain⟨e,hd⟩:=c1.ir;obtain⟨e',K⟩:=J.ir;apply o O.cR;apply o O.tb.az;apply o O.tb.fW;apply o (O.tb.row hd);apply o (c1.di hd);apply o (O.tb.row K);apply o (J.di K);refine bT 6 rfl (fun e=>?_) fun e=>?_
 .have H:=(jd x c1.lt).mp e;have su:=(su y J.lt).2;rw[<-H,z]at su;have g:y≠12:=fun e=>by rw[af e]at su;cases su
  have sY:y≠11:=fun e=>by rw[am g,af e]at su;cases su
  have l1:=k1.vM H X.w1.nm.1;have j:=u1.1 H;rw[j]at v;rw[show n+(F+d)+4=n+1+(F+d)+3 by exact fz 0xf6a80b400008b541400002 rfl];exact QB (n:=n+1) (u':=U-1) n3 (Z (aC 726949018865665 rfl v)) h X a j (ut (by rw[nz];exact v)) l1.1 (k2.QJ J.lt sY g X.w2.nm.1) l1.2 i
 .have H:x≠15:=fun q=>e ((jd x c1.lt).mpr q);refine bT 6 rfl (fun e=>?_) fun e=>?_
  .have E:=(jd y J.lt).mp e;have su:=(su x c1.lt).1;rw[<-E,z]at su;have Q:x≠13:=fun e=>by rw[af e]at su;cases su
   have r:x≠12:=fun e=>by rw[am Q,af e]at su;split at su<;>cases su
   have vx:x≠11:=fun e=>by rw[am Q,am r,af e]at su;cases su
   have u:=u2.1 E;exact QC (n:=n) n3 (dc.le (Z (iW (by rw[u];exact fg _) v)) (bQ _)) h X a (u1.2 H) u (k2.vM E X.w2.nm.1).1 c1 ((qf x 11).imp_right fun l=>(n8 14 c1.lt (xt (xt (xt l (g8 vx)) (g8 r)) (g8 Q))).resolve_right H) k1 i
  .have E:y≠15:=fun q=>e ((jd y J.lt).mpr q);have f:=(f.resolve_left H).resolve_left E;apply zb c1.lt J.lt;rw[af f];clear c1 J z u1 u2 H e E;obtain⟨rfl,rfl⟩:=f;rw[show n+(F+d)+4=n+d+2+F+2 by exact fz 0xd535a8000008b541400002 rfl];exact GS (n:=n+d+2) C (h.le (eP (QN _ _) _)) X a k1 k2 i
theorem zr(H:V∈[1,2,4])(J:∀C,L=C+1->fY A R V F C 2 w)(Z:0<U->dc A R V (F+d) L qa w (U-1)):dc A R V (F+d+6) L (27*qa+1) w U:=by
 intro n W b i m e S s t K1 K2 c k h M j r K;rw[GT]at h;have g:V≠3:=by clear J Z h M K;rintro rfl;revert H;decide
 rw[show n+(F+d+6)+1=n+(F+d)+2+5 by exact fz 0x49ad50500001556a801400002 rfl];refine Gl (n:=n+(F+d)+2) (.inr H) h M j ?_ K;intro S1 s' t' x y u a hp v Q O c1 f z k2 q l E;rw[am g];refine QO (n:=n) H J Z v Q (aE _) ?_ c1 f z k2 q (l g) E;exact GU O r
theorem GV(U:cH<+:T)(Z:uT T t=1)(X:KR c T K t):E2 fun l q=>A3 (T[t]?=D (pu l)) (PR T K.m l q) (dC c T K.s l q):=by
 obtain⟨l,q,a,b,d⟩:=X.pa;rcases pJ T t with⟨e,_⟩|⟨_,x,e⟩;.rw[Z]at e;cases e
 rcases a with⟨a,_⟩|⟨_,a,_⟩|⟨_,_,a⟩;.clear Z X;subst a;exact gM (fM U e rfl) rfl
 .exact⟨l,q,a,b,d⟩
 .exact ae e (a x)
theorem cC.swap(h:cC V T (s,t) K1 K2 c n):cC V T (t,s) K2 K1 (!c) n:=⟨h.le,h.w2,h.w1,h.r2,by rw[KT];exact h.r1⟩
theorem QP:b+cS (1458*qa) (2*w) K1 K2=b+cS (27*(27*qa)) w K2 K1+cS (27*(27*qa)) w K1 K2:=by
 have z:1458*qa=27*(27*qa)+27*(27*qa):=by rw[<-YE,<-oT]
 unfold cS;rw[Bool.and_comm K2.s.isSome,z];generalize 27*(27*qa)=z;split;.exact fz 0xb5416a828005843ad400a0002 rfl
 .exact bB 0x95012a0a0004ad400a0002 rfl
theorem QQ:∀x,x<16->[aa.int 6,aa.int 7].contains (.int (dj x))=decide (x=15):=by decide+kernel
theorem bU(h:x<16)(Z:x=15->P)(X:x≠15->Q):br ([aa.int 6,aa.int 7].contains (.int (dj x))==Y) P Q:=by rw[QQ x h];exact bE Z X
theorem QR(dZ:∀L',L=L'+1->fY A R 3 F L' 2 w)(a:0<U->dc A R 3 (F+d) L qa w 0)(h:Iv A R W 3 (b+cS (1458*qa) (2*w) K1 K2) dp m b0 S)(E:cC 3 S.T (s,t) K1 K2 c L)(l:eF S.T (s,t) K1 K2<=m)(hu:uT S.T s+uT S.T t<=U)(c1:Co S.T s x)(X:Co S.T t y)(k1:KC x K1)(k2:KC y K2)(hc:x=15\/y=15\/(x=14/\y=14))(hk:∀g,Pw A R W 3 b dp m b0 (ak 3 K1 K2) S g->k (.bool (decide (0<=ak 3 K1 K2))) g.σ):CW (n+(F+d)+5) 98 [.ref R,.int s,.int t] S.σ k:=by
 have i:=h.st;have C:=i.tb.base;have u1:=vL c1 E.r1 C;have u2:=vL X E.r2 C;refine NI ?_;refine cps fun P hP=>?_;obtain⟨e,M⟩:=c1.ir;obtain⟨e',J⟩:=X.ir;refine hP ?_;apply o i.cR;apply o i.tb.az;apply o i.tb.fW;apply o (i.tb.row M);apply o (i.tb.row J);apply o (c1.di M);apply o (X.di J);have Q:x≠y->k (.bool aj) S.σ:=fun ne=>by have hv:=Gh k1 k2 c1.lt X.lt ne;have:=hk S ((Pw.refl (v:=(0:Nat)) (h.le (b8 _ _)) fun _ _ q hq=>nomatch hq).any (by decide));rw[bS (cY.mpr hv)]at this;exact this
 have j:∀{bb:Bool}{g},Pw A R W 3 b dp m b0 (0:Nat) S g->decide (0<=ak 3 K1 K2)=bb->k (.bool bb) g.σ:=fun{bb g}hw e=>by rw[<-e];exact hk g (hw.any (by decide))
 by_cases Z:x=15
 .by_cases H:y=15
  .obtain⟨l1,q1,a1,a2,a3⟩:=GV C (u1.1 Z) E.r1;obtain⟨l2,q2,b1,b2,b3⟩:=GV C (u2.1 H) E.r2;have a1:S.T[s]?=D (pu l1):=a1;have b1:S.T[t]?=D (pu l2):=b1;cases M.symm.trans a1;cases J.symm.trans b1;have r:=(k1.vM Z E.w1.nm.1).1;have u:=(k2.vM H E.w2.nm.1).1;have l:4*(cL K1+cL K2)+uT S.T s+uT S.T t<=m:=l;rw[u1.1 Z,u2.1 H]at l;rw[QP]at h;have K:(dj x:Int)=dj y:=aI ko (((jd x c1.lt).mpr Z).trans ((jd y X.lt).mpr H).symm);refine bD (fun _=>?_) fun e=>ae K e;have ask:=a (iW (by rw[u1.1 Z,nz];exact fg _) hu);refine GQ (n:=n) ask h E (da 0xb14b5a008300020b568020c01 rfl l) r u a2 a3 b2 b3 (fun S1 QS O=>?_) (fun S1 hn O=>?_)
   .refine GQ (n:=n) ask O.iv (E.aq O.pre).swap (da 0xb14b4a808300020b568020c01 rfl l) u r (b2.aq O.pre (dC.dZ (T:=S.T) b3)) (b3.aq O.pre) (a2.aq O.pre (dC.dZ (T:=S.T) a3)) (by rw[KT];exact a3.aq O.pre) (fun S2 QT w2=>?_) (fun S2 hn w2=>?_);.exact j (O.trans w2) (aN (V3.mpr (QE r u QS QT)))
    .exact j (O.trans w2) (bS fun q=>hn fun K' hK=>GO (V3.mp q).symm hK)
   .exact j (O.le (b8 _ _)) (bS fun q=>hn fun K' hK=>GO (V3.mp q) hK)
  .refine bD (fun e=>ae ((jd y X.lt).mp ((j4 (aI aa.int e)).symm.trans ((jd x c1.lt).mpr Z))) H) fun _=>?_;apply o (c1.di M);exact bU c1.lt (fun _=>Q fun e=>H (e▸Z)) fun q=>ae Z q
 .by_cases H:y=15;.refine bD (fun e=>ae ((jd x c1.lt).mp ((j4 (aI aa.int e)).trans ((jd y X.lt).mpr H))) Z) fun _=>?_;apply o (c1.di M);refine bU c1.lt (fun q=>ae q Z) fun _=>?_;apply o (X.di J);exact bU X.lt (fun _=>Q fun e=>Z (e▸H)) fun q=>ae H q
  .obtain⟨f,z⟩:=(hc.resolve_left Z).resolve_left H;have K:(dj x:Int)=dj y:=by rw[f,z]
   refine bD (fun _=>?_) fun e=>ae K e;apply o (c1.di M);refine bT 6 rfl (fun e=>ae ((jd x c1.lt).mp e) Z) fun _=>?_;apply o (c1.di M);refine bT 7 rfl (fun e=>ae e (qZ c1.lt 7 (by decide))) fun _=>?_;apply o (c1.di M);refine bU c1.lt (fun q=>ae q Z) fun _=>?_;apply o (X.di J);refine bU X.lt (fun q=>ae q H) fun _=>?_;apply o (c1.di M);apply o (X.di J);apply zb c1.lt X.lt;rw[af ⟨f,z⟩];clear c1 X hc u1 u2 Q Z H K;subst f z;rw[show n+(F+d)+4=n+d+2+F+2 by exact fz 0xd535a8000008b541400002 rfl];exact GS (n:=n+d+2) dZ (h.le (eP (by unfold cS;split;exact bB 706012113928192 rfl;exact aB 158918115328 rfl) _)) E l k1 k2 hk
theorem GW(X:∀O,L=O+1->fY A R 3 F O 2 w)(Z:0<U->dc A R 3 (F+d) L qa w 0):dc A R 3 (F+d+6) L (1458*qa+1) (2*w) U:=by intro n W b f m z S s t K1 K2 c k h E C M K;rw[GT]at h;rw[show n+(F+d+6)+1=n+(F+d)+2+5 by exact fz 0x49ad50500001556a801400002 rfl];refine Gl (n:=n+(F+d)+2) (.inl rfl) h E C ?_ K;intro S1 s' t' x y g q l j J H c1 r u k2 v i Q;rw[af rfl];exact QR (n:=n) X Z j J (aE _) (GU H M) c1 r u k2 v Q
end
theorem lU(al:Nat->Lc->AH->Prop)(J:∀lc σ,al n lc σ->kn lc σ)(U:∀j lc σ(K:Kn),j<n->al j lc σ->(∀lc σ,al (j+1) lc σ->K lc σ)->gO (fj lc t (.int (j:Nat))) fun X=>H X σ K)(h:al 0 lc σ):pf I t H ((iV n).map fun i=>.int (ko i)) lc σ kn:=by
 refine j3 (g:=I) (fun r lc σ=>E2 fun j m=>A3 (j+m=n) (r=(KU j m).map (fun i=>aa.int (ko i))) (al j lc σ)) (fun _ _ _ _=>trivial) ?_ ?_ ⟨0,n,gj n,by rw[KV],h⟩
 .rintro lc σ⟨j,m,e,Z,h⟩;rcases m with _|m;.clear U;subst e;exact J lc σ h
  cases Z
 .rintro x r lc σ K⟨j,m,e,Z,h⟩Q;rcases m with _|m;.cases Z
  cases Z;exact U j lc σ K (da 0xa96c0a0022ad001 rfl e) h fun lc σ h=>Q lc σ ⟨j+1,m,da 0xb16a0a0022b54b400002 rfl e,rfl,h⟩
section
theorem dY.len:∀{ps:List (Kd×Bool)}{pl:List (Nat×Bool)},dY c T ps pl->ps.length=pl.length:=by intro ps;induction ps with|nil=>intro pl h;rw[show pl=[]from h];rfl|cons p r Z=>intro pl h;obtain⟨i,X,rfl,_,h⟩:=h;exact aI (·+1) (Z h)
theorem dY.at:∀{ps:List (Kd×Bool)}{pl:List (Nat×Bool)}{i:Nat}{q:Kd×Bool},dY c T ps pl->ps[i]?=D q->∃t,pl[i]?=D (t,q.2)/\KR c T q.1 t:=by intro ps;induction ps with|nil=>intro pl i q h e;cases e|cons p r Z=>
intro pl i q h e;obtain⟨t,X,rfl,a,h⟩:=h;rcases i with _|i;.cases e;exact⟨t,rfl,by obtain⟨_,_⟩:=p;exact a⟩
exact Z (i:=i) h e
theorem QU:∀{ps:List (Kd×Bool)}{p:Kd×Bool},p∈ps->cL p.1<=sQ ps:=by intro ps;induction ps with|nil=>intro p h;cases h|cons q r ih=>
intro p h;obtain⟨k,o⟩:=q;show _<=max (cL k) (sQ r);rcases ce.mp h with rfl|h;.exact YW _ _
.exact bj (ih h) (YX _ _)
theorem zt{p:Kd×Bool}(h:p∈x.ps):cL p.1<=jD x:=by obtain⟨ps,sp,rest,X,Z,U⟩:=x;exact bj (QU h) (YW _ _)
theorem tm:cL x.res<=jD x:=by obtain⟨ps,sp,rest,H,U,O⟩:=x;exact YX _ _
theorem SR.same{p:Nat}(hT:cH<+:T)(l2:L<=2)(Z:bo V L x)(r:bo V L y)(r1:SR c T x p)(r2:SR (!c) T y p):gS V 3 x y ay=0:=by
 have u:=r2;have w:=r1;obtain⟨ps,sp,rest,v,O,fl⟩:=x;obtain⟨k,E,U,C,J,yz⟩:=y;obtain⟨pl,e,rt,pd,tl,h1,h2,h3,h4,h5,f⟩:=r1;obtain⟨M,e',og,oh,iQ,H,K,t,yD,s,A⟩:=r2;rw[h1]at H;obtain⟨ep,er,ed,ef⟩:=Fm (b9 H);clear s H;subst er ed ef;obtain⟨ea,et,en⟩:=Fp f A ep;subst et;obtain⟨g,i⟩:=en (by cases c<;>nofun);have z:∀{c l rest e},fE c T l rest e tl->l=[]/\rest=none:=fun h=>by
  rcases h.cases with⟨a,b,_⟩|⟨_,a⟩;.exact⟨a,b⟩
  .rw[i]at a;cases a
 have n:pl=[]:=by rw[<-ku sp pl,g,(z f).1];rfl
 have j:M=[]:=by rw[<-ku E M,ea.symm,g,(z A).1];rfl
 have p0:ps=[]:=nD (by rw[h2.len,n];rfl);have QV:k=[]:=nD (by rw[K.len,j];rfl);clear h2 K;subst p0 QV;have w1:aT V (L+1) (.mk 0 (D ⟨[],sp,rest,v,O,fl⟩)):=⟨⟨by decide,rfl⟩,fun x e=>by cases e;exact⟨⟨by decide,bQ _⟩,Z⟩⟩;have w2:aT V (L+1) (.mk 0 (D ⟨[],E,U,C,J,fl⟩)):=⟨⟨by decide,rfl⟩,fun x e=>by cases e;exact⟨⟨by decide,bQ _⟩,r⟩⟩;have eu:=KR.cV w1 w2 (ve hT w) (ve hT u);cases eu.1;by_cases d:V=3;.clear Z w1 r w2;subst d;exact(af rfl).trans (af rfl)
 .rw[yy d ⟨Z.1,fun p hp=>ae hp bK,Z.2.2.aq l2⟩ ⟨Z.1,fun p hp=>ae hp bK,Z.2.2.aq l2⟩];refine Ft rfl (z f).2 ?_ (fun m q=>sA q.1 fun x e=>nomatch e) Z.1;rw[<-Gg d (lj l2) Z.2.2 Z.2.2];exact((KR.cV Z.2.2 r.2.2 h3 t).2 (by cases c<;>nofun)) V d
theorem ov(ask:dc A R V F L qa H 2)(h:Iv A R W V (b+(qa+H)) Q m O S)(l2:L<=2)(E:aT V L K1)(C:aT V L K2)(M:KR c S.T K1 s)(K:KR (!c) S.T K2 t)(g:4*(cL K1+cL K2)+2<m)(j:∀X,Pq A R W V b Q m O (ak V K1 K2) S X->k (.bool (decide (0<=ak V K1 K2))) X.σ):dt WD (CW (n+F+2)) 36 R S.σ S.σ [.int s,.int t] k:=by have U:uT S.T s<=1:=(pJ S.T s).elim (fun q=>by rw[q.1];exact bQ 1) fun q=>gF q.1;have J:uT S.T t<=1:=(pJ S.T t).elim (fun q=>by rw[q.1];exact bQ 1) fun q=>gF q.1;refine dc.aR ask (h.le (eP (eP (by split;exact aE _;exact bQ _) _) _)) ⟨l2,E,C,M,K⟩ ?_ (jL U J) j;show 4*(cL K1+cL K2)+uT S.T s+uT S.T t<m;exact mK 0xb7080b608306ad00418021c5ed5a008300001 rfl g U J
noncomputable def mX(V:Nat):Option (Int×Option Nat×Int)->Option (Int×Option Nat×Int)->Int
|some (p0,Z,U),D (J,X,H)=>if p0≠J\/U≠H then-1 else match Z,X with|none,I=>0|some Z,D X=>ak V (.mk Z I) (.mk X I)|_,_=>-1
|_,_=>-1
def tp(p:Option (Int×Option Nat×Int)):Prop:=∀a k b,p=D (a,k,b)->∀m,k=D m->Nm m
theorem mY(h:Nm m):aT V n (.mk m I):=aT.aq (n:=0) ⟨h,rfl⟩ (bQ n)
theorem fO{i:Decidable (a=e)}(Z:a≠e->P)(X:a=e->Q):br (!decide (a=e)) P Q:=bN (bD X Z)
theorem GX{p q:Option (Int×Option Nat×Int)}(ask:dc A R V F L qa K 2)(h:Iv A R W V (b+(qa+K)) d m r S)(l2:L<=2)(u:2<m)(E:hW S.T p C)(J:hW S.T q M)(o1:tp p)(o2:tp q)(v:q≠I)(H:∀Q,Pw A R W V b d m r (mX V p q) S Q->k (.bool (decide (0<=mX V p q))) Q.σ):CW (n+F+3) 113 [.ref R,C,M] S.σ k:=by
 have g:b<=b+(qa+K):=b8 _ _;have Z:mX V p q=-1->k (.bool aj) S.σ:=fun e=>by have:=H S (by rw[e];exact .refl (h.le g) fun q=>ae q (by decide));rw[e]at this;exact this
 have bV:mX V p q=0->k (.bool Y) S.σ:=fun e=>by have:=H S (by rw[e];exact .refl (h.le g) fun _ _ x f=>nomatch f);rw[e]at this;exact this
 refine NQ ?_;rcases q with _|⟨y,U,z⟩;.exact ae rfl v
 rcases p with _|⟨p0,O,l⟩;.cases show C=_ from E;exact Z rfl
 have j:∀{t:Nat},¬(t:Int)=-1:=fun q=>(fun q=>ae (hZ _) (cY.mpr q)) (q▸(by decide:(-1:Int)<0));rcases O with _|O
 .cases show C=_ from E;rcases U with _|U;.cases show M=_ from J;refine fO (fun e=>Z (af (.inl e))) fun X=>fO (fun e=>Z (af (.inr e))) fun e2=>?_;exact bV (am fun q=>q.elim (fun q=>q X) fun q=>q e2)
  obtain⟨t,rfl,_⟩:=J;refine fO (fun e=>Z (af (.inl e))) fun X=>fO (fun e=>Z (af (.inr e))) fun e2=>?_;show k (.bool (decide ((-1:Int)=t))) S.σ;rw[bS fun q:(-1:Int)=t=>j q.symm];exact Z (am fun q=>q.elim (fun q=>q X) fun q=>q e2)
 obtain⟨s,rfl,i⟩:=E;rcases U with _|U;.cases show M=_ from J;refine fO (fun e=>Z (af (.inl e))) fun X=>fO (fun e=>Z (af (.inr e))) fun e2=>?_;show k (.bool (decide ((s:Int)=-1))) S.σ;rw[bS fun q:(s:Int)=-1=>j q];exact Z (am fun q=>q.elim (fun q=>q X) fun q=>q e2)
 obtain⟨t,rfl,a⟩:=J;refine fO (fun e=>Z (af (.inl e))) fun X=>fO (fun e=>Z (af (.inr e))) fun e2=>?_;have ev:mX V (D (p0,D O,l)) (D (y,D U,z))=ak V (.mk O I) (.mk U I):=am fun q=>q.elim (fun q=>q X) fun q=>q e2;rw[ev]at H;exact ov (c:=Y) ask h l2 (mY (o1 _ _ _ rfl _ rfl)) (mY (o2 _ _ _ rfl _ rfl)) (qO.mp i) (qO.mp a) u fun Q w=>H Q w.toPw
end
theorem QW:∀a:Nat,a<8->∀e:Nat,e<8->(decide (km (Kw (a:Int) (e:Int)) (qd 2 4)=0))=decide (a&&&6=e&&&6):=by decide+kernel
theorem vN:∀{l:List (Nat×Bool)}{j i:Nat}{q:Nat×Bool},l[i]?=D q->(bg c j l)[i]?=D (iP c (j+i) q):=by intro l;induction l with|nil=>intro j i q h;cases h|cons p l Z=>
intro j i q h;rcases i with _|i;.cases h;rfl
.rw[show j+(i+1)=j+1+i by exact bB 0xa9680016a0a0002 rfl];exact Z (j:=j+1) (i:=i) h
theorem ej:∀{l:List (Nat×Bool)}{j:Nat},(bg c j l).length=l.length:=by intro l;induction l with|nil=>intro _;exact rfl|cons _ l Z=>intro j;exact aI (·+1) (Z)
theorem ox:∀{ps:List (Kd×Bool)},gz ps=ps.map j1:=by intro ps;induction ps with|nil=>exact rfl|cons _ r Z=>exact aI _ (Z)
section
theorem Pq.z3(h:Pq A R W 3 b Z m X v S S'):Pw A R W 3 b Z m X (0:Nat) S S':=h.toPw.any (by decide)
theorem QX:nV .ne σ (eB o1) (eB o2)=D (o1 !=o2):=by cases o1<;>cases o2<;>rfl
theorem GY(h:j1 (K1,o1)=j1 (K2,o2)):cB K1=cB K2/\o1=o2:=by have h:aa.ab [cB K1,eB o1]=aa.ab [cB K2,eB o2]:=h;injection h with h;injection h with U h;injection h with h _;exact⟨U,yA h⟩
theorem oz{i:Nat}(h:l[i]?=D d)(Z:l.length<av):cZ σ (.ab l) (.int i)=D d:=gI h Z
theorem QY(ask:dc A R 3 F L qa M 2)(h:Iv A R W 3 (b+ps.length*(qa+M)) r m u S)(l2:L<=2)(w:ps.length<=4)(lq:kQ.length<=4)(k1:dY c S.T ps pl)(k2:dY (!c) S.T kQ v)(w1:∀p∈ps,aT 3 L p.1)(w2:∀p∈kQ,aT 3 L p.1)(hm:∀p∈ps,∀q∈kQ,4*(cL p.1+cL q.1)+2<m)(hy:∀O,gz ps=gz kQ->Pw A R W 3 b r m u (0:Nat) S O->k (.bool Y) O.σ)(f:∀O,¬gz ps=gz kQ->Pw A R W 3 b r m u (0:Nat) S O->k (.bool aj) O.σ):CW (n+F+3) 119 [.ref R,.ab (bg c 0 pl),.ab (bg (!c) 0 v)] S.σ k:=by
 have e1:=k1.len;have e2:=k2.len;have y:(bg c 0 pl).length<av:=by rw[ej,e1.symm];exact ax 296386383873 rfl w
 have n2:(bg (!c) 0 v).length<av:=by rw[ej,e2.symm];exact ax 296386383873 rfl lq
 have hb:b<=b+ps.length*(qa+M):=b8 _ _;have fP:gz ps=gz kQ->ps.length=kQ.length:=fun e=>by have:=aI rV e;rw[ox,ox,aJ,aJ]at this;exact this
 refine NR ?_;apply p (ip y);apply p (ip n2);rw[ej,ej,e1.symm,e2.symm];refine fO (fun e=>f S (fun q=>e (aI _ (fP q))) (.refl (h.le hb) fun _ _ _ q=>nomatch q)) fun e=>?_;have e:=dr e;apply p ((ip y).trans (by rw[ej,e1.symm]));refine⟨by rw[jw (ax 296386383873 rfl w),aN (by exact ax 0x8a041e848040d009 rfl w)];rfl,?_⟩;rw[ic];refine lU (fun j lc J=>E2 fun v3 S1=>A5 (lc=[D (.ref R),D (.ab (bg c 0 pl)),D (.ab (bg (!c) 0 v)),v3]) (S1.σ=J) (j<=ps.length) (Pw A R W 3 (b+(ps.length-j)*(qa+M)) r m u (0:Nat) S S1) (∀i,i<j->(ps[i]?).map j1=(kQ[i]?).map j1)) ?_ ?_ ⟨I,S,rfl,rfl,bQ _,(Pw.refl h fun _ _ _ q=>nomatch q),fun _ q=>ae q (xm _)⟩
 .rintro lc J⟨v3,S1,rfl,rfl,_,U,g⟩;rw[jN,rR]at U;refine hy S1 ?_ U;rw[ox,ox];refine YY fun i=>?_;rw[gm,gm];by_cases q:i<ps.length;.exact g i q
  .rw[jo (kt q),jo (e▸kt q)]
 .rintro j lc J K E⟨v3,S1,rfl,rfl,z,U,g⟩hK;have C:j<kQ.length:=e▸E;have Z:=dL E;have X:=dL C;generalize ps[j]=q1 at Z;generalize kQ[j]=q2 at X;refine YZ (k1.at Z) fun t1 t=>YZ (k2.at X) fun t2 s=>?_;have g1:=t.1;have g2:=s.1;have m1:=jQ Z;have m2:=jQ X;have a1:=oz (σ:=S1.σ) (vN (c:=c) (j:=0) g1) y;have a:=oz (σ:=S1.σ) (vN (c:=!c) (j:=0) g2) n2;rw[mJ E,oT,rS,<-eL]at U;have H:b<=b+(ps.length-(j+1))*(qa+M):=b8 _ _;induction q1 using KW with|mk K1 o1=>induction q2 using KW with|mk K2 o2=>
  have fail:(j1 (K1,o1)≠j1 (K2,o2))->¬gz ps=gz kQ:=fun x q=>x (by rw[ox,ox]at q;have:=aI (fun l=>l[j]?) q;simp only[gm,Z,X]at this;exact b9 this);apply o a1;apply o a;apply o (QX (o1:=o1) (o2:=o2));refine bI (fun x=>?_) fun d=>?_;.exact f S1 (fail fun q=>fy.mp x (GY q).2) (U.le (bj H (b8 _ _)))
  .have d:o1=o2:=nJ fun q=>by rw[fy.mpr q]at d;cases d
   apply o a1;apply o a;apply ov (c:=c) (K1:=K1) (K2:=K2) ask U.iv l2 (w1 _ m1) (w2 _ m2) ((t.2).aq U.pre) ((s.2).aq U.pre) (hm _ m1 _ m2);intro S2 hq;have Q:=U.trans hq.z3;refine bN (bD (fun hv=>?_) fun hv=>?_)
   .refine hK _ _ ⟨_,S2,rfl,rfl,E,Q,fun i hi=>?_⟩;by_cases q:i<j;.exact g i q
    .have:i=j:=fx (aC 0xb505021ad000 rfl hi) (aC 709782851584 rfl q);clear E z g hK C U H t g1 a1 s g2 a hq Q hi q;subst this;rw[Z,X,d];show D (aa.ab [cB K1,_])=D (aa.ab [cB K2,_]);rw[V3.mp hv]
   .exact f S2 (fail fun q=>hv (V3.mpr (GY q).1)) (Q.le H)
end
section
theorem QZ(h:eO a=eO e):a=e:=by
 rcases a with _|a;.induction e using cN with|none=>rfl|some e=>exact nomatch h
 induction e using cN with|none=>exact nomatch h|some e=>injection h with h;injection h with h _;rw[j4 h]
theorem Q0{p q:Option (Int×Option Nat×Int)}(h:dG p=dG q):p=q:=by
 rcases p with _|⟨p0,Z,X⟩<;>rcases q with _|⟨U,J,H⟩;.rfl
 .exact nomatch h
 .exact nomatch h
 .have h:aa.ab [.int p0,eO Z,.int X]=aa.ab [.int U,eO J,.int H]:=h;rw[aa.int.inj (td h 0 rfl rfl),QZ (td h 1 rfl rfl),aa.int.inj (td h 2 rfl rfl)]
theorem GZ{p q:Option (Int×Option Nat×Int)}(J:p≠I):0<=mX 3 p q↔p=q:=by
 rcases p with _|⟨p0,U,X⟩;.exact ae rfl J
 rcases q with _|⟨q0,Z,q2⟩;.exact⟨fun h=>ae h (show¬(0:Int)<=-1 by decide),nofun⟩
 show 0<=(if p0≠q0\/X≠q2 then(-1:Int)else _)↔_;by_cases e:p0≠q0\/X≠q2;.rw[af e];exact⟨fun h=>ae h (by decide),fun h=>by cases h;exact ae e fun q=>q.elim (fun q=>q rfl) fun q=>q rfl⟩
 .rw[am e];have H:p0=q0:=nJ fun q=>e (.inl q);have e2:X=q2:=nJ fun q=>e (.inr q);clear e;subst H e2;rcases U with _|U;.induction Z using cN with|none=>exact⟨fun _=>rfl,fun _=>fS 0⟩|some Z=>exact⟨fun h=>ae h (show¬(0:Int)<=-1 by decide),fun h=>nomatch h⟩
  induction Z using cN with|none=>exact⟨fun h=>ae h (show¬(0:Int)<=-1 by decide),fun h=>nomatch h⟩|some Z=>exact V3.trans ⟨fun h=>by rw[(pT h).1],fun h=>by cases h;rfl⟩
theorem Q1{p q:Option (Int×Option Nat×Int)}(ask:dc A R 3 F L qa j 2)(h:Iv A R W 3 (b+(qa+j)) O m E S)(l2:L<=2)(d:2<m)(C:hW S.T p U)(J:hW S.T q M)(o1:tp p)(o2:tp q)(K:∀Z,p=q->Pw A R W 3 b O m E (0:Nat) S Z->k (.bool Y) Z.σ)(H:∀Z,¬p=q->Pw A R W 3 b O m E (0:Nat) S Z->k (.bool aj) Z.σ):CW (n+F+4) 120 [.ref R,U,M] S.σ k:=by
 have g:Pw A R W 3 b O m E (0:Nat) S S:=.refl (h.le (b8 _ _)) fun _ _ _ q=>nomatch q;have X:∀{p:Option (Int×Option Nat×Int)}{U},hW S.T p U->p≠I->E3 fun a z e=>U=.ab [.int a,.int z,.int e]:=fun{p U}h w=>by
  rcases p with _|⟨p0,v,f⟩;.exact ae rfl w
  rcases v with _|_;.exact⟨_,_,_,h⟩
  obtain⟨t,e,_⟩:=h;exact⟨_,_,_,e⟩
 refine NS ?_;by_cases e1:p=I
 .clear o1;subst e1;cases show U=_ from C;by_cases e2:q=I;.clear o2 H;subst e2;cases show M=_ from J;exact K S rfl g
  .obtain⟨a,z,e,rfl⟩:=X J e2;exact H S (fun q=>e2 q.symm) g
 .obtain⟨a,z,e,rfl⟩:=X C e1;by_cases e2:q=I;.clear o2 K;subst e2;cases show M=_ from J;exact H S e1 g
  .obtain⟨y,c,s,rfl⟩:=X J e2;refine GX (n:=n) ask h l2 d C J o1 o2 e2 fun Z Q=>?_;have Q:=Q.any (u:=(0:Nat)) (by decide);by_cases q:p=q;.rw[aN ((GZ e1).mpr q)];exact K Z q Q
   .rw[bS fun r=>q ((GZ e1).mp r)];exact H Z q Q
theorem SR.plain{p:Nat}(h:SR c T x p)(Q:x.rest=I/\x.sp=x.ps.length):E3 fun pl rt Z=>A4 (T[p]?=D (eC (bg c 0 pl) rt Z x.fl)) (dY c T x.ps pl) (KR c T x.res rt) (hW T x.pred Z):=by obtain⟨ps,sp,rest,O,J,L⟩:=x;obtain⟨pl,e,rt,Z,tl,X,U,E,C,M,H⟩:=h;clear C;obtain⟨rfl,rfl⟩:rest=I/\sp=ps.length:=Q;rw[U.len,rX]at X;rw[U.len,BL]at H;rw[show tl=[]from H,bO]at X;exact⟨pl,rt,Z,X,U,E,M⟩
theorem kL.pr(h:kL V x):tp x.pred:=fun a k b e=>(h.pred a k b e).2.2.2.2
theorem tq:dH x=dH y↔gz x.ps=gz y.ps/\x.pred=y.pred/\cB x.res=cB y.res/\x.fl&&&6=y.fl&&&6:=by
 obtain⟨ps,sp,rest,J,X,K⟩:=x;obtain⟨H,A,E,U,Z,Q⟩:=y;show aa.ab [.ab (gz ps),cB J,dG X,.int (K&&&6:Nat)]=aa.ab [.ab (gz H),cB U,dG Z,.int (Q&&&6:Nat)]↔gz ps=gz H/\X=Z/\cB J=cB U/\K&&&6=Q&&&6;constructor;.intro h;injection h with h;injection h with O h;injection h with C h;injection h with M h;injection h with L _;injection O with O;exact⟨O,Q0 M,C,j4 L⟩
 .rintro⟨O,C,M,L⟩;rw[O,C,M,L]
theorem zu(ask:dc A R 3 F L qa J 2)(l2:L<=2)(i:P<=4)(C:(P+2)*(qa+J)<=w):fY A R 3 (F+6) L P w:=by
 intro n W b g m j S s t x y c ay k h a r2 Q O p1 p2 d hk;have u:gS 3 3 x y ay=if dH x=dH y then 0 else-1:=af rfl;have bV:∀{Z},dH x=dH y->Pw A R W 3 b g m j (0:Nat) S Z->k (.bool Y) Z.σ:=fun{Z}e C=>by have:=hk Z (C.any (by decide));rw[u,af e]at this;exact this
 have K:∀{Z},¬dH x=dH y->Pw A R W 3 b g m j (0:Nat) S Z->k (.bool aj) Z.σ:=fun{Z}e C=>by have:=hk Z (C.any (by decide));rw[u,am e]at this;exact this
 have w0:Pw A R W 3 b g m j (0:Nat) S S:=.refl (h.le (b8 _ _)) fun _ _ _ q=>nomatch q;show CW (n+F+6) 118 _ _ _;refine uW ?_;refine bD (fun e=>?_) fun ne=>?_;.cases dr e;refine bV ?_ w0;have:=SR.same (ay:=ay) (h.st.tb.base) l2 Q O a r2;rw[u]at this;exact nJ fun q=>by rw[am q]at this;cases this
 apply o h.st.eZ;obtain⟨pl,rt,pd,g1,g2,g3,g4⟩:=a.plain (Q.1.pl rfl);obtain⟨ql,og,oh,e1,e2,e3,e4⟩:=r2.plain (O.1.pl rfl);have E:=h.st;refine NT ?_;apply o E.cR;apply o E.tb.az;apply o E.tb.fW;apply o (E.tb.row g1);refine E.tb.dw e1 ?_;refine E.tb.dw g1 ?_;refine bN ?_;show br (decide (km (Kw (x.fl:Int) (y.fl:Int)) (qd 2 4)=0)) _ _;rw[(QW x.fl Q.1.fl y.fl O.1.fl)];refine bD (fun v=>?_) fun v=>K (fun q=>v (tq.mp q).2.2.2) w0;have hx:=uk (qa+J) (ur p1 2);have hb:b+(qa+J)+(qa+J)+x.ps.length*(qa+J)<=b+w:=by rw[oT,Nat.two_mul]at hx;exact yr 0xcdaa0b5400b8020c6420c5017b5416a828000000 rfl C hx
 have M:n+F+4=n+1+F+3:=bB 0xf52d000022b400002 rfl;rw[M];refine QY (n:=n+1) (b:=b+(qa+J)+(qa+J)) ask (h.le hb) l2 (bj p1 i) (bj p2 i) g2 e2 Q.2.1 O.2.1 (fun p hp q hq=>?_) (fun S1 hy H=>?_) (fun S1 f H=>K (fun q=>f (tq.mp q).1) (H.le (fz 0xb5416a828005000 rfl)));.have q1:=zt hp;exact mK 0xc5480bd080b1b1701060086c6ad00418001 rfl d q1 (zt hq)
 rw[M.symm];refine Q1 (n:=n) ask H.iv l2 (da 0x286b540418021a1801 rfl d) (g4.aq H.pre) (e4.aq H.pre) Q.1.pr O.1.pr (fun S2 z l=>?_) (fun S2 f l=>K (fun q=>f (tq.mp q).2.1) ((H.trans l).le (fz 778483814400 rfl)));have X:=H.trans l;rw[show n+F+4=n+2+F+2 by exact bB 0xd535000022b400002 rfl];refine ov (n:=n+2) ask X.iv l2 Q.2.2 O.2.2 (g3.aq X.pre) (e3.aq X.pre) (mK 0xc5480bd080b1b1701060086c6ad00418001 rfl d (tm (x:=x)) (tm (x:=y))) fun S3 h3=>?_;have U:=X.trans h3.z3;by_cases q:cB x.res=cB y.res;.rw[aN (V3.mpr q)];exact bV (tq.mpr ⟨hy,z,q,v⟩) U
 .rw[bS fun r=>q (V3.mp r)];exact K (fun r=>q (tq.mp r).2.2.1) U
end
theorem rh(f:aa->Bool)(g:aa->aa)(P:Lc->Prop)(L:P lc)(H:∀x∈xs,∀lc,P lc->∃Z,A4 (fj lc t x=D Z) (P Z) (∀Q:Bool->AH->Prop,Q (f x) σ->c Z σ Q) (f x=Y->∀eb:Po,eb (g x) σ->e Z σ eb))(O:k (.ref σ.length) (σ++[.list ((xs.filter f).map g)])):jY I t c e xs [] lc σ k:=by
 refine qP (g:=I) (fun a r lc X=>X=σ/\P lc/\(∀x∈r,x∈xs)/\a++(r.filter f).map g=(xs.filter f).map g) (fun _ _ _ _ _=>trivial) ?_ ?_ ⟨rfl,L,fun _ h=>h,rfl⟩;.clear H;rintro a lc X⟨rfl,_,_,e⟩;rw[Y0,uu,bO]at e;rw[e];exact O
 .clear O;rintro x r a lc X K⟨rfl,A,E,e⟩C;obtain⟨Z,j,M,d,u⟩:=H x (E x aW) lc A;refine o j (d _ ?_);have U:=fun y(w:y∈r)=>E y (cI _ w);rcases J:f x with _|_;.refine C _ _ _ ⟨rfl,M,U,?_⟩;rw[KX (jJ.mp J)]at e;exact e
  refine u J _ (C _ _ _ ⟨rfl,M,U,?_⟩);rw[BM J,ii]at e;rw[dy];exact e
structure Sv(c:Bool)(T:List aa)(x:Sg)(p:Nat)(pl:List (Nat×Bool))(e rt:Nat)(pd:aa)(tl:List aa):Prop where
row:T[p]?=D (eC (bg c 0 (pl.take x.sp)++tl) rt pd x.fl)ks:dY c T x.ps pl
res:KR c T x.res rt
rest:mO T x.rest e
pred:hW T x.pred pd
tail:fE c T (pl.drop x.sp) x.rest e tl
sp:x.sp<=pl.length
lp:pl.length<=4
section
variable{b p e rt n:Nat}
theorem SR.sv(h:SR c T x p)(U:kL V x):E5 fun pl e rt Z tl=>Sv c T x p pl e rt Z tl:=by obtain⟨ps,sp,rest,H,J,L⟩:=x;obtain⟨pl,e,rt,Z,tl,Q,X,O,E,C,M⟩:=h;exact⟨pl,e,rt,Z,tl,Q,X,O,E,C,M,X.len▸U.sp,X.len▸U.len⟩
theorem Sv.aq(h:Sv c T x p pl e rt X tl)(Z:T<+:T'):Sv c T' x p pl e rt X tl:=⟨bX Z h.row,h.ks.aq Z,h.res.aq Z,h.rest.aq Z,h.pred.aq Z,h.tail.aq Z,h.sp,h.lp⟩
noncomputable def zv(d:aa):Int:=match d with|.ab [_,_,.int z]=>z|_=>2
theorem G0:∀{l:List (Nat×Bool)}{j:Nat},∀d∈bg c j l,E2 fun a q=>d=.ab [a,.int (q:Nat×Bool).1,eB q.2]:=by intro l;induction l with|nil=>intro j d h;cases h|cons q l Z=>
intro j d h;rcases ce.mp h with rfl|h;.exact⟨_,q,rfl⟩
.exact Z d h
theorem vO{o:Bool}:nV .ne σ (eB o) (.int 2)=D true:=by cases o<;>rfl
theorem Q2:∀{l:List (Nat×Bool)}{j:Nat},(bg c j l).filter (fun d=>zv d !=2)=bg c j l:=by intro l;induction l with|nil=>intro _;exact rfl|cons Z l X=>obtain⟨i,o⟩:=Z;intro j;show Y1 _ (iP c j (i,o)::bg c (j+1) l)=_;rw[BM (by cases o<;>rfl),X];rfl
theorem Q3(h:fE c T dl rest e tl):tl.filter (fun d=>zv d !=2)=[]:=by rcases h.cases with⟨_,_,rfl⟩|⟨Z,rfl⟩<;>rfl
theorem Q4(h:fE c T dl rest e tl):∀d∈bg c j l++tl,E3 fun a i q=>d=.ab [a,.int (i:Nat),q]/\((∃o,q=eB o)\/q=.int 2):=fun d Z=>by
 rcases dI.mp Z with q|q;.clear Z;obtain⟨a,r,rfl⟩:=G0 (j:=j) d q;exact⟨a,r.1,_,rfl,.inl ⟨_,rfl⟩⟩
 .clear Z;rcases h.cases with⟨_,_,rfl⟩|⟨X,rfl⟩;.cases q
  .rw[ba.mp q];exact⟨_,X,_,rfl,.inr rfl⟩
theorem pV(h:fE c T dl rest e tl)(U:l.length<=4)(O:∀Z,Fr [] σ Z->k (.int l.length) Z):CW (n+1) 56 [eC (bg c 0 l++tl) rt E b] σ k:=by
 have C:tl.length<=1:=by rcases h.cases with⟨_,_,rfl⟩|⟨A,rfl⟩;exact bQ 1;exact aE 1
 refine Ej ?_;apply o (hU (by rw[aU,ej];exact b5 0xb50811408055a0001 rfl U C));refine rh (fun d=>zv d !=2) id (fun lc=>∃v,lc=[D (eC (bg c 0 l++tl) rt E b),v]) ⟨I,rfl⟩ ?_ ?_
 .rintro d J lc⟨v,rfl⟩;obtain⟨a,i,q,rfl,M⟩:=Q4 h d J;refine⟨_,rfl,⟨_,rfl⟩,fun g H=>?_,fun _ eb L=>L⟩;clear J;rcases M with⟨o1,rfl⟩|rfl;.cases o1<;>exact H
  .exact H
 .rw[KY,Q2,Q3 h,bO,Y2];apply p (dv aS (by rw[ej];exact ax 296386383873 rfl U));rw[ej];exact O _ .new
theorem fE.row(h:fE c T dl rest e tl)(Z:tl=[de c U]):(dl=[]/\rest≠I/\T[U]?=D (lL e 0))\/(dl≠[]/\T[U]?=D (iM (dl.map bc++bv rest e) 0)):=by
 rcases dl with _|⟨q,r⟩;.induction rest using cN with|none=>rw[show tl=[]from h]at Z;cases Z|some m=>obtain⟨X,a,b⟩:=h;rw[Z]at a;rw[(sz (gX a).1).1];exact .inl ⟨rfl,nofun,b⟩
 obtain⟨X,a,b⟩:=h;rw[Z]at a;rw[(sz (gX a).1).1];exact .inr ⟨nofun,b⟩
theorem kT(Z:(l++[d]).length<av):lD (l++[d]) (-1)=D d:=by rw[aU,qg]at Z;show(if(Y&&decide ((l++[d]).length<av))=Y then(if(0:Int)<=-1 then _ else if 0<=(-1:Int)+(l++[d]).length then _ else I)else I)=_;rw[aU,qg,aN Z,af (show(Y&&Y)=Y from rfl),am (by decide),af (by rw[EP];exact hZ _),ym,Y3,jM (aE _),jN];rfl
theorem zw(X:l≠[]):E4 fun r a i o=>bg c j l=r++[aa.ab [a,.int (i:Nat),eB o]]:=by have Z:bg c j l≠[]:=fun q=>X (nD (by rw[<-ej (c:=c) (j:=j),q];rfl));obtain⟨a,q,e⟩:=G0 (c:=c) (l:=l) (j:=j) _ (List.getLast_mem Z);exact⟨_,a,q.1,q.2,by rw[e.symm];exact(BF Z).symm⟩
theorem zz(h:l≠[]):(bg c j l).isEmpty=false:=by induction l using eQ with|nil=>exact ae rfl h|cons=>rfl
theorem vP{Z:Nat}(h:Tb A b T σ)(e:T[Z]?=D d)(X:d=lL p 0\/∃es,d=iM es 0)(U:k (.ab [.int Z]) σ):CW (n+1) 20 [.ref A.az,.int Z] σ k:=by
 have J:Z≠2:=fun q=>by clear U;subst q;have:=fM h.base e rfl;clear e;rcases X with rfl|⟨_,rfl⟩<;>exact gM this rfl
 refine yE (l:=[Z]) h (.inr (.inr ⟨J,rfl,fun x q=>?_⟩)) (fun H _ q=>?_) (bp.mp e).1 U;.rw[e]at q;clear e;rcases X with rfl|⟨_,rfl⟩<;>exact gM (b9 q) rfl
 .rw[e]at q;cases q;clear e;rcases X with rfl|⟨es,rfl⟩;.exact⟨11,_,rfl,cm rfl,by decide⟩
  .exact⟨12,_,rfl,cm rfl,by decide⟩
theorem fG(c:Nat)(hz:z=(c:Int))(J:t=c->P)(H:t≠c->Q):br (decide ((t:Int)=z)) P Q:=by subst hz;exact bD (fun q=>J (dr q)) fun q=>H fun e=>q (aI _ e)
theorem tu{tl:List aa}(h:Tb A b T σ)(E:fE c T dl rest e tl)(Q:l.length<=4)(C:tl=[]->k (.ab []) σ)(M:∀X,tl=[de c X]->k (.ab [.int X]) σ):CW (n+2) 55 [.ref A.bd,eC (bg c 0 l++tl) rt L p] σ k:=by
 have H:(bg c 0 l).length<av:=by rw[ej];exact ax 296386383873 rfl Q
 refine yg ?_;rcases E.cases with⟨_,_,O⟩|⟨X,Z⟩
 .rw[O,bO];by_cases U:l=[];.clear Q H;subst U;exact C O
  .apply o (qK H);rw[zz U];obtain⟨r,a,i,o1,e1⟩:=zw (c:=c) (j:=0) U;rw[e1]at H⊢;apply o (show cZ σ (.ab _) (.int (-1))=_ from kT H);apply o vO;exact C O
 .have J:(bg c 0 l++[de c X]).length<av:=by rw[aU,ej];unfold av;show l.length+1<_;exact ax 303499642011649 rfl Q
  rw[Z];apply o (qK J);rw[show(bg c 0 l++[de c X]).isEmpty=aj by clear Q H J;cases l<;>rfl];apply o (show cZ σ (.ab _) (.int (-1))=_ from kT J);apply o (show cZ σ (.ab _) (.int (-1))=_ from kT J);refine eE h ?_;rcases E.row Z with⟨_,_,e1⟩|⟨_,e1⟩
  .refine fG 2 rfl (fun q=>?_) fun _=>?_;.clear Z J;subst q;exact nomatch fM h.base e1 rfl
   apply o h.az;exact vP (p:=e) h e1 (.inl rfl) (M X Z)
  .refine fG 2 rfl (fun q=>?_) fun _=>?_;.clear Z J;subst q;exact gM (fM h.base e1 rfl) rfl
   apply o h.az;exact vP (p:=e) h e1 (.inr ⟨_,rfl⟩) (M X Z)
end
noncomputable def k2(d:aa):Int:=match d with|.ab [_,.int z]=>z|_=>3
noncomputable def nd(l:List (Nat×Bool)):Nat:=(l.filter fun q=>!q.2).length
section
variable{pl l dl:List (Nat×Bool)}
theorem tz:∀d∈dl.map bc++bv rest e,(∃q,d=bc q)\/∃i:Nat,d=.ab [.int i,.int 2]:=fun d h=>by
 rcases dI.mp h with h|h;.obtain⟨q,_,rfl⟩:=gZ.mp h;exact .inl ⟨q,rfl⟩
 .rcases rest with _|m;.cases h
  rw[ba.mp h];exact .inr ⟨e,rfl⟩
theorem kU:(dl.map bc++bv rest e).length<=dl.length+1:=by
 rw[aU,aJ];cases rest;.exact dh _
 .exact aE _
theorem Q5:∀{dl:List (Nat×Bool)},((dl.map bc++bv rest e).filter fun d=>k2 d==0).length=nd dl:=by intro dl;induction dl with|nil=>cases rest<;>rfl|cons X dl Z=>
obtain⟨i,o⟩:=X;have Z:=Z;unfold nd at Z⊢;cases o;.exact aI (·+1) Z
.exact Z
theorem Q6(H:dl.length<=4)(Q:∀Z,Fr [] σ Z->k (.int (nd dl)) Z):CW (n+1) 48 [iM (dl.map bc++bv rest e) 0] σ k:=by
 refine Ni ?_;apply o (hU (b5 0xb5050204542015001 rfl H (kU (dl:=dl) (rest:=rest) (e:=e))));refine rh (fun d=>k2 d==0) (fun d=>.int (k2 d)) (fun lc=>E2 fun v w=>lc=[D (iM (dl.map bc++bv rest e) 0),v,w]) ⟨I,I,rfl⟩ ?_ ?_
 .rintro d X lc⟨v,w,rfl⟩;rcases tz d X with⟨⟨i,o1⟩,rfl⟩|⟨i,rfl⟩
  .refine⟨_,rfl,⟨_,_,rfl⟩,fun O U=>?_,fun _ eb J=>?_⟩;.clear X;cases o1<;>exact U
   .clear X;cases o1<;>exact J
  .exact⟨_,rfl,⟨_,_,rfl⟩,fun O U=>U,fun _ eb J=>J⟩
 .have e1:(((dl.map bc++bv rest e).filter fun d=>k2 d==0).map fun d=>aa.int (k2 d)).length=nd dl:=by rw[aJ,Q5]
  apply p (dv aS (by rw[e1];exact ax 296386383873 rfl (bj (oY _ _) H)));rw[e1];exact Q _ .new
theorem Q7(Q:dl.length<=4)(U:k (.int (match rest with|none=>(dl.length:Int)|some _=>-1)) σ):CW (n+1) 49 [iM (dl.map bc++bv rest e) 0] σ k:=by
 have J:(dl.map bc++bv rest e).length<av:=b5 0xb5050204542015001 rfl Q (kU (dl:=dl) (rest:=rest) (e:=e));refine Nj ?_;apply o (hU J);refine j3 (g:=I) (fun r lc Z=>Z=σ/\E3 fun v w q=>lc=[D (iM (dl.map bc++bv rest e) 0),v,w]/\r=q.map bc++bv rest e) (fun _ _ _ _=>trivial) ?_ ?_ ⟨rfl,I,I,dl,rfl,rfl⟩
 .rintro lc Z⟨rfl,v,w,q,rfl,X⟩;rcases rest with _|m;.apply p (ip J);rw[show(dl.map bc++bv I e).length=dl.length by rw[aU,aJ];rfl];exact U
  exact ae X.symm (by simp[bv])
 .rintro d r lc Z K⟨rfl,v,w,q,rfl,X⟩H;rcases q with _|⟨q,O⟩;.induction rest using cN with|none=>cases X|some m=>clear H;cases X;exact U
  obtain⟨i,o1⟩:=q;cases X;have:=H _ _ ⟨rfl,D (.int i),D (eB o1),O,rfl,rfl⟩;cases o1<;>exact this
theorem zA(E:dl.length<=4)(C:k (.int dl.length) σ):CW (n+1) 51 [iM (dl.map bc++bv rest e) 0] σ k:=by
 have Z:=kU (dl:=dl) (rest:=rest) (e:=e);have U:(dl.map bc++bv rest e).length<av:=b5 0xb5050204542015001 rfl E Z;refine Nk ?_;apply p (ip U);refine⟨by rw[jw U,aN (by exact b5 0x16a0a0408a841e848040d009 rfl E Z)];rfl,?_⟩;rw[ic];refine lU (fun j lc X=>X=σ/\j<=dl.length/\∃v,lc=[D (iM (dl.map bc++bv rest e) 0),v]) ?_ ?_ ⟨rfl,bQ _,I,rfl⟩
 .rintro lc X⟨rfl,O,v,rfl⟩;apply p (ip U);rcases rest with _|m;.rw[show(dl.map bc++bv I e).length=dl.length by rw[aU,aJ];rfl];exact C
  exact ae O (by rw[aU,aJ];exact KZ _)
 .rintro j lc X K O⟨rfl,J,v,rfl⟩M;by_cases q:j<dl.length
  .have e1:(dl.map bc++bv rest e)[j]?=D (bc dl[j]):=by rw[ib (by rw[aJ];exact q),gm,dL q];rfl
   apply o (oz e1 U);have:=M _ _ ⟨rfl,q,D (.int j),rfl⟩;cases h:dl[j]with|mk i o1=>clear h;cases o1<;>exact this
  .have:j=dl.length:=fx (aC 743063605248 rfl J) (aC 709782851584 rfl q);clear J M q;subst this;rcases rest with _|m;.exact ae O (by rw[aU,aJ];exact oW _)
   apply o (oz (show(dl.map bc++bv (D m) e)[dl.length]?=D (.ab [.int e,.int 2])by rw[jM (by rw[aJ];exact aE _),aJ,jN];rfl) U);exact C
def Mo(l:List (Nat×Bool)):Prop:=∀i q,l[i]?=D q->(q.2=aj↔i<nd l)
theorem G1:nd l<=l.length:=oY _ _
theorem dY.snd:∀{ps:List (Kd×Bool)}{pl:List (Nat×Bool)},dY c T ps pl->pl.map (·.2)=ps.map (·.2):=by intro ps;induction ps with|nil=>intro pl h;rw[show pl=[]from h];rfl|cons p r Z=>intro pl h;obtain⟨i,X,rfl,_,h⟩:=h;exact aI (p.2::·) (Z h)
theorem Q8:∀{l:List (Nat×Bool)},nd l=((l.map (·.2)).filter fun q=>!q).length:=by intro l;induction l with|nil=>exact rfl|cons X l Z=>
obtain⟨i,o1⟩:=X;have Z:=Z;unfold nd at Z⊢;cases o1;.exact aI (·+1) Z
.exact Z
theorem Q9:∀{ps:List (Kd×Bool)},((ps.filter fun p=>!p.2).length)=((ps.map (·.2)).filter fun q=>!q).length:=by intro ps;induction ps with|nil=>exact rfl|cons X l Z=>
obtain⟨i,o1⟩:=X;have Z:=Z;cases o1;.exact aI (·+1) Z
.exact Z
theorem dY.nd(h:dY c T ps pl):nd pl=(ps.filter fun p=>!p.2).length:=by rw[Q8,h.snd,Q9]
theorem zB:∀{ps:List (Kd×Bool)}{pl:List (Nat×Bool)},fD ps=Y->dY c T ps pl->Mo pl:=by intro ps;induction ps with|nil=>intro pl _ h;rw[show pl=[]from h];exact fun i q e=>nomatch e|cons U r X=>
  obtain⟨K,o1⟩:=U;intro pl Z h;obtain⟨t,is,rfl,_,h⟩:=h;have Z:((!o1||r.all (·.2))&&fD r)=true:=Z;rw[gG]at Z;have X:=X Z.2 h;intro i q e;rcases o1 with _|_
  .have en:nd ((t,aj)::is)=nd is+1:=rfl;rcases i with _|i;.cases e;rw[en];exact⟨fun _=>fg _,fun _=>rfl⟩
   rw[en];exact(X i q e).trans Nat.succ_lt_succ_iff.symm
  have z:nd is=0:=by rw[h.nd,List.length_eq_zero_iff,Y4];intro p J;rw[fR.mp (Z.1) p J];nofun
  have en:nd ((t,Y)::is)=nd is:=rfl;rw[en,z];rcases i with _|i;.cases e;exact⟨nofun,fun q=>ae q (oW _)⟩
  have:=X i q e;rw[z]at this;exact this.trans ⟨fun q=>ae q (xm _),fun q=>ae q (xm _)⟩
theorem Ra:nd (a++dl)=nd a+nd dl:=by unfold nd;rw[KY,aU]
end
section
theorem Rb(ht:fE c T dl rest e tl)(hl:l.length<=4)(hm:∀i q,l[i]?=D q->(q.2=aj↔i<w))(hk:k (.int (min w l.length:Nat)) σ):CW (n+1) 60 [eC (bg c 0 l++tl) rt pd fl] σ k:=by
 have lt:tl.length<=1:=by rcases ht.cases with⟨_,_,rfl⟩|⟨tt,rfl⟩;exact bQ 1;exact aE 1
 have je:(bg c 0 l++tl).length=l.length+tl.length:=by rw[aU,ej]
 have lm:(bg c 0 l++tl).length<av:=fk 0x2d5050222d8204542015001 rfl hl lt je;refine Nq ?_;apply p (ip lm);refine⟨by rw[jw lm,aN (by exact fk 0x5aa0a0445b0408a841e848040d009 rfl hl lt je)];rfl,?_⟩;rw[ic];refine lU (fun j lc au=>au=σ/\∃v,lc=[D (eC (bg c 0 l++tl) rt pd fl),D (.int (min j (min w l.length):Nat)),v]) ?_ ?_ ⟨rfl,I,by rw[Nat.zero_min];rfl⟩;.rintro lc au⟨rfl,v,rfl⟩;rw[je,rY (bj (jT _ _) (b8 _ _))];exact hk
 .clear hk;rintro j lc au K hj⟨rfl,v,rfl⟩hK;by_cases q:j<l.length;.have e1:=vN (c:=c) (j:=0) (dL q);have e2:=hm j _ (dL q);induction h:l[j]using KW with|mk i o1=>
   rw[h]at e1 e2;apply o (oz (show(bg c 0 l++tl)[j]?=_ from(ib (by rw[ej];exact q)).trans e1) lm);rcases o1 with _|_;.have:j<w:=e2.mp rfl;refine hK _ _ ⟨rfl,D (.int j),?_⟩;rw[mj (Nat.le_min.mpr ⟨this,q⟩)];rfl
   have:¬j<w:=fun q=>(by have h:=e2.mpr q;contradiction);refine hK _ _ ⟨rfl,D (.int j),?_⟩;rw[(rY (bj (uv _ _) (lj (kt this)))).trans (rY (bj (uv w l.length) (kt this))).symm];rfl
  .clear lt;rcases ht.cases with⟨_,_,rfl⟩|⟨tt,rfl⟩;.exact ae hj (by rw[je];exact q)
   .have:j=l.length:=by rw[je]at hj;exact fx (oU hj) (kt q)
    clear q hj;subst this;apply o (oz (show(bg c 0 l++[de c tt])[l.length]?=D (de c tt)by rw[jM (by rw[ej];exact aE _),ej,jN];rfl) lm);refine hK _ _ ⟨rfl,D (.int l.length),?_⟩;rw[(rY (lj (jT _ _))).trans (rY (jT w l.length)).symm];rfl
theorem Rd(h:Mo (a++dl))(O:0<nd dl):nd a=a.length:=by refine nJ fun E=>?_;obtain⟨q,C,X⟩:=List.length_filter_lt_length_iff_exists.mp (xt G1 E);obtain⟨j,J⟩:=K0 C;have H:=(bp.mp J).1;have M:nd (a++dl)<=j:=kt fun r=>X (by rw[(h j q (by rw[ib H];exact J)).mpr r];rfl);obtain⟨Q,U⟩:=List.exists_mem_of_length_pos O;have Z:=Y5.mp U;obtain⟨i,hi⟩:=K0 Z.1;have:=(h (a.length+i) Q (by rw[jM (b8 _ _),xv];exact hi)).mp (by have:=Z.2;induction e:Q.2 using xw with|false=>rfl|true=>rw[e]at this;cases this);exact ae (iW this M) (g9.mpr (bj (li H) (b8 _ _)))
theorem Sv.aQ(h:Sv c T x s pl e rt Z tl):(pl.take x.sp).length=x.sp:=by rw[ie,mj h.sp]
theorem Sv.mZ(h:Sv c T x s pl e rt Z tl):x.sp+(pl.drop x.sp).length=pl.length:=by rw[rZ];exact uw h.sp
theorem Sv.l4(h:Sv c T x s pl e rt Z tl):(pl.take x.sp).length<=4:=by rw[h.aQ];exact bj h.sp h.lp
theorem Sv.d4(h:Sv c T x s pl e rt Z tl):(pl.drop x.sp).length<=4:=by rw[rZ];exact bj (qi _ _) h.lp
theorem Sv.mo(h:Sv c T x s pl e rt X tl)(Z:kL V x):Mo pl:=zB Z.aq h.ks
theorem tA(h:σ[i]?=D (.list [.int v])):iI .min σ [.ref i]=D (.int v,σ):=by show(xR σ (.ref i)).map _=_;unfold xR;rw[eA h];rfl
theorem Re(h:Tb A b T σ)(hv:Sv c T x s pl e rt pd tl)(hm:Mo pl)(hk:∀au,Fr [] σ au->k (.int (nd pl)) au):CW (n+3) 62 [.ref A.bd,.int s] σ k:=by
 have h1:Tb A b T (σ++[.list []]):=h.cp;have hs:nd (pl.take x.sp)+nd (pl.drop x.sp)=nd pl:=by rw[Ra.symm,ku]
 have mt:∀i q,(pl.take x.sp)[i]?=D q->(q.2=aj↔i<nd pl):=fun i q e=>hm i q (by have:=(bp.mp e).1;rw[hv.aQ]at this;rw[e.symm,BN this]);have zC:∀{au}{ke:Po},nd (pl.drop x.sp)=0->ke (.int (nd pl)) au->CW (n+2) 60 [eC (bg c 0 (pl.take x.sp)++tl) rt pd x.fl] au ke:=fun{au ke}e0 Rf=>by refine Rb hv.tail hv.l4 mt ?_;rw[mj (by rw[hs.symm,e0];exact G1)];exact Rf
 have pos:=h.pos;refine Nt ?_;refine h.dw hv.row ?_;apply tu h1 hv.tail hv.l4
 .intro ht;rw[ht]at hv;have d0:pl.drop x.sp=[]:=by
   rcases hv.tail.cases with⟨a,_,_⟩|⟨_,a⟩;.exact a
   .cases a
  refine⟨trivial,?_⟩;apply o (kK aS (by decide));exact zC (by rw[d0];rfl) (hk _ .new)
 .intro tt ht;have ap:qD 0 σ.length [] (σ++[.list []]) [.int 0]=D (.none,σ++[.list [.int 0]]):=(gy (by decide) (ax 691524489222 rfl pos)).trans (by rw[qS];rfl);refine⟨trivial,?_⟩;rcases hv.tail.row ht with⟨d0,_,e1⟩|⟨d0,e1⟩;.refine h1.dw e1 ?_;apply o aS;apply o (eA aS);apply p ap;refine⟨trivial,?_⟩;apply o (kK aS (by decide));apply p (tA aS);exact zC (by rw[d0];rfl) (hk _ .new)
  .refine h1.dw e1 ?_;apply Q6 hv.d4;intro cz f2;have h2:=h1.fV f2;have g2:cz[σ.length]?=D (.list []):=f2 _ _ aS bK;apply o aS;apply o (eA g2);apply p (gy (v:=.int (nd (pl.drop x.sp))) (show([]:List aa).length<av by decide) (ax 691524489222 rfl pos));have g3:(cz.set σ.length (.list ([]++[.int (nd (pl.drop x.sp))])))[σ.length]?=D (.list [.int (nd (pl.drop x.sp))]):=eV g2;have f3:Fr [] σ (cz.set σ.length (.list ([]++[.int (nd (pl.drop x.sp))]))):=(Fr.new.trans f2).kI (jo (aE _));refine⟨trivial,?_⟩;apply o (kK g3 (show 1<av by decide));apply p (tA g3);refine bD (fun q=>?_) fun q=>?_;.apply pV hv.tail hv.l4;intro jc f4;have:=Rd (by rw[ku];exact hm) (l8.mp q);rw[this]at hs;have:=hk jc (f3.trans f4);rw[hs.symm]at this;exact this
   .exact zC (Nat.eq_zero_of_not_pos fun r=>q (l8.mpr r)) (hk _ f3)
end
noncomputable def zD(r:Option Nat)(a:Int):Int:=match r with|none=>a|some _=>-1
section
theorem Sv.ri(h:Sv c T x s pl e rt X tl)(Z:tl=[]):pl.drop x.sp=[]/\x.rest=I/\pl.length=x.sp:=by
 rcases h.tail.cases with⟨a,r,_⟩|⟨_,a⟩;.have:=h.mZ;rw[a]at this;exact⟨a,r,this.symm⟩
 .rw[Z]at a;cases a
theorem zE(h:Tb A b T σ)(X:Sv c T x s pl e rt E tl)(U:∀Z,Fr [] σ Z->k (.int (zD x.rest pl.length)) Z):CW (n+3) 63 [.ref A.bd,.int s] σ k:=by
 refine Ek ?_;refine h.dw X.row ?_;apply tu h X.tail X.l4;.intro H;refine cps fun P O=>?_;obtain⟨_,e1,e2⟩:=X.ri H;refine O ?_;refine⟨trivial,?_⟩;apply pV X.tail X.l4;intro Z f;have:=U Z f;rw[e1,show zD I pl.length=pl.length from rfl,e2,X.aQ.symm]at this;exact this
 .intro C H;refine⟨trivial,?_⟩;rcases X.tail.row H with⟨Q,r,e1⟩|⟨Q,e1⟩
  .refine h.dw e1 ?_;rcases J:x.rest with _|m;.exact ae J r
   rw[J]at U;exact U σ .rfl
  .refine h.dw e1 ?_;apply Q7 X.d4;rcases J:x.rest with _|m;.rw[J]at U;have pos:0<(pl.drop x.sp).length:=List.length_pos_iff.mpr Q;refine⟨trivial,?_⟩;apply pV X.tail X.l4;intro Z f;have:=U Z f;rw[show zD I pl.length=pl.length from rfl,X.mZ.symm]at this;show k (.int (((pl.take x.sp).length:Int)+(if((pl.drop x.sp).length:Int)>0 then((pl.drop x.sp).length:Int)else 0))) Z;rw[X.aQ,af (l8.mpr pos)];exact this
   rw[J]at U;exact U σ .rfl
theorem Rg(h:Tb A b T σ)(Z:Sv c T x s pl e rt L tl)(U:∀X,Fr [] σ X->k (.int pl.length) X):CW (n+3) 64 [.ref A.bd,.int s] σ k:=by
 have Q:Tb A b T (σ++[.list []]):=h.cp;have pos:=h.pos;have K:=Z.mZ;refine El ?_;refine h.dw Z.row ?_;apply tu Q Z.tail Z.l4;.intro O;obtain⟨_,_,e2⟩:=Z.ri O;refine⟨trivial,?_⟩;apply pV Z.tail Z.l4;intro X f;apply o (kK (f _ _ aS bK) (by decide));have:=U X (Fr.new.trans f);rw[e2,Z.aQ.symm]at this;exact this
 .intro j O;refine⟨trivial,?_⟩;have H:∀{d:Nat}cz,d=(pl.drop x.sp).length->Fr [] ((σ++[AO.list []]).set σ.length (.list ([]++[.int d]))) cz->cz[σ.length]?=D (.list [.int d])/\k (.int (((pl.take x.sp).length:Int)+d)) cz:=fun{d}cz E J=>by refine⟨J _ _ (eV (o':=.list ([]++[.int d])) aS) bK,?_⟩;have:=U cz ((Fr.new.kI (jo (aE _))).trans J);rw[Z.mZ.symm,E.symm]at this;rw[Z.aQ];exact this
  rcases Z.tail.row O with⟨C,_,e1⟩|⟨C,e1⟩;.refine Q.dw e1 ?_;apply o aS;apply o (eA aS);apply p (gy (v:=.int 0) (show([]:List aa).length<av by decide) (ax 691524489222 rfl pos));refine⟨trivial,?_⟩;apply pV Z.tail Z.l4;intro cz J;obtain⟨g,U⟩:=H cz (d:=0) (by rw[C];rfl) J;apply o (kK g (show 1<av by decide));apply p (tA g);exact U
  .refine Q.dw e1 ?_;apply zA Z.d4;apply o aS;apply o (eA aS);apply p (gy (v:=.int (pl.drop x.sp).length) (show([]:List aa).length<av by decide) (ax 691524489222 rfl pos));refine⟨trivial,?_⟩;apply pV Z.tail Z.l4;intro cz J;refine cps fun P M=>?_;obtain⟨g,U⟩:=H cz rfl J;refine M ?_;apply o (kK g (show 1<av by decide));apply p (tA g);exact U
end
noncomputable def eH(x:Sg)(n:Nat):Nat:=match x.rest with|none=>n|some _=>n+1
section
variable{pl l dl:List (Nat×Bool)}
theorem Sv.pW(h:Sv c T x s pl e rt U tl)(Z:tl≠[]):∃X,tl=[de c X]:=by
 rcases h.tail.cases with⟨_,_,a⟩|a;.exact ae a Z
 .exact a
theorem Sv.G2(h:Sv c T x s pl e rt U tl)(Z:x.rest≠I):∃X,tl=[de c X]:=h.pW fun q=>Z (h.ri q).2.1
theorem Sv.vQ(h:Sv c T x s pl e rt X tl)(U:tl=[de c Z]):(bg c 0 (pl.take x.sp)++[de c Z]).length=x.sp+1/\(bg c 0 (pl.take x.sp)++[de c Z]).length<av:=by
 have e1:(bg c 0 (pl.take x.sp)++[de c Z]).length=x.sp+1:=by rw[aU,ej,h.aQ];rfl
 exact⟨e1,by rw[e1];exact dM (mi (bj h.sp h.lp)) (cm rfl)⟩
theorem zF(h:Tb A b T σ)(X:Sv c T x s pl e rt f tl)(j:∀H,Fr [] σ H->k (.int (eH x pl.length)) H):CW (n+4) 106 [.ref A.bd,.int s] σ k:=by
 refine EB ?_;apply zE h X;intro bY C;have U:=h.fV C;have Z:=j bY C;unfold eH at Z;rcases O:x.rest with _|m;.rw[O]at Z;exact Z
 rw[O]at Z;obtain⟨M,u⟩:=X.G2 (by rw[O];nofun);subst u;have E:=X.vQ rfl;refine U.dw X.row ?_;apply o U.az;apply o (show cZ bY (.ab (bg c 0 (pl.take x.sp)++[de c M])) (.int (-1))=_ from kT E.2);refine eE U ?_;have Q:∀{z:Int},z=(pl.drop x.sp).length+1->k (.int (((bg c 0 (pl.take x.sp)++[de c M]).length:Int)-1+z)) bY:=fun{z}e1=>by have:=X.mZ;rw[E.1,e1,pj,show(x.sp:Int)+((pl.drop x.sp).length+1)=((pl.length+1:Nat):Int)from aI (fun n:Nat=>((n+1:Nat):Int)) this];exact Z
 rcases X.tail.row rfl with⟨L,r,e1⟩|⟨L,e1⟩;.refine vP (p:=e) U e1 (.inl rfl) ?_;refine⟨trivial,?_⟩;refine U.dw e1 ?_;refine⟨trivial,?_⟩;apply p (ip E.2);exact Q (by rw[L];rfl)
 .refine vP (p:=e) U e1 (.inr ⟨_,rfl⟩) ?_;refine⟨trivial,?_⟩;refine U.dw e1 ?_;have K:((pl.drop x.sp).map bc++bv x.rest e).length=(pl.drop x.sp).length+1:=by rw[O,aU,aJ];rfl
  have w:((pl.drop x.sp).map bc++bv x.rest e).length<av:=by have:=X.d4;rw[K];exact ax 303499642011649 rfl this
  apply p (ip w);refine⟨trivial,?_⟩;apply p (ip E.2);refine Q ?_;rw[K];show(if(((pl.drop x.sp).length+1:Nat):Int)>1 then(((pl.drop x.sp).length+1:Nat):Int)else 1)=_;generalize(pl.drop x.sp).length=d;cases d with|zero=>rfl|succ d=>exact af (cw.mpr (Nat.succ_lt_succ (fg d)))
theorem G3(h:Tb A b T σ)(X:Sv c T x s pl e rt E tl)(U:k (.int (-1)) σ):CW (n+2) 101 [.ref A.bd,.int s] σ k:=by
 have J:(bg c 0 (pl.take x.sp)).length<av:=by have:=X.l4;rw[ej];exact ax 296386383873 rfl this
 refine Ey ?_;refine h.dw X.row ?_;by_cases Q:tl=[]
 .clear X;subst Q;rw[bO];by_cases Z:pl.take x.sp=[];.rw[Z];exact U
  .apply o (qK J);rw[zz Z];obtain⟨r,a,i,o1,e1⟩:=zw (c:=c) (j:=0) Z;rw[e1]at J⊢;apply o (show cZ σ (.ab _) (.int (-1))=_ from kT J);apply o vO;exact U
 .obtain⟨O,rfl⟩:=X.pW Q;have H:=X.vQ rfl;apply o (qK H.2);rw[show(bg c 0 (pl.take x.sp)++[de c O]).isEmpty=aj by cases pl.take x.sp<;>rfl];apply o (show cZ σ (.ab _) (.int (-1))=_ from kT H.2);apply o (show cZ σ (.ab _) (.int (-1))=_ from kT H.2);refine eE h ?_;apply o h.az;apply o h.fW;rcases X.tail.row rfl with⟨_,_,e1⟩|⟨_,e1⟩;.apply o (h.row e1);exact U
  .apply o (h.row e1);exact U
theorem Rh{l:List aa}(Z:l.length<av):qB σ (.ab l) .none (.int (-1))=D (.ab l.dropLast,σ):=by
 have e:dT l .none (.int (-1))=D l.dropLast:=by unfold dT;rw[af Z];show D ((l.take ((-1:Int)+l.length).toNat).drop 0)=_;rw[ux,BO,ym]
 show(match dT l _ _ with|some r=>_|none=>I)=_;rw[e]
theorem G4{es:List aa}(X:σ[i]?=D (.list (es.map g)))(h:∀d∈es,∃y:Int,g d=.int y/\y≠z):io σ (.int z) (.ref i)=D false:=by
 show(match σ[i]? with|some (.list xs)=>_|some (.dict es)=>_|_=>I)=_;rw[X];have e1:(es.map g).all cg=true:=fR.mpr fun y U=>by obtain⟨d,Z,rfl⟩:=gZ.mp U;obtain⟨y,e,_⟩:=h d Z;rw[e];rfl
 have e2:(es.map g).contains (.int z)=false:=by rw[<-KO,Y6];intro q;obtain⟨d,Z,e⟩:=gZ.mp q;obtain⟨y,J,H⟩:=h d Z;rw[J]at e;exact H (aa.int.inj e)
 show(if(cg (.int z)&&(es.map g).all cg)=Y then D ((es.map g).contains (.int z))else I)=_;rw[e1,e2];rfl
theorem G5:∀d∈(dl.map bc++bv rest e).dropLast,∃q,d=bc q:=fun d h=>by
 rcases rest with _|m;.rw[show bv I e=[]from rfl,bO]at h;obtain⟨q,_,rfl⟩:=gZ.mp (Y7 _ h);exact⟨q,rfl⟩
 rw[show bv (D m) e=[.ab [.int e,.int 2]]from rfl,YS]at h;obtain⟨q,_,rfl⟩:=gZ.mp h;exact⟨q,rfl⟩
theorem zG:∀{l:List aa},l.filter (fun _=>Y)=l:=by intro l;induction l with|nil=>exact rfl|cons a l Z=>exact aI (a::·) (Z)
theorem zH(h:Tb A b T σ)(Z:Sv c T x s pl e rt g tl)(Q:∀J,Fr [] σ J->k (.bool aj) J):CW (n+3) 102 [.ref A.bd,.int s] σ k:=by
 have O:(bg c 0 (pl.take x.sp)).length<av:=by have:=Z.l4;rw[ej];exact ax 296386383873 rfl this
 refine Ez ?_;apply G3 h Z;refine h.dw Z.row ?_;by_cases L:tl=[]
 .clear Z;subst L;rw[bO];by_cases U:pl.take x.sp=[];.rw[U];exact Q σ .rfl
  .apply o (qK O);rw[zz U];obtain⟨r,a,i,o1,e1⟩:=zw (c:=c) (j:=0) U;rw[e1]at O⊢;apply o (show cZ σ (.ab _) (.int (-1))=_ from kT O);apply o vO;exact Q σ .rfl
 .obtain⟨E,rfl⟩:=Z.pW L;have C:=Z.vQ rfl;apply o (qK C.2);rw[show(bg c 0 (pl.take x.sp)++[de c E]).isEmpty=aj by cases pl.take x.sp<;>rfl];apply o (show cZ σ (.ab _) (.int (-1))=_ from kT C.2);apply o h.az;apply o h.fW;apply o (show cZ σ (.ab _) (.int (-1))=_ from kT C.2);refine eE h ?_;rcases Z.tail.row rfl with⟨_,_,e1⟩|⟨_,e1⟩;.apply o (h.row e1);exact Q σ .rfl
  .apply o (h.row e1);have M:((pl.drop x.sp).map bc++bv x.rest e).length<av:=b5 0x115080b50502015001 rfl (kU (dl:=pl.drop x.sp) (rest:=x.rest) (e:=e)) (Z.d4);apply p (Rh M);apply o (hU (dM (by rw[Y8];exact qi _ _) M));refine rh (fun _=>Y) (fun d=>.int (k2 d)) (fun lc=>∃v,lc=[D (.ref A.bd),D (.int s),D (.int (-1)),D (.ab (bg c 0 (pl.take x.sp)++[de c E])),D (iM ((pl.drop x.sp).map bc++bv x.rest e) 0),v,I]) ⟨I,rfl⟩ ?_ ?_;.rintro d X lc⟨v,rfl⟩;obtain⟨⟨i,o1⟩,rfl⟩:=G5 d X;exact⟨_,rfl,⟨_,rfl⟩,fun K H=>H,fun _ eb Z=>by clear X;cases o1<;>exact Z⟩
   rw[zG];apply o (G4 aS fun d X=>by obtain⟨⟨i,o1⟩,rfl⟩:=G5 d X;clear X;cases o1;exact⟨_,rfl,(by decide:(0:Int)≠2)⟩;exact⟨_,rfl,(by decide:(1:Int)≠2)⟩);apply o (hU M);refine rh (fun _=>Y) (fun d=>.int (k2 d)) (fun lc=>∃v,lc=[D (.ref A.bd),D (.int s),D (.int (-1)),D (.ab (bg c 0 (pl.take x.sp)++[de c E])),D (iM ((pl.drop x.sp).map bc++bv x.rest e) 0),I,v]) ⟨I,rfl⟩ ?_ ?_
   .rintro d X lc⟨v,rfl⟩;rcases tz d X with⟨⟨i,o1⟩,rfl⟩|⟨i,rfl⟩;.exact⟨_,rfl,⟨_,rfl⟩,fun K H=>H,fun _ eb Z=>by clear X;cases o1<;>exact Z⟩
    .exact⟨_,rfl,⟨_,rfl⟩,fun K H=>H,fun _ eb Z=>Z⟩
   rw[zG];apply o (G4 aS fun d X=>by
    rcases tz d X with⟨⟨i,o1⟩,rfl⟩|⟨i,rfl⟩
    .clear X;cases o1;.exact⟨_,rfl,(by decide:(0:Int)≠3)⟩
     .exact⟨_,rfl,(by decide:(1:Int)≠3)⟩
    .exact⟨_,rfl,(by decide:(2:Int)≠3)⟩);exact Q _ (Fr.new.trans .new)
end
noncomputable def jE(x:Sg):Int:=if db x=Y then(if x.rest=D 0 then 2 else 0)else-1
section
theorem KC.is(h:KC x K)(Z:x<16)(hi:i<13):x=i↔K=.mk (2^i) none:=by
 refine⟨fun e=>by subst e;exact h.a hi,fun e=>?_⟩;by_cases q:x<13;.have:=h.a q;rw[e]at this;exact(GP hi (Kd.mk.inj this).1).symm
 .exfalso;rcases qI 13 Z (g9.mp q)with r|r|r;.have:=h.n r;rw[e]at this;exact ae (Kd.mk.inj this).1 (jl (uj i))
  .obtain⟨y,this⟩:=h.s r;rw[e]at this;exact nomatch(Kd.mk.inj this).2
  .have:=(h.u r).2.2;rw[e]at this;exact this rfl i hi rfl
theorem KC.Ri(h:KC x K)(Z:x<16):x=13↔K=.mk 0 none:=by
 refine⟨h.n,fun e=>?_⟩;by_cases q:x<13;.have:=h.a q;rw[e]at this;exact ae (Kd.mk.inj this).1.symm (jl (uj x))
 .rcases qI 13 Z (g9.mp q)with r|r|r;.exact r
  .obtain⟨y,this⟩:=h.s r;rw[e]at this;exact nomatch(Kd.mk.inj this).2
  .exact ae (by rw[e];rfl) (h.u r).2.1
structure Rj(K:Kd)(t:Nat):Prop where
any:t=0↔K=.mk 4096 I
Rk:t=1↔K=.mk 2048 I
jA:t=2↔K=.mk 0 I
G6:t=3↔K=.mk 1024 I
theorem zI(h:Tb A b T σ)(U:KR c T K t)(J:aT V n K):Rj K t:=by obtain⟨x,Z,X⟩:=y9 h.base h.nd U J;exact⟨(Z.id 0 (.inl (by decide))).trans (X.is Z.lt (i:=12) (by decide)),(Z.id 1 (.inl (by decide))).trans (X.is Z.lt (i:=11) (by decide)),(Z.id 2 (.inl (by decide))).trans (X.Ri Z.lt),(Z.id 3 (.inl (by decide))).trans (X.is Z.lt (i:=10) (by decide))⟩
theorem G7{a b z:Nat}:io σ (.int z) (.ab [.int a,.int b])=D (decide (z=a\/z=b)):=(ot (l:=[a,b])).trans (aI D (iF.mpr ⟨by
rintro⟨p,h,e⟩;have e:=dr e;subst e;rcases ce.mp h with h|h;.exact .inl h
.exact .inr (ba.mp h),fun h=>h.elim (fun h=>⟨a,aW,aI _ h.symm⟩) fun h=>⟨b,cI _ aW,aI _ h.symm⟩⟩))
theorem Rl{z:Nat}:io σ (.int z) (.ab [.int 0,.int 2])=D (decide (z=0\/z=2)):=G7 (a:=0) (b:=2)
theorem Rn{z:Nat}:io σ (.int z) (.ab [.int 0,.int 1])=D (decide (z=0\/z=1)):=G7 (a:=0) (b:=1)
theorem G8{z:Nat}(Z:z=0\/z=2->P)(X:¬(z=0\/z=2)->Q):br ([aa.int 0,aa.int 2].contains (.int z)==Y) P Q:=by rw[show[aa.int 0,aa.int 2].contains (.int z)=decide (z=0\/z=2)from b9 (Rl (σ:=[]))];exact bE Z X
theorem vT{z:Nat}(Z:z=0\/z=1->P)(X:¬(z=0\/z=1)->Q):br ([aa.int 0,aa.int 1].contains (.int z)==Y) P Q:=by rw[show[aa.int 0,aa.int 1].contains (.int z)=decide (z=0\/z=1)from b9 (Rn (σ:=[]))];exact bE Z X
theorem G9{p:Option (Int×Option Nat×Int)}(h:hW T p Z):(p=I/\Z=.ab [])\/(p≠I/\E3 fun a z i=>Z=.ab [.int a,.int z,.int i]):=by
 rcases p with _|⟨p0,X,U⟩;.exact .inl ⟨rfl,h⟩
 .refine .inr ⟨nofun,?_⟩;rcases X with _|_;.exact⟨_,_,_,h⟩
  obtain⟨t,e,_⟩:=h;exact⟨_,_,_,e⟩
theorem vU(h:db x=aj):jE x=-1:=am (by rw[h];nofun)
theorem Sv.vV(h:Sv c T x s pl e rt U tl):x.ps.isEmpty=pl.isEmpty:=by have:=h.ks.len;cases Z:x.ps<;>cases X:pl<;>rw[Z,X]at this<;>first|rfl|cases this
theorem zJ(h:Tb A b T σ)(Z:Sv c T x s pl e rt pd tl)(v:bo V w x)(Q:k (.int (jE x)) σ):CW (n+2) 115 [.ref A.bd,.int s] σ k:=by
 have U:db x=aj->k (.int (-1)) σ:=fun q=>by rw[vU q]at Q;exact Q
 refine EF ?_;refine h.dw Z.row ?_;by_cases O:tl=[]
 .obtain⟨H,K,e0⟩:=Z.ri O;have E:db x=false:=by unfold db;rw[K];rfl
  subst O;rw[bO];have n1:(bg c 0 (pl.take x.sp)).length<av:=by have:=Z.l4;rw[ej];exact ax 296386383873 rfl this
  apply p (ip n1);refine fO (fun _=>U E) fun e1=>?_;rw[ej]at e1;obtain⟨q,f⟩:=Y9.mp (dr e1);rw[f];clear f;obtain⟨i,o1⟩:=q;apply o (vO (o:=o1));exact U E
 .obtain⟨tt,rfl⟩:=Z.pW O;have g:=Z.vQ rfl;apply p (ip g.2);rw[g.1];refine fO (fun e1=>U ?_) fun e1=>?_
  .have:pl.isEmpty=false:=by
    rcases J:pl with _|⟨_,_⟩;.have:=Z.sp;rw[J]at this;exact ae (by rw[YV.mp this];rfl) e1
    rfl
   unfold db;rw[Z.vV,this,Bool.and_false,Bool.false_and]
  have j:x.sp=0:=by have:=dr e1;exact ax 0xa5a002225002 rfl this
  have X:pl.take x.sp=[]:=by rw[j];rfl
  rw[X];rcases G9 Z.pred with⟨J,rfl⟩|⟨J,a,z,i,rfl⟩
  .refine eE h ?_;apply o h.az;apply o h.fW;have t:=zI h Z.res v.2.2;rcases Z.tail.row rfl with⟨H,K,e2⟩|⟨H,e2⟩
   .have d:pl=[]:=by rw[<-ku x.sp pl,X,H];rfl
    apply o (h.row e2);refine eE h ?_;refine eE h ?_;obtain⟨m,C⟩:=r5.mp K;have l:=Z.rest;rw[C]at l;have M:=zI (c:=c) h (qO.mp l) (mY (V:=V) (n:=0) (v.1.rest m C));have iv:(Kd.mk m I=.mk 4096 I↔m=4096)/\(Kd.mk m I=.mk 0 I↔m=0):=⟨⟨fun q=>(Kd.mk.inj q).1,fun q=>by rw[q]⟩,⟨fun q=>(Kd.mk.inj q).1,fun q=>by rw[q]⟩⟩;have r:db x=(decide (e=0\/e=2)&&decide (rt=0\/rt=1)):=by
     unfold db;rw[C,Z.vV,d,J];show((m==4096||m==0)&&_&&Y&&Y)=_;rw[lh,lh];congr 1;.rw[uo,jS,aV,aV,decide_eq_true_iff,M.any,M.jA,iv.1,iv.2]
     .rw[uo,decide_eq_true_iff,t.any,t.Rk];induction x.res using Kd.casesOn with|mk m' s'=>induction s' using cN with|none=>show(m'==4096||m'==2048)=Y↔_;rw[jS,aV,aV];exact⟨fun q=>q.imp (fun q=>by rw[q]) fun q=>by rw[q],fun q=>q.imp (fun q=>(Kd.mk.inj q).1) fun q=>(Kd.mk.inj q).1⟩|some y=>exact⟨nofun,fun q=>q.elim (fun q=>nomatch(Kd.mk.inj q).2) fun q=>nomatch(Kd.mk.inj q).2⟩
    refine G8 (fun L=>?_) fun L=>U (by rw[r,bS L];rfl);refine vT (fun u=>?_) fun u=>U (by rw[r,bS u,uy]);have:jE x=e:=by
     unfold jE;rw[af (by rw[r,aN L,aN u];rfl),C];rcases L with q|q;.have:=iv.1.mp (M.any.mp q);rw[this,q];rfl
     .have:=iv.2.mp (M.jA.mp q);rw[this,q];rfl
    rw[this]at Q;exact Q
   .have E:db x=false:=by
     have:pl.isEmpty=false:=by induction J:pl using eQ with|cons=>rfl|nil=>rw[J]at H;exact ae xx H
     unfold db;rw[Z.vV,this,Bool.and_false,Bool.false_and]
    apply o (h.row e2);refine eE h ?_;refine G8 (fun q=>?_) fun _=>U E;clear O g Z;rcases q with rfl|rfl;.exact gM (fM h.base e2 rfl) rfl
    .exact gM (fM h.base e2 rfl) rfl
  .exact U (by unfold db;rw[show x.pred.isNone=aj by cases h:x.pred;exact ae h J;rfl,uy])
end
section
variable{pl l dl:List (Nat×Bool)}
theorem Ro(h:Tb A (b+1) T σ)(X:KR c T K i)(J:aT V w K)(U:∀t T' Z,Tb A b T' Z->T<+:T'->Fr A.aQ σ Z->KR c T' (mN (K,o1)) t->k (.int t) Z):CW (n+5) 50 [.ref A.az,bc (i,o1)] σ k:=by
 refine Ei ?_;rcases o1 with _|_;.exact U i T σ (h.le (dh b)) (dg T) .rfl X
 exact FH h J X U
theorem Ha(J:(xs++ys).length<av):qB σ (.ab (xs++ys)) (.int xs.length) .none=D (.ab ys,σ):=by
 have l2:xs.length<=(xs++ys).length:=by rw[aU];exact b8 _ _
 have e:dT (xs++ys) (.int xs.length) .none=D ys:=by unfold dT;rw[af J,GD (dM l2 J),mj l2];show D (((xs++ys).take _).drop _)=_;rw[rX,KJ]
 show(match dT (xs++ys) _ _ with|some r=>_|none=>I)=_;rw[e]
theorem Rp(h:Tb A (b+1) T σ)(X:dl.length<=4)(U:mO T rest e)(J:∀m,rest=D m->Nm m)(H:rest=I->k (.int (-1)) σ)(Q:∀m,rest=D m->∀t T' Z,Tb A b T' Z->T<+:T'->Fr A.aQ σ Z->KR c T' (.mk m I) t->k (.int t) Z):CW (n+5) 52 [.ref A.bd,iM (dl.map bc++bv rest e) 0] σ k:=by
 refine Nl ?_;apply zA X;have e1:=Ha (σ:=σ) (b5 0xb5050204542015001 rfl X (kU (dl:=dl) (rest:=rest) (e:=e)));rw[aJ]at e1;apply p e1;rcases rest with _|m;.exact H rfl
 apply o h.az;refine⟨trivial,?_⟩;apply o h.az;refine Ei ?_;refine⟨trivial,?_⟩;refine FG (t:=e) (K:=.mk m I) (h.cp) (mY (V:=1) (n:=0) (J m rfl)) ((qO (c:=c)).mp U) (kJ (du aS) (show 1<av by decide)) (fun y=>du aS) fun t T' Z a1 O E C=>?_;exact Q m rfl t T' Z a1 O (Fr.new.trans E) C
def PK(c:Bool)(T:List aa)(o:Option Kd)(z:Int):Prop:=match o with|none=>z=-1|some K=>∃t:Nat,z=t/\KR c T K t
theorem zK(h:x.ps[j]?=D q):dK (bq x) x.rest j=D (mN q):=by unfold dK bq;rw[List.getElem?_map,h];rfl
theorem rj(h:x.ps.length<=j):dK (bq x) x.rest j=x.rest.map fun m=>.mk m none:=by unfold dK bq;rw[List.getElem?_map,List.getElem?_eq_none h];rfl
theorem Rq(h:Tb A (b+1) T σ)(X:Sv c T x s pl e rt pd [de c tt])(v:bo V w x)(E:x.sp<=j)(hz:z'=((j-x.sp:Nat):Int))(J:∀z T' Z,Tb A b T' Z->T<+:T'->Fr A.aQ σ Z->PK c T' (dK (bq x) x.rest j) z->k (.int z) Z):CW (n+7) 58 [.ref A.bd,.int tt,.int z'] σ k:=by
 subst hz;have C:=X.ks.len;have O:=X.mZ;have out:pl.length<=j->∀{T'},T<+:T'->PK c T' (dK (bq x) x.rest j) (match x.rest with|some _=>e|none=>-1):=fun q{T'}hp=>by
  rw[rj (pn 0xad820b5022ad000 rfl C q)];have U:=X.rest;rcases Q:x.rest with _|m;.rfl
  rw[Q]at U;exact⟨e,rfl,((qO (c:=c)).mp U).aq hp⟩
 refine No ?_;apply o h.az;apply o h.fW;rcases X.tail.row rfl with⟨f,r0,e1⟩|⟨f,e1⟩;.apply o (h.row e1);rw[f]at O;have:=out (by rw[O.symm];exact E) (dg T);obtain⟨m,Q⟩:=r5.mp r0;rw[Q]at this;exact J e T σ (h.le (dh b)) (dg T) .rfl (by rw[Q];exact this)
 .apply o (h.row e1);refine Nn ?_;apply zA X.d4;refine bD (fun q=>?_) fun q=>?_;.have q:j-x.sp<(pl.drop x.sp).length:=cw.mp q;obtain⟨r,U⟩:∃r,x.ps[j]?=D r:=⟨_,dL (by rw[X.ks.len,X.mZ.symm,nz];exact(Nat.sub_lt_iff_lt_add E).mp q)⟩;obtain⟨i,hi,hK⟩:=X.ks.at U;rw[zK U]at J;have hw:=v.2.1 r (jQ U);clear U;obtain⟨K,o1⟩:=r;apply o h.az;apply o (oz (show((pl.drop x.sp).map bc++bv x.rest e)[j-x.sp]?=D (bc (i,o1))by rw[ib (by rw[aJ];exact q),gm,Za,uw E,hi];rfl) (b5 0x115080b50502015001 rfl (kU (dl:=pl.drop x.sp) (rest:=x.rest) (e:=e)) (X.d4)));exact Ro h hK hw fun t T' Z a1 M L g=>J t T' Z a1 M L ⟨t,rfl,g⟩
  .have q:(pl.drop x.sp).length<=j-x.sp:=kt fun r=>q (cw.mpr r);rw[rj (by rw[X.ks.len,X.mZ.symm,nz];exact(Nat.le_sub_iff_add_le E).mp q)]at J;refine Rp (c:=c) h X.d4 X.rest v.1.rest (fun U=>?_) fun m Q t T' Z a1 M L g=>?_;.rw[U]at J;exact J (-1) T σ (h.le (dh b)) (dg T) .rfl rfl
   .rw[Q]at J;exact J t T' Z a1 M L ⟨t,rfl,g⟩
theorem zL(h:Tb A (b+2) T σ)(Z:Sv c T x s pl e rt pd tl)(L:bo V w x){z':Int}(hj:z'=(j:Nat))(U:∀z T' X,Tb A b T' X->T<+:T'->Fr A.aQ σ X->PK c T' (dK (bq x) x.rest j) z->k (.int z) X):CW (n+8) 59 [.ref A.bd,.int s,.int z'] σ k:=by
 subst hj;have E':=Z.ks.len;have E:=Z.l4;have E?:=Z.mZ;have hb:b<=b+2:=b8 b 2;have g:b+1<=b+2:=dh _;refine Np ?_;refine h.dw Z.row ?_;apply pV Z.tail E;intro d f1;have J:=h.fV f1;have H:=f1.nil (O:=A.aQ);rw[Z.aQ];refine bD (fun q=>?_) fun q=>?_
 .have q:j<x.sp:=cw.mp q;obtain⟨r,C⟩:∃r,x.ps[j]?=D r:=⟨_,dL (by rw[Z.ks.len];exact iW q Z.sp)⟩;obtain⟨i,hi,M⟩:=Z.ks.at C;rw[zK C]at U;have u:=L.2.1 r (jQ C);clear C;obtain⟨K,o1⟩:=r;have e1:=vN (c:=c) (j:=0) (show(pl.take x.sp)[j]?=D (i,o1)by rw[BN q];exact hi);have lt:(bg c 0 (pl.take x.sp)++tl).length<av:=by
   have:tl.length<=1:=by rcases Z.tail.cases with⟨_,_,rfl⟩|⟨v,rfl⟩;exact bQ 1;exact aE 1
   rw[aU,ej];exact b5 0xb50811408055a0001 rfl E this
  apply o (oz (show(bg c 0 (pl.take x.sp)++tl)[j]?=_ from(ib (by rw[ej,Z.aQ];exact q)).trans e1) lt);refine eE J ?_;rcases o1 with _|_;.exact U i T d (J.le hb) (dg T) H ⟨i,rfl,M⟩
  apply o J.az;exact FH (J.le g) u M fun t T' X a1 m f a=>U t T' X a1 m (H.trans f) ⟨t,rfl,a⟩
 .have q:x.sp<=j:=kt fun r=>q (cw.mpr r);have sub:((j:Int)-(x.sp:Nat))=((j-x.sp:Nat):Int):=(BP q).symm;by_cases ht:tl=[]
  .obtain⟨d0,r0,e0⟩:=Z.ri ht;apply tu J Z.tail E;.intro _;refine⟨trivial,?_⟩;apply o (kJ aS (by decide));refine⟨aS,?_⟩;apply o (kK aS (by decide));rw[rj (by rw[Z.ks.len,e0];exact q),r0]at U;exact U (-1) T _ (J.cp.cp.le hb) (dg T) (H.trans (Fr.new.trans .new)) rfl
   .intro v h';rw[ht]at h';cases h'
  .obtain⟨v,rfl⟩:=Z.pW ht;apply tu J Z.tail E;.intro h';cases h'
   intro Rr Rt;obtain rfl:v=Rr:=(sz (gX Rt).1).1;refine⟨trivial,?_⟩;apply Rq (b:=b+1) J Z L q sub;intro z T2 Q h2 p2 f2 hz;refine⟨trivial,?_⟩;apply o (kJ (xs:=[.int z]) aS (show 1<av by decide));refine⟨aS,?_⟩;have h3:Tb A (b+1) T2 (Q++[.list [.int z]]):=h2.cp;rcases hs:dK (bq x) x.rest j with _|K;.rw[hs]at hz U;cases show z=-1 from hz;refine⟨aS,?_⟩;apply o (kK aS (by decide));exact U (-1) T2 _ (h3.cp.le (dh b)) p2 (H.trans (f2.trans (Fr.new.trans .new))) rfl
   rw[hs]at hz U;obtain⟨t,rfl,M⟩:=hz;have u:=pz L hs;refine eE h3 ?_;refine⟨aS,?_⟩;apply o (kK (xs:=[.int t]) aS (show 1<av by decide));have h4:Tb A (b+1) T2 (Q++[.list [.int t]]++[.list [.int t]]):=h3.cp;apply o h4.az;exact FG (n:=n+4) (t:=t) h4 u M (kJ (du aS) (show 1<av by decide)) (fun y=>du aS) fun t' T' X a1 m f a=>U t' T' X a1 (p2.trans m) (H.trans (f2.trans (Fr.new.trans (Fr.new.trans f)))) ⟨t',rfl,a⟩
end
section
variable{K:Kd}
theorem Hb(h:Tb A b T σ)(X:PR T K.m l' q):(∃p:Nat,p∈l'/\(p:Int)=3)↔K.m&&&1024≠0:=by
 rw[s8 X.lt 10 (by decide),X.dX 10 (by decide)];constructor;.rintro⟨p,Z,e⟩;have:p=3:=dr e;clear e;subst this;exact⟨3,Z,(⟨0,by decide,bX h.base rfl⟩)⟩
 .rintro⟨p,Z,f,_,e⟩;have:=Tb.yH h.base h.nd (i:=3) e rfl;exact⟨p,Z,aI _ this⟩
theorem pX(h:Tb A (b+8) T σ)(Q:Sv c T x s pl e rt pd tl)(C:bo V w x)(O:∀T' Z,Tb A b T' Z->T<+:T'->Fr A.aQ σ Z->k (.int (b6 x)) Z):CW (n+10) 61 [.ref A.bd,.int s] σ k:=by
 have wn:nd pl=lM x:=Q.ks.nd;have u:lM x<=x.ps.length:=oY _ _;have w4:=C.1.len;refine Nr ?_;apply Re h Q (Q.mo C.1);intro bY v;have h1:=h.fV v;rw[wn];refine⟨lM x+1,yW (fun m lc Z=>∃T',A6 (lc=[D (.ref A.bd),D (.int s),D (.int m)]) (m<=lM x) (kM (bq x) m=b6 x) (Tb A (b+2*m) T' Z) (T<+:T') (Fr A.aQ σ Z)) ?_ ?_ ⟨T,rfl,aE _,rfl,h1.le (by exact pn 0x116102d51019405443a0000 rfl u w4),dg T,v.nil⟩⟩
 .rintro m lc Z K⟨T',rfl,M,L,U,J,E⟩hK;obtain⟨r,f⟩:∃r,x.ps[m]?=D r:=⟨_,dL (pn 0x2c5a0020ad820ad001 rfl u M)⟩;refine bt (show kG .gt ((m+1:Nat):Int) 0=Y from aN (l8.mpr (fg m))) ?_;apply o U.az;refine zL (b:=b+2*m) (by rw[Zb,<-eL]at U;exact U) (Q.aq J) C (j:=m) (pj m) fun z y g H i a hz=>?_;rw[zK f]at hz;obtain⟨t,rfl,d⟩:=hz;apply pD H d;intro l q zp hP hS;apply o (ot (l:=l) (z:=3));have hs:(bq x)[m]?=D (mN r):=by unfold bq;rw[gm,f];rfl
  have X:(if(mN r).m&&&1024≠0 then kM (bq x) m else m+1)=b6 x:=by rw[L.symm];show _=(match(bq x)[m]? with|some k=>_|none=>_);rw[hs]
  refine bE (fun q=>?_) fun q=>?_;.rw[af ((Hb H hP).mp q)]at X;exact hK _ _ ⟨y,by rw[pj];rfl,aC 745056601034752 rfl M,X,H,J.trans i,E.trans a⟩
  .rw[am fun r=>q ((Hb H hP).mpr r)]at X;rw[X.symm]at O;exact O y g (H.le (b8 _ _)) (J.trans i) (E.trans a)
 .rintro lc Z K⟨T',rfl,M,L,U,J,E⟩;rw[L.symm]at O;exact O T' Z U J E
end
section
theorem Pw.az(h:Iv A R W V b H m Q S)(X:Tb A b' T' Z)(O:b'<=b)(U:S.T<+:T')(J:Fr A.aQ S.σ Z):Pw A R W V b' H m Q (0:Nat) S ⟨T',S.N,S.es,S.Tr,S.tr,Z⟩:=⟨h.az O X U J,U,St.fq X J,[],[],(bO _).symm,(bO _).symm,fun _=>rfl,fun _ q=>ae q bK,fun _ _=>⟨fun _ q=>ae q bK,fun _ q=>nomatch q⟩⟩
theorem Pw.iw(h:Iv A R W V b U m J S)(X:Fr [] S.σ Z):Pw A R W V b U m J (0:Nat) S ⟨S.T,S.N,S.es,S.Tr,S.tr,Z⟩:=.az h (h.st.tb.fV X) (aE b) (dg _) X.nil
theorem Pw.z(h:Pw A R W V b' X m U (0:Nat) S Z){v:Nat}(h':Pw A R W V b X m U (v:Int) Z S'):Pw A R W V b X m U (v:Int) S S':=by have:=h.trans h';rw[KQ]at this;exact this
theorem Pw.neg{v u z:Int}(h:Pw A R W V b' J m H v S Z)(h':Pw A R W V b J m H u Z S')(hz:z<0):Pw A R W V b J m H z S S':=by
 refine cps fun P Q=>?_;obtain⟨O,E,a1,C,M,L,_⟩:=h'.out;obtain⟨X,U,e1,e2,e3,K,_⟩:=h.out;refine Q ?_;refine⟨h'.iv,h.pre.trans h'.pre,h.fq.trans h'.fq,X++O,U++E,by rw[a1,e1,dy],by rw[C,e2,dy],fun r=>by rw[e3 r]at e2⊢;rw[M (by rw[e2,r];rfl)];rfl,fun key g=>?_,fun r=>ae r (cY.mpr hz)⟩;rcases dI.mp g with r|r;.exact K.aq h'.pre (fun z hz=>by rw[a1];exact vI hz) key r
 .exact L key r
theorem Pw.zi(h:Pw A R W V b' X m U (0:Nat) S Z){v:Int}(h':Pw A R W V b X m U v Z S'):Pw A R W V b X m U v S S':=by
 by_cases q:0<=v;.have:=h.z (h'.toNat q);rw[lk q]at this;exact this
 .exact h.neg h' (cY.mp q)
theorem oA{fu v:Nat}(h:Iv A R W V (b+1) E m Z S)(C:cW (v:Int)=[fu])(M:∀J,Pw A R W V b E m Z (v:Nat) S J->k .none J.σ):dt WD (CW (n+2)) 40 R S.σ S.σ [.int fu] k:=by
 refine FN h.st h.lQ fun U H f=>?_;have Q:=h.b0;have O:(S.N++[fu]).drop Z=S.N.drop Z++[fu]:=xr Q;refine M ⟨S.T,S.N++[fu],S.es,S.Tr,S.tr,U⟩ ⟨⟨H.le (dh b),?_,?_,h.wl,h.nd,h.kn,?_,?_,h.dp⟩,dg _,f,[fu],[],rfl,(bO _).symm,fun _=>rfl,fun _ q=>ae q bK,fun _ _=>?_⟩;.show(S.N++[fu]).length+b<av;rw[aU,qg];exact aC 0x116a0a0021154b400001 rfl (h.lN)
 .exact(h.le (dh b)).lK
 .show j7 S.T V m ((S.N++[fu]).drop Z) S.Tr;rw[O];exact j7.aq H.tb.base (dg _) (fun x X=>mh _ X) h.tk
 .show Z<=(S.N++[fu]).length;rw[aU];exact aC 0xad0202901505000 rfl Q
 .rw[C];exact⟨fun _ X=>X,fun x X=>by show x∈(S.N++[fu]).drop Z;rw[O];exact jO _ X⟩
theorem m7(J:V≠3):ak V K1 K2=gK (fun x y=>gS V 3 x y aj) V K1 K2:=am J
theorem Hc(h:Tb A b T σ)(hK:KR c T K t)(hk:∀au,Fr [] σ au->k (.int (-1)) au):CW (n+2) 107 [.ref A.bd,.int t] σ k:=by
 refine NN ?_;apply o h.az;apply pD h hK;intro l q zp hP hS;have ll:=rd h.nd hP hS;apply o (hU (xs:=aZ l) (by rw[jB];exact ax 951133426241537 rfl ll));refine rh (fun d=>d !=.int 4&&d !=.int 5) id (fun lc=>∃v,lc=[D (.ref A.bd),D (.int t),I,I,I,v]) ⟨I,rfl⟩ ?_ ?_
 .rintro d hd lc⟨v,rfl⟩;obtain⟨p,_,rfl⟩:=gZ.mp hd;refine⟨_,rfl,⟨_,rfl⟩,fun kb hb=>?_,fun _ eb hv=>hv⟩;refine fO (fun e1=>?_) fun e1=>?_
  .show kb (!decide ((p:Int)=5)) σ;rw[fy.mpr fun q=>e1 (aa.int.inj q),KH]at hb;by_cases e2:(p:Int)=5;.rw[e2]at hb;rw[aN e2];exact hb
   .rw[fy.mpr fun q=>e2 (aa.int.inj q)]at hb;rw[bS e2];exact hb
  .rw[e1]at hb;exact hb
 .rw[Y2];have sJ:∀d∈(aZ l).filter (fun d=>d !=.int 4&&d !=.int 5),∃p∈l,d=.int (p:Nat):=fun d hd=>by obtain⟨p,hp,e⟩:=gZ.mp (Y5.mp hd).1;exact⟨p,hp,e.symm⟩
  have je:((aZ l).filter (fun d=>d !=.int 4&&d !=.int 5)).length<=27:=bj (oY _ _) (by rw[jB];exact ll);generalize(aZ l).filter (fun d=>d !=.int 4&&d !=.int 5)=fl at sJ je;have lt:fl.length<av:=ax 951133426241537 rfl je;apply p (dv aS lt);refine fO (fun _=>hk _ .new) fun e1=>?_;obtain⟨d,rfl⟩:=Y9.mp (dr e1);obtain⟨p,hp,rfl⟩:=sJ _ aW;have h2:Tb A b T (σ++[.list [.int p]]):=h.cp;apply o h2.az;apply o h2.fW;apply o ((hQ (d:=.int 0) aS).trans (gI (i:=0) (l:=[.int (p:Nat)]) rfl lt));have dw:E2 fun g r=>A3 (T[p]?=D (.ab (.int (g:Nat)::r))) (r.length<=7) ([aa.int 8,aa.int 9].contains (.int g)=aj):=by
   rcases hP.all p hp with⟨i,hi,f,_,e⟩|e;.obtain⟨r,e',hl⟩:=qM (f:=f) hi;exact⟨gA i,r,by rw[e,e'],ax 227667202048 rfl hl,(by decide+kernel:∀i,i<13->[aa.int 8,aa.int 9].contains (.int (gA i))=aj) i hi⟩
   .obtain⟨ps,rt,pd,fl,e⟩:=dC.dZ (T:=T) hS p e;exact⟨13,_,e,cm rfl,by decide⟩
  refine cps fun P hP=>?_;obtain⟨g,r,e,hr,hc⟩:=dw;refine hP ?_;apply o (h2.row e);apply o (di rfl hr);show br ([aa.int 8,aa.int 9].contains (.int (g:Nat))==aj) _ _;rw[hc];exact hk _ .new
end
section
noncomputable def gN(V:Nat):Sg->Sg->Int:=fun x y=>gS V 3 x y aj
theorem Ru(h:Iv A R W V b U m H S)(J:∀Z,St A R b S.T V U S.N S.es S.Tr S.Tr S.tr Z->Fq A R S.tr S.σ S.tr Z->k .none Z):dt WD (CW (n+2)) 41 R S.σ S.σ [.ab [.int S.N.length,.int S.Tr.length]] k:=by have X:=h.st;have l2:=h.pG;rw[<-bO S.N,<-bO S.Tr]at X;exact GB X (by rw[bO];exact(h.nd)) (by rw[bO];exact(h.lQ)) (by rw[bO];exact l2) J
theorem Pw.st(h:Iv A R W V b X m U S)(J:St A R b S.T V X S.N S.es S.Tr S.Tr S.tr Z)(f:Fq A R S.tr S.σ S.tr Z):Pw A R W V b X m U (0:Nat) S ⟨S.T,S.N,S.es,S.Tr,S.tr,Z⟩:=⟨⟨J,h.lN,h.lK,h.wl,h.nd,h.kn,h.tk,h.b0,h.dp⟩,dg _,f,[],[],(bO _).symm,(bO _).symm,fun _=>rfl,fun _ q=>ae q bK,fun _ _=>⟨fun _ q=>ae q bK,fun _ q=>nomatch q⟩⟩
theorem Rv(ask:dc A R V F L qa E 2)(h:Iv A R W V (b+(qa+E)) C m M S)(l2:L<=2)(K:aT V L K1)(g:aT V L K2)(Q:KR c S.T K1 s)(O:KR (!c) S.T K2 t)(j:4*(cL K1+cL K2)+2<m)(d:∀J,Pw A R W V b C m M (ak V K1 K2) S J->k (.bool (decide (0<=ak V K1 K2))) J.σ):CW (n+F+3) 109 [.ref R,.int s,.int t] S.σ k:=by
 refine NO ?_;apply o h.st.cR;rw[show n+F+2=n+F+1+1 from rfl];refine Hc (n:=n+F) h.st.tb Q fun r u=>?_;have H:=Pw.iw h u;apply o H.iv.st.cR;refine Hc (n:=n+F) H.iv.st.tb O fun U w=>?_;have X:=H.z (Pw.iw H.iv w);refine X.iv.st.ol ?_;apply pD X.iv.st.tb Q;intro l q _ _ _;refine X.iv.st.ol ?_;apply pD X.iv.st.tb O;intro l' f _ _ _;have Z:dt WD (CW (n+F+2)) 36 R U U [.int s,.int t] k:=ov ask X.iv l2 K g Q O j fun J v=>d J (X.zi v.toPw);apply o (ot (l:=l) (z:=4));apply o (ot (l:=l') (z:=4));refine bI (fun _=>?_) fun q=>?_;.apply o (ot (l:=l) (z:=5));apply o (ot (l:=l') (z:=5));exact bI (fun _=>Z) fun _=>Z
 .rw[q];exact Z
theorem Hd(Z:V≠3)(h:0<=ak V K2 K1):dP (gN V) V K2 K1 f=ak V K2 K1:=by unfold dP;rw[<-show ak V K2 K1=gK (gN V) V K2 K1 from m7 Z,if_neg fun q=>absurd h (Int.not_le.mpr q.1)]
theorem zM(Z:V≠3)(h:¬0<=ak V K2 K1)(X:¬(f=Y/\V≠4)):dP (gN V) V K2 K1 f=ak V K2 K1:=by unfold dP;rw[<-show ak V K2 K1=gK (gN V) V K2 K1 from m7 Z,if_neg fun q=>X q.2]
theorem He(Z:V≠3)(h:¬0<=ak V K2 K1)(X:f=Y/\V≠4):dP (gN V) V K2 K1 f=(if 0<=ak V K1 K2 then(((ak V K1 K2).toNat|||2:Nat):Int)else ak V K1 K2):=by unfold dP;rw[<-show ak V K2 K1=gK (gN V) V K2 K1 from m7 Z,<-show ak V K1 K2=gK (gN V) V K1 K2 from m7 Z,if_pos ⟨Int.not_le.mp h,X⟩]
theorem Rw(hm:V∈[1,2,4])(ask:dc A R V F L qa O 2)(h:Iv A R W V (b+1+(qa+O)+(qa+O)) E m C S)(l2:L<=2)(M:aT V L K1)(K:aT V L K2)(l:KR c S.T K1 s)(i:KR (!c) S.T K2 t)(a:4*(cL K1+cL K2)+2<m)(H:∀X,Pw A R W V b E m C (dP (gN V) V K2 K1 ay) S X->k (.bool (decide (0<=dP (gN V) V K2 K1 ay))) X.σ):CW (n+F+4) 110 [.ref R,.int s,.int t,.bool ay] S.σ k:=by
 have g:V≠3:=by clear ask h M K H;rintro rfl;revert hm;decide
 have bV:∀{X},0<=dP (gN V) V K2 K1 ay->Pw A R W V b E m C (dP (gN V) V K2 K1 ay) S X->k (.bool Y) X.σ:=fun{X}e j=>by have:=H X j;rw[aN e]at this;exact this
 have no:∀{X},¬0<=dP (gN V) V K2 K1 ay->Pw A R W V b E m C (0:Nat) S X->k (.bool aj) X.σ:=fun{X}e j=>by have:=H X (j.fail (cY.mp e));rw[bS e]at this;exact this
 refine EC ?_;apply vn h.st h.lQ h.pG;rw[show n+F+3=n+1+F+2 by exact bB 0xd52d00001eb400002 rfl];refine ov (c:=!c) ask h l2 K M i (by rw[KT];exact l) (da 0xb1a9501060086c6ad00418001 rfl a) fun S1 Q=>?_;have x:b<=b+1+(qa+O):=fz 797151969955840 rfl;refine bD (fun U=>?_) fun U=>?_;.have e:=Hd g (f:=ay) U;exact bV (by rw[e];exact U) (by rw[e];exact Q.toPw.le x)
 .obtain⟨e1,e2⟩:=Q.cl (cY.mp U);have d:=Q.zero (cY.mp U);clear Q;obtain⟨T1,N1,F',F?,G',bY⟩:=S1;cases e1;cases e2;refine Ru (n:=n+1+F) d.iv fun cz w f2=>?_;have J:=d.z (Pw.st d.iv w f2);have fail:¬(ay=Y/\V≠4)->k (.bool aj) cz:=fun q=>no (by rw[zM g U q];exact U) (J.le x);rcases ay with _|_;.exact fail fun q=>(by have h:=q.1;contradiction)
  apply o J.iv.st.eZ;refine bN (bM 4 rfl (fun q=>fail fun r=>r.2 q) fun q=>?_);have e:=He g U ⟨rfl,q⟩;rw[show n+1+F+2=n+F+3 by exact bB 0xf5a0006a968000002 rfl];refine Rv ask J.iv l2 M K (l.aq J.pre) (i.aq J.pre) a fun S3 w3=>?_;have y:=J.zi w3;refine bD (fun Z=>?_) fun Z=>?_;.rw[af Z]at e;refine oA (v:=2) (n:=n+F+1) y.iv rfl fun S4 w4=>?_;exact bV (by rw[e];exact hZ _) (by rw[e];exact((y.toNat Z).trans w4))
  .rw[am Z]at e;have:=H S3 ((y.fail (u:=dP (gN V) V K2 K1 Y) (by rw[e];exact cY.mp Z)).le (dh b));rw[bS (by rw[e];exact Z)]at this;exact this
end
section
theorem Rx(ask:dc A R V F L qa v 2)(h:Iv A R W V (b+(qa+v)+8+8) Q m O S)(l2:L<=2)(f:SR c S.T x s)(l:SR (!c) S.T y t)(M:bo V w x)(K:bo V w y)(i:aT V L K1)(a:aT V L K2)(r1:KR c S.T K1 i1)(r2:KR (!c) S.T K2 i2)(hd:4*(cL K1+cL K2)+2<m)(J:∀X,¬(V=4/\b6 x<=j/\j<b6 y/\0<=ak V K1 K2)->Pw A R W V b Q m O (0:Nat) S X->k (.bool aj) X.σ)(hy:∀X,(V=4/\b6 x<=j/\j<b6 y/\0<=ak V K1 K2)->Pw A R W V b Q m O (-1) S X->k (.bool Y) X.σ):CW (n+F+12) 111 [.ref R,.int s,.int t,.int j,.int i1,.int i2] S.σ k:=by
 have z0:Pw A R W V b Q m O (0:Nat) S S:=.refl (h.le (fz 0x632d50500005000 rfl)) fun _ _ _ q=>nomatch q;obtain⟨pl,e,rt,pd,tl,E⟩:=f.sv M.1;obtain⟨va,e',og,oh,iQ,C⟩:=l.sv K.1;refine NP ?_;apply o h.st.eZ;refine bN (bM 4 rfl (fun m4=>?_) fun q=>J S (fun r=>q r.1) z0);apply o h.st.cR;rw[show n+F+11=n+F+1+10 by exact bB 0x1c5ad00003eb400002 rfl];refine pX h.st.tb E M fun T1 bY t1 g f1=>?_;have H:=Pw.az h t1 (b8 _ _) g f1;refine bD (fun q=>J _ (fun r=>ae q (by have:=r.2.1;exact aC 709777608717 rfl r.2.1)) (H.le (fz 447123946491904 rfl))) fun q1=>?_;apply o H.iv.st.cR;refine pX t1 (C.aq g) K fun T2 cz t2 p2 f2=>?_;have Z:=H.z (Pw.az H.iv t2 (b8 _ _) p2 f2);refine bD (fun q=>J _ (fun r=>ae q (by have:=r.2.2.1;exact aC 709778657292 rfl r.2.2.1)) (Z.le (fz 778483814400 rfl))) fun q2=>?_;rw[show n+F+1+10=n+9+F+2 by exact bB 0x355b40000e2d68000002 rfl];refine ov ask Z.iv l2 i a (r1.aq Z.pre) (r2.aq Z.pre) hd fun d u=>?_;by_cases U:0<=ak V K1 K2;.rw[aN U];exact hy d ⟨m4,aC 709791240192 rfl q1,aC 709790191617 rfl q2,U⟩ ((Z.zi u.toPw).any (ax 296405356550 rfl m4))
 .rw[bS U];exact J d (fun r=>U r.2.2.2) (Z.trans (u.zero (cY.mp U)))
theorem Ry(h:Iv A R W V (b+1+8) dp m b0 S)(x1:SR c S.T x s)(x2:SR c' S.T y t)(j:bo V w x)(wy:bo V w y)(U:∀K,py V x y=I->Pw A R W V b dp m b0 (0:Nat) S K->k (.bool aj) K.σ)(Z:∀K v,py V x y=D v->Pw A R W V b dp m b0 (v:Nat) S K->k (.bool Y) K.σ):CW (n+11) 100 [.ref R,.int s,.int t] S.σ k:=by
 refine cps fun P hP=>?_;obtain⟨pl,e,rt,pd,tl,J⟩:=x1.sv j.1;obtain⟨u,e',og,oh,iQ,M⟩:=x2.sv wy.1;refine hP ?_;have e2:=M.ks.len;have e1:=J.ks.len;have H:b<=b+1:=dh b;refine Ew ?_;apply o h.st.cR;refine zE (n:=n+7) h.st.tb M fun Rz f0=>?_;have O:=Pw.iw h f0;unfold py at U Z;rcases hr:y.rest with _|m'
 .rw[hr]at U Z;apply o O.iv.st.cR;refine pX O.iv.st.tb J j fun T1 f t1 g l=>?_;have E:=O.z (Pw.az O.iv t1 (b8 _ _) g l);show br (kG .gt (b6 x) (u.length:Nat)) _ _;rw[e2.symm];refine bD (fun q=>U _ (af (cw.mp q)) (E.le H)) fun q=>?_;dsimp only at U Z;rw[am (fun r=>q (cw.mpr r))]at U Z;apply o E.iv.st.cR;refine zE (n:=n+7) t1 (J.aq g) fun Q i=>?_;have X:=E.z (Pw.iw E.iv i);have C:(x.rest.isSome=Y\/x.ps.length>y.ps.length)->br (decide ((V:Int)=4)) (k (.bool aj) Q) (dt WD (CW (n+10)) 40 R Q Q [.int 11] fun d σ=>br (iJ d) (k (.bool Y) σ) False):=fun r=>by
   rw[af r]at U Z;refine bM 4 rfl (fun m4=>?_) fun m4=>?_;.rw[af m4]at U;exact U _ rfl (X.le H)
   .rw[am m4]at Z;exact oA (fu:=11) (v:=4) (n:=n+8) X.iv rfl fun a w3=>Z a 4 rfl (X.z w3)
  rcases hx:x.rest with _|mx
  .show br (kG .gt (pl.length:Nat) (y.ps.length:Nat)) _ _;refine bD (fun r=>?_) fun r=>?_;.apply o X.iv.st.eZ;exact C (.inr (by rw[e1];exact cw.mp r))
   .rw[am fun L=>L.elim (fun L=>by rw[hx]at L;cases L) fun L=>r (cw.mpr (e1▸L))]at Z;exact Z _ 0 rfl (X.le H)
  apply o X.iv.st.eZ;exact C (.inl (by rw[hx];rfl))
 rw[hr]at U Z;apply o O.iv.st.cR;refine pX O.iv.st.tb J j fun T1 f t1 g l=>?_;have E:=O.z (Pw.az O.iv t1 (b8 _ _) g l);apply o E.iv.st.cR;refine Rg (n:=n+7) t1 (M.aq g) fun Q i=>?_;have X:=E.z (Pw.iw E.iv i);rw[e2.symm];refine bD (fun q=>?_) fun q=>?_;.refine oA (v:=4) (n:=n+8) X.iv rfl fun a w3=>?_;exact Z a 4 (af (cw.mp q)) (X.z w3)
 .exact Z _ 0 (am fun r=>q (cw.mpr r)) (X.le H)
end
noncomputable def rk(x y:Sg):Nat:=match y.rest with|some 0=>if b6 x>0 then 4 else 0|some _=>1|none=>0
noncomputable def oB(V:Nat)(x y:Sg):Int:=if y.res.m=1024/\y.res.s.isNone=Y then 0 else match y.pred with|some q=>mX V x.pred (D q)|none=>ak V x.res y.res
section
variable{K K1 K2:Kd}
theorem Hf:K.m=1024/\K.s.isNone=Y↔K=.mk 1024 none:=by induction K using Kd.casesOn with|mk m s=>exact⟨fun h=>by obtain⟨rfl,h⟩:m=1024/\s.isNone=true:=h;rw[nI.mp h],fun h=>by cases h;exact⟨rfl,rfl⟩⟩
theorem Sv.top(U:Sv c T y t pl e rt Q tl)(Z:db y=Y):E2 fun X m=>A4 (tl=[de c X]) (pl.take y.sp=[]) (y.rest=D m) (T[X]?=D (lL e 0)):=by
 unfold db at Z;rw[gG,gG,gG]at Z;have p0:pl=[]:=by have:=U.vV;rw[Z.1.2]at this;exact nK.mp this.symm
 subst p0;rcases J:y.rest with _|m;.have:=Z.1.1.1;rw[J]at this;cases this
 obtain⟨X,rfl⟩:=U.G2 (by rw[J];nofun);rcases U.tail.row rfl with⟨_,_,e1⟩|⟨H,_⟩;.exact⟨X,m,rfl,xy,rfl,e1⟩
 .exact ae xx H
theorem RA(h:Iv A R W V (b+1+8) f m l S)(x1:SR c S.T x s)(x2:SR c' S.T y t)(M:bo V w x)(i:bo V w y)(a:¬(db y=Y/\¬(V=4/\db x=Y))->k (.bool aj) S.σ)(Q:∀S',(db y=Y/\¬(V=4/\db x=Y))->Pw A R W V b f m l (rk x y:Nat) S S'->k (.bool Y) S'.σ):CW (n+11) 116 [.ref R,.int s,.int t] S.σ k:=by
 refine cps fun P L=>?_;obtain⟨pl,e,rt,pd,tl,H⟩:=x1.sv M.1;obtain⟨va,e',og,oh,iQ,X⟩:=x2.sv i.1;refine L ?_;have z0:Pw A R W V b f m l (0:Nat) S S:=.refl (h.le (aB 418356678656 rfl)) fun _ _ _ q=>nomatch q;have Z:=h.st;refine yi ?_;apply o Z.cR;refine zJ (n:=n+8) Z.tb X i ?_;by_cases U:db y=Y
 .have te:jE y=0\/jE y=2:=by
   unfold jE;rw[if_pos U];split;.exact .inr rfl
   .exact .inl rfl
  refine cps fun P L=>?_;obtain⟨tt,m',rfl,ho,O,e1⟩:=X.top U;refine L ?_;have ev:jE y=if m'=0 then 2 else 0:=by unfold jE;rw[if_pos U,O];clear O;cases m'<;>rfl
  refine bD (fun q=>ae q (by rw[ev];split<;>decide)) fun _=>?_;apply o Z.eZ;refine bM 4 rfl (fun m4=>?_) fun m4=>?_
  .apply o Z.cR;refine zJ (n:=n+8) Z.tb H M ?_;show k (.bool (decide (jE x<0))) S.σ;by_cases E:db x=Y;.rw[bS (by unfold jE;rw[af E];split<;>decide)];exact a fun q=>q.2 ⟨m4,E⟩
   .rw[aN (show jE x<0 by rw[vU (jJ.mpr E)];decide)];exact Q S ⟨U,fun q=>E q.2⟩ (z0.any (ax 296405356550 rfl m4))
  .have g:db y=Y/\¬(V=4/\db x=Y):=⟨U,fun q=>m4 q.1⟩;apply o Z.cR;refine Z.eD X.row ?_;rw[ho];refine eE Z.tb ?_;rw[ev];by_cases C:m'=0
   .rw[af C];have J:rk x y=if b6 x>0 then 4 else 0:=by unfold rk;rw[O,C];rfl
    refine bN (fG 2 rfl (fun q=>?_) fun _=>?_);.clear X;subst q;exact gM (fM Z.tb.base e1 rfl) rfl
    apply o Z.cR;refine pX Z.tb H M fun T1 bY t1 p1 f1=>?_;have j:=Pw.az h t1 (b8 _ _) p1 f1;refine bD (fun q=>?_) fun q=>?_;.rw[af (cw.mp q)]at J;exact oA (fu:=11) (v:=4) (n:=n+8) j.iv rfl fun d u=>Q d g (by rw[J];exact j.z u)
    .rw[am fun r=>q (cw.mpr r)]at J;exact Q _ g (by rw[J];exact j.le (dh b))
   .rw[am C];have J:rk x y=1:=by unfold rk;rw[O];induction m' using nM with|zero=>exact ae rfl C|succ _=>rfl
    exact oA (fu:=1) (v:=1) (n:=n+8) (h.le (b':=b+1) (aB 428397223870464 rfl)) rfl fun d u=>Q d g (by rw[J];exact u)
 .rw[vU (jJ.mpr U)];exact a fun q=>U q.1
theorem RB(ask:dc A R V F L qa d 2)(h:Iv A R W V (b+(qa+d)) u m w S)(l2:L<=2)(v:SR c S.T x s)(f:SR (!c) S.T y t)(E:bo V L x)(H:bo V L y)(M:4*(jD x+jD y)+2<m)(U:∀Q,Pw A R W V b u m w (oB V x y) S Q->k (.bool (decide (0<=oB V x y))) Q.σ):CW (n+F+4) 114 [.ref R,.int s,.int t] S.σ k:=by
 refine cps fun P l=>?_;obtain⟨pl,e,rt,pd,tl,X⟩:=v.sv E.1;obtain⟨va,e',og,oh,iQ,Z⟩:=f.sv H.1;refine l ?_;have J:=h.st;have g:=zI J.tb Z.res H.2.2;refine EE ?_;refine J.eD X.row ?_;refine J.eD Z.row ?_;apply o J.cR;refine eE J.tb ?_;refine fG 3 rfl (fun q=>?_) fun q=>?_;.have e:oB V x y=0:=af (Hf.mpr (g.G6.mp q));have:=U S (by rw[e];exact .refl (h.le (b8 _ _)) fun _ _ _ q=>nomatch q);rw[e]at this;exact this
 .have e:oB V x y=match y.pred with|some q=>mX V x.pred (D q)|none=>ak V x.res y.res:=am fun r=>q (g.G6.mpr (Hf.mp r));rcases G9 Z.pred with⟨C,rfl⟩|⟨C,a,z,i,rfl⟩;.rw[C]at e;rw[e]at U;rw[show n+F+3=n+1+F+2 by exact bB 0xd52d00001eb400002 rfl];exact ov ask h l2 E.2.2 H.2.2 X.res Z.res (mK 0xc5480bd080b1b1701060086c6ad00418001 rfl M (tm (x:=x)) (tm (x:=y))) fun Q O=>U Q O.toPw
  .obtain⟨q,O⟩:=r5.mp C;rw[O]at e;rw[e]at U;have j:=Z.pred;have o2:=H.1.pr;rw[O]at j o2;exact GX (n:=n) ask h l2 (da 0x286b540418021a1801 rfl M) X.pred j E.1.pr o2 nofun U
end
section
theorem RC:∀{w:Nat},kM l w<=w:=by intro w;induction w with|zero=>exact aE 0|succ w Z=>
  show(match l[w]? with|some k=>if k.m&&&1024≠0 then kM l w else w+1|none=>w+1)<=w+1;split
  .split;.exact lj Z
   .exact aE _
  .exact aE _
theorem RD:b6 y<=y.ps.length:=bj RC (oY _ _)
noncomputable def vW(g:Sg->Sg->Int)(V:Nat)(x y:Sg)(f:Bool):Option Nat:=match x.rest with|some r=>(match y.rest with|some q=>if dP g V (.mk q I) (.mk r I) f<0 then I else D (dP g V (.mk q I) (.mk r I) f).toNat|none=>D 0)|none=>D 0
theorem Hg(X:x.ps.length<=i)(Z:y.ps.length<=i):eW g V x y f i=vW g V x y f:=by
 unfold eW vW;rw[rj X,rj Z];rcases x.rest with _|r;.rfl
 induction y.rest using cN with|none=>rfl|some q=>show(if _ then I else if V=4/\b6 x<=i/\i<b6 y/\_ then I else _)=_;rw[am (c:=V=4/\b6 x<=i/\i<b6 y/\_) fun q=>ae q.2.2.1 (g9.mpr (bj RD Z))]
theorem RE:∀{n i:Nat},(∀j,i<=j->∃v,eW g V x y f j=D v/\C|||v=C)->iO g V x y f n i C=D C:=by intro n;induction n with|zero=>intro i _;exact rfl|succ n Z=>intro i h;obtain⟨v,X,U⟩:=h i (aE i);show(eW g V x y f i).bind _=_;rw[X,qh,U];exact Z fun j J=>h j (aC 745056601034752 rfl J)
theorem Hh(h:j<6):iO g V x y f (6-j) j C=(eW g V x y f j).bind fun v=>iO g V x y f (6-(j+1)) (j+1) (C|||v):=by rw[mJ h];rfl
end
section
theorem Hi(h:x.ps.length=Z):x.ps.length<=eH x Z/\eH x Z<=Z+1:=by
 unfold eH;split;.exact⟨gF h,dh _⟩
 .exact⟨lj (gF h),aE _⟩
theorem Hj(h:dK (bq x) x.rest i=D K):cL K<=jD x:=by
 unfold dK at h;rcases Z:(bq x)[i]? with _|H
 .rw[Z]at h;rcases X:x.rest with _|m;.rw[X]at h;cases h
  rw[X]at h;cases h;exact bQ _
 rw[Z]at h;cases h;obtain⟨p,U,rfl⟩:=gZ.mp (jQ Z);have:=zt U;clear U Z;obtain⟨⟨m,J⟩,o1⟩:=p;rcases o1 with _|_;.exact this
 show FS (if c4 (m|||512)&&&6144≠0 then I else J)<=_;split;.exact bQ _
 .exact this
theorem RF(hm:V∈[1,2,4])(ask:dc A R V F L qa Q 2)(hP:P<=4)(h:Iv A R W V (b+(P+1)*(3*(qa+Q)+21)) dp m b0 S)(l2:L<=2)(x1:SR c S.T x s)(x2:SR (!c) S.T y t)(wx:bo V L x)(wy:bo V L y)(p1:x.ps.length<=P)(u:y.ps.length<=P)(hd:4*(jD x+jD y)+2<m)(hy:∀S' a,iO (gN V) V x y ay 6 0 c0=D (c0|||a)->Pw A R W V b dp m b0 (a:Nat) S S'->k (.bool Y) S'.σ)(hn:∀S',iO (gN V) V x y ay 6 0 c0=I->Pw A R W V b dp m b0 (-1) S S'->k (.bool aj) S'.σ):CW (n+F+13) 112 [.ref R,.int s,.int t,.bool ay] S.σ k:=by
 obtain⟨pl,e,rt,pd,tl,X⟩:=x1.sv wx.1;obtain⟨Z,e',og,oh,iQ,U⟩:=x2.sv wy.1;have st:=h.st;refine ED ?_;apply o st.cR;refine zF (n:=n+F+8) st.tb X fun bY f1=>?_;have z1:=Pw.iw h f1;refine zF (n:=n+F+8) z1.iv.st.tb U fun cz f2=>?_;have z2:=z1.z (Pw.iw z1.iv f2);have b1:=Hi (x:=x) X.ks.len;have b2:=Hi (x:=y) U.ks.len;have e1:=X.ks.len;have e2:=U.ks.len;obtain⟨ct,E,Hk,Hl,C⟩:∃ct:Nat,A4 ((if((eH y Z.length:Nat):Int)>(eH x pl.length:Nat)then((eH y Z.length:Nat):Int)else(eH x pl.length:Nat))=ct) (eH x pl.length<=ct) (eH y Z.length<=ct) (ct<=P+1):=by
  by_cases q:((eH y Z.length:Nat):Int)>(eH x pl.length:Nat);.exact⟨_,af q,aC 743073042432 rfl q,aE _,uZ 0xbd8322dc14082b6080b505000 rfl u b2.2 e2⟩
  .exact⟨_,am q,aE _,aC 709791240192 rfl q,uZ 0xbd8322dc14082b6080b505000 rfl p1 b1.2 e1⟩
 refine zH (n:=n+F+9) z2.iv.st.tb X fun eh f3=>?_;have z3:=z2.z (Pw.iw z2.iv f3);refine zH (n:=n+F+9) z3.iv.st.tb U fun jc f4=>?_;have z4:=z3.z (Pw.iw z3.iv f4);have RG:ct<av:=b5 0xb5050204542015001 rfl hP C;have E:(if(((eH x pl.length:Nat):Int),((eH y Z.length:Nat):Int)).snd>(((eH x pl.length:Nat):Int),((eH y Z.length:Nat):Int)).fst then(((eH x pl.length:Nat):Int),((eH y Z.length:Nat):Int)).snd else(((eH x pl.length:Nat):Int),((eH y Z.length:Nat):Int)).fst)=ct:=E;refine⟨by rw[E,jw RG,aN (by exact b5 0x16a0a0408a841e848040d009 rfl hP C)];rfl,?_⟩;rw[E,ic];have RH:b+ct*(3*(qa+Q)+21)<=b+(P+1)*(3*(qa+Q)+21):=eP (uk _ C) b;have z4:=z4.le RH;refine lU (fun j lc f=>E5 fun v6 v7 v8 S1 a=>A6 (lc=[D (.ref R),D (.int s),D (.int t),D (.bool ay),D (.ref A.bd),D (.int ct),v6,v7,v8]) (S1.σ=f) (j<=ct) (Pw A R W V (b+(ct-j)*(3*(qa+Q)+21)) dp m b0 (a:Nat) S S1) (iO (gN V) V x y ay (6-j) j (c0|||a)=iO (gN V) V x y ay 6 0 c0) (∀i,j=i+1->∃v,eW (gN V) V x y ay i=D v/\(c0|||a)|||v=c0|||a)) ?_ ?_ ⟨I,I,I,_,0,rfl,rfl,bQ _,z4,by rw[mq],fun i q=>nomatch q⟩
 .rintro lc f⟨v6,v7,v8,S1,a,rfl,rfl,_,J,d,hl⟩;rw[jN,rR,K4]at J;refine hy S1 a (d.symm.trans (RE fun j hj=>?_)) J;rw[Hg (by exact uZ 0xadc20bd820b5020ad000 rfl b1.1 Hk hj) (by exact uZ 0xadc20bd820b5020ad000 rfl b2.1 Hl hj)];by_cases hx:x.rest=I;.exact⟨0,by unfold vW;rw[hx],mq _⟩
  by_cases hy:y.rest=I;.refine⟨0,?_,mq _⟩;unfold vW;rw[hy];cases x.rest<;>rfl
  have q1:eH x pl.length=pl.length+1:=by unfold eH;cases h:x.rest;exact ae h hx;rfl
  have q2:eH y Z.length=Z.length+1:=by unfold eH;cases h:y.rest;exact ae h hy;rfl
  have p1:pl.length+1<=ct:=q1▸Hk;have u:Z.length+1<=ct:=q2▸Hl;obtain⟨v,h1,h2⟩:=hl (ct-1) (rT (bj (KI 1 _) p1)).symm;rw[Hg (ut (e1▸p1)) (ut (e2▸u))]at h1;exact⟨v,h1,h2⟩
 .rintro j lc f K hj⟨v6,v7,v8,S1,a,rfl,rfl,G?,J,d,hl⟩hK;have n3:V≠3:=by clear ask h wx wy hy hn st z1 z2 z3 z4 J d hl hK;rintro rfl;revert hm;decide
  have j6:j<6:=fk 0x2d4084b5058204542055001 rfl hP C hj;rw[Hh j6]at d;rw[mJ hj,oT,rS]at J;generalize hB:b+(ct-(j+1))*(3*(qa+Q)+21)=B;have RI:b<=B:=by rw[hB.symm];exact b8 _ _
  have J:=J.le (b':=B+3*(qa+Q)+19+2) (by rw[hB.symm];exact yp 0x2a10dec018c150500698437b0063ad00000000 rfl);refine zL (j:=j) (n:=n+F+4) J.iv.st.tb (X.aq J.pre) wx rfl fun zx T1 H' t1 p1 f1 M=>?_;have l:=J.trans (Pw.az J.iv t1 (b8 _ _) p1 f1);rw[mq]at l;have l:=l.le (b':=B+3*(qa+Q)+17+2) (by exact fz 0x2610daa018e8001a210daa018e8000000 rfl);refine zL (j:=j) (n:=n+F+4) l.iv.st.tb (U.aq l.pre) wy rfl fun zy T2 RJ t2 u f2 g=>?_;have y2:=l.trans (Pw.az l.iv t2 (b8 _ _) u f2);rw[mq]at y2;have H:∀{O:Rs}{v:Nat}{v7 v8},eW (gN V) V x y ay j=D v->Pw A R W V B dp m b0 (a|||v:Nat) S O->K [D (.ref R),D (.int s),D (.int t),D (.bool ay),D (.ref A.bd),D (.int ct),D (.int j),v7,v8] O.σ:=fun{O v v7 v8}e w=>by rw[e,qh,K5]at d;refine hK _ _ ⟨_,_,_,O,a|||v,rfl,rfl,hj,by rw[hB];exact w,d,fun i hi=>?_⟩;obtain rfl:j=i:=Zc hi;exact⟨v,e,by rw[K5,K5,KS]⟩
  have fail:∀{O:Rs},eW (gN V) V x y ay j=I->Pw A R W V B dp m b0 (-1) S O->k (.bool aj) O.σ:=fun{O}e w=>by rw[e]at d;exact hn O d.symm (w.le RI)
  have skip:(dK (bq x) x.rest j=I\/dK (bq y) y.rest j=I)->eW (gN V) V x y ay j=D 0:=fun q=>by
   unfold eW;rcases q with q|q;.rw[q]
   .rw[q];cases dK (bq x) x.rest j<;>rfl
  have Hm:Pw A R W V B dp m b0 (a|||0:Nat) S ⟨T2,S1.N,S1.es,S1.Tr,S1.tr,RJ⟩:=by rw[mq];exact y2.le (fz 0x2210daa018e8005000 rfl)
  rcases sx:dK (bq x) x.rest j with _|K1;.rw[sx]at M;cases show zx=-1 from M;exact H (skip (.inl sx)) Hm
  rw[sx]at M;obtain⟨i1,rfl,r1⟩:=M;rcases sy:dK (bq y) y.rest j with _|K2;.rw[sy]at g;cases show zy=-1 from g;exact H (skip (.inr sy)) Hm
  rw[sy]at g;obtain⟨i2,rfl,r2⟩:=g;have w1:=pz wx sx;have w2:=pz wy sy;have Hn:4*(cL K1+cL K2)+2<m:=by have q1:=Hj sx;have q2:=Hj sy;exact mK 0xc5480bd080b1b1701060086c6ad00418001 rfl hd q1 q2
  have r:eW (gN V) V x y ay j=if dP (gN V) V K2 K1 ay<0 then I else if V=4/\b6 x<=j/\j<b6 y/\0<=gK (gN V) V K1 K2 then I else D (dP (gN V) V K2 K1 ay).toNat:=by unfold eW;rw[sx,sy]
  rw[show gK (gN V) V K1 K2=ak V K1 K2 from(m7 n3).symm]at r;have y2:=y2.le (b':=B+(qa+Q)+8+8+1+(qa+Q)+(qa+Q)) (fz 0x88436a8063a0016a82d50158cb54140000000000 rfl);rw[show n+F+12=n+8+F+4 by exact bB 0x11565000042b400002 rfl];refine Rw hm ask y2.iv l2 w1 w2 (r1.aq u) r2 Hn fun O h3=>?_;by_cases hv:0<=dP (gN V) V K2 K1 ay
  .rw[aN hv];rw[am (ig.mpr hv)]at r;have y3:=y2.trans (h3.toNat hv);have RK:n+8+F+4=n+F+12:=bB 0x215a0008ab28000002 rfl;rw[RK];refine Rx ask y3.iv l2 (x1.aq y3.pre) (x2.aq y3.pre) wx wy w1 w2 ((r1.aq u).aq h3.pre) (r2.aq h3.pre) Hn (fun S4 hc h4=>?_) (fun S4 hc h4=>?_);.rw[am hc]at r;have y4:=y3.trans h4;rw[mq]at y4;exact H r y4
   .rw[af hc]at r;exact fail r (y3.neg h4 (by decide))
  .rw[bS hv];rw[af (cY.mp hv)]at r;exact fail r ((y2.neg h3 (by decide)).le (fz 0x80436a828005000 rfl))
end
theorem RL:∀a:Nat,a<8->∀e:Nat,e<8->(!decide (km (qd (a:Int) (e:Int)) 1=0))=(decide (a&&&1≠0)||decide (e&&&1≠0)):=by decide+kernel
section
theorem Ho(X:V≠3):jy (gN V) V x y=oB V x y:=by
 unfold jy oB;rw[show gK (gN V) V x.res y.res=ak V x.res y.res from(m7 X).symm];split;.rfl
 .rcases y.pred with _|q;.rfl
  induction x.pred using cN with|none=>rfl|some p=>
  obtain⟨U,Z,J⟩:=q;obtain⟨p0,H,Q⟩:=p;show(if p0≠U\/Q≠J then(-1:Int)else _)=if p0≠U\/Q≠J then(-1:Int)else _;congr 1;rcases H with _|H;.cases Z<;>rfl
  induction Z using cN with|none=>rfl|some Z=>exact(m7 X).symm
theorem RM(Z:x.fl<8)(X:y.fl<8):(ay||!decide (km (qd (x.fl:Int) (y.fl:Int)) 1=0))=fX x y ay:=by rw[RL x.fl Z y.fl X];unfold fX;rw[Bool.or_assoc]
theorem tC(hm:V∈[1,2,4])(ask:dc A R V F L qa r 2)(l2:L<=2)(hP:P<=4)(K:(P+1)*(3*(qa+r)+21)+(qa+r)+18<=w):fY A R V (F+15) L P w:=by
 intro n W b dp m b0 S s t x y c ay k h g j O E p1 p2 hd hk;have n3:V≠3:=by clear ask h O E hk;rintro rfl;revert hm;decide
 have u:∀{x:Sg},bo V L x->bo V 2 x:=fun h=>⟨h.1,fun p f=>(h.2.1 p f).aq l2,h.2.2.aq l2⟩;have Z:gS V 3 x y ay=gB (gN V) V x y ay:=yy n3 (u O) (u E);have bV:∀{C v},gS V 3 x y ay=(v:Nat)->Pw A R W V b dp m b0 (v:Nat) S C->k (.bool Y) C.σ:=fun{C v}e K=>by have:=hk C (by rw[e];exact K);rw[e,aN (hZ v)]at this;exact this
 have no:∀{C:Rs}{v:Int},gS V 3 x y ay=-1->Pw A R W V b dp m b0 v S C->k (.bool aj) C.σ:=fun{C v}e K=>by have:=hk C (by rw[e];exact K.fail (by decide));rw[e]at this;exact this
 show CW (n+F+15) 118 _ _ _;refine uW ?_;refine bD (fun e=>?_) fun ne=>?_;.cases dr e;exact bV (v:=0) (SR.same (ay:=ay) (h.st.tb.base) l2 O E g j) (.refl (h.le (b8 _ _)) fun _ _ _ q=>nomatch q)
 apply o h.st.eZ;refine bM 3 rfl (fun q=>ae q n3) fun _=>?_;rw[show n+F+14=n+F+3+11 from rfl];refine RA (b:=b) (h.le (yq 0x2b20871705800082b4030b400000 rfl K)) g j O E (fun i=>?_) fun S1 i X=>?_
 .refine Ry (b:=b+(P+1)*(3*(qa+r)+21)+(qa+r)) (h.le (yq 0xc4821bd81500020c500c2dec0ad00000000 rfl K)) g j O E (fun S1 hc X=>?_) fun S1 v hc X=>?_;.refine no ?_ (X.le (yp 833453033541632 rfl));rw[Z];unfold gB;rw[am i,hc];rfl
  .have Z:gS V 3 x y ay=match iO (gN V) V x y (fX x y ay) 6 0 v with|some c=>restOf (gN V) V c x y|none=>-1:=by rw[Z];unfold gB;rw[am i,hc];rfl
   obtain⟨pl,e,rt,pd,tl,RN⟩:=g.sv O.1;obtain⟨va,e',og,oh,iQ,zN⟩:=j.sv E.1;have U:=X.iv.st;have J:=bX X.pre RN.row;refine U.ol ?_;apply o U.tb.fW;have be:=RM (ay:=ay) O.1.fl E.1.fl;have H:CW (n+F+3+11) 117 [.ref R,.int s,.int t,.bool (fX x y ay)] S1.σ k:=by
    refine EG ?_;rw[show n+F+3+10=n+F+13 from rfl];refine RF (c0:=v) (P:=P) (b:=b+(qa+r)) hm ask hP (X.iv.le (yp 0xb5417a0017b541400000 rfl)) l2 (g.aq X.pre) (j.aq X.pre) O E p1 p2 hd (fun S2 a f h2=>?_) fun S2 f h2=>?_
    .have Q:=X.trans h2;rw[show n+F+13=n+9+F+4 by exact bB 0x1156d000046b400002 rfl];refine RB ask Q.iv l2 (g.aq Q.pre) (j.aq Q.pre) O E hd fun S3 h3=>?_;rw[f]at Z;have Z:gS V 3 x y ay=if jy (gN V) V x y<0 then-1 else(((v|||a)|||(jy (gN V) V x y).toNat:Nat):Int):=Z;rw[Ho n3]at Z;by_cases l:0<=oB V x y;.rw[aN l];rw[am (ig.mpr l)]at Z;exact bV Z (Q.trans (h3.toNat l))
     .rw[bS l];rw[af (cY.mp l)]at Z;exact no Z (Q.neg h3 (z:=-1) (by decide))
    .rw[f]at Z;exact no Z ((X.neg h2 (z:=-1) (by decide)).le (fz 778483814400 rfl))
   have e9:ca [(aa.int 3,aa.ref (R+8)),(aa.int 8,aa.ref (R+9))] (.int 9)=none:=(am fun q=>by cases q).trans (am fun q=>by cases q);have M:=(vA (σ:=S1.σ) (es:=[(aa.int 3,aa.ref (R+8)),(aa.int 8,aa.ref (R+9))]) (d:=.int 9) rfl rfl).trans (by rw[e9]);rcases ay with _|_;.apply o (U.tb.row J);apply o (U.tb.row (bX X.pre zN.row));apply o U.qU;apply o U.c1;apply o (pq U.c1);apply p M;apply o (U.tb.row J);rw[be.symm]at H;exact H
   apply o U.qU;apply o U.c1;apply o (pq U.c1);apply p M;apply o (U.tb.row J);exact H
 .refine bV ?_ X;rw[Z];unfold gB;rw[af i];unfold rk;rcases y.rest with _|m';.rfl
  induction m' using nM with|zero=>show(if b6 x>0 then(4:Int)else 0)=((if b6 x>0 then 4 else 0:Nat):Int);split<;>rfl|succ _=>rfl
end
section
theorem fY.le(h:fY A R V F L P w)(l:w<=w'):fY A R V F L P w':=by intro n W b X m U S s t x y c ay k Z;exact h (Z.le (eP l b))
theorem rm(X:V∈[1,2,4])(Z:∀J,L=J+1->fY A R V F J 2 w):dc A R V (F+18) L 757 w 2:=zr (U:=2) (d:=12) (qa:=28) X Z fun _=>zr (U:=1) (d:=6) (qa:=1) X Z fun _=>zr (U:=0) (d:=0) (qa:=0) X Z fun q=>ae q (oW 0)
theorem RO(Z:V∈[1,2,4]):fY A R V 99 2 4 1358811:=by have X:fY A R V 33 0 2 7651:=tC Z (rm (F:=0) (w:=0) Z fun _ q=>nomatch q) (by decide) (by decide) (by decide);have U:fY A R V 66 1 2 84161:=tC Z (rm Z fun J q=>by cases q;exact X) (by decide) (by decide) (by decide);exact tC Z (rm Z fun J q=>by cases q;exact U) (by decide) (by decide) (by decide)
theorem zO(Z:∀X,L=X+1->fY A R 3 F X 2 w):dc A R 3 (F+12) L 1459 (2*(2*w)) 2:=GW (U:=2) (d:=6) (qa:=1) (fun X q=>(Z X q).le (aB 673304576 rfl)) fun _=>GW (U:=0) (d:=0) (qa:=0) Z fun q=>ae q (oW 0)
theorem RP:fY A R 3 54 2 4 2389842:=by have Z:fY A R 3 18 0 2 5836:=zu (zO (F:=0) (w:=0) fun _ q=>nomatch q) (by decide) (by decide) (by decide);have X:fY A R 3 36 1 2 99212:=zu (zO fun U q=>by cases q;exact Z) (by decide) (by decide) (by decide);exact zu (zO fun U q=>by cases q;exact X) (by decide) (by decide) (by decide)
end
theorem zP(a b:Nat):km (a:Int) (b:Int)=((a&&&b:Nat):Int):=rfl
theorem zQ(a:Nat):decide (0<=jp (a:Int))=false:=bS (cY.mpr (Int.sub_one_lt_of_le (Int.neg_nonpos_of_nonneg (hZ a))))
theorem vX(a:Int):jp (jp a)=a:=by show-(-a-1)-1=a;rw[Int.neg_sub,Zd,YK,YJ]
theorem pZ(a b:Nat):qd (a:Int) (b:Int)=((a|||b:Nat):Int):=by show jp (match decide (0<=jp (a:Int)),decide (0<=jp (b:Int))with|true,Y=>_|true,aj=>_|false,Y=>_|false,aj=>_)=_;rw[zQ,zQ];show jp (jp (((jp (jp (a:Int))).toNat|||(jp (jp (b:Int))).toNat:Nat):Int))=_;rw[vX,vX,vX];rfl
theorem vY(a b:Nat):km (a:Int) (-(b:Int)-1)=((a-(a&&&b):Nat):Int):=by show(match decide (0<=(a:Int)),decide (0<=jp (b:Int))with|true,Y=>_|true,aj=>_|false,Y=>_|false,aj=>_)=_;rw[zQ];show(a:Int)-((a&&&(jp (jp (b:Int))).toNat:Nat):Int)=_;rw[vX,ic];exact(BP uq).symm
theorem iT(b:Nat)(hz:z=(b:Int))(Z:a&&&b≠0->P)(X:¬a&&&b≠0->Q):br (decide (km (a:Int) z≠0)) P Q:=by subst hz;exact bD (fun q=>Z fun e=>q (by rw[zP,e];rfl)) fun q=>X fun e=>q fun r=>e (by rw[zP]at r;exact dr r)
theorem RQ(b:Nat)(hz:z=-(b:Int)-1)(J:a&&&b≠a->P)(H:¬a&&&b≠a->Q):br (decide (km (a:Int) z≠0)) P Q:=by
 subst hz;have:=uq (n:=a) (m:=b);refine bD (fun q=>J fun e=>q ?_) fun q=>H fun e=>q fun r=>e ?_;.rw[vY,e,jN];rfl
 .rw[vY]at r;exact fx this (K6 (dr r))
theorem RS(o:Option Nat):cf (d+1) (eO o)=true:=by cases o<;>rfl
theorem Hp(p:Option (Int×Option Nat×Int)):cf (d+2) (dG p)=true:=by rcases p with _|⟨a,_|k,b⟩<;>rfl
theorem Hq(o:Bool):cf d (eB o)=true:=by cases o<;>cases d<;>rfl
theorem Hs:∀{l:List aa},(∀x∈l,cf d x=Y)->gs d l=true:=by intro l;induction l with|nil=>intro _;cases d<;>rfl|cons x r Z=>intro h;have X:=h x aW;have U:=Z fun y J=>h y (cI _ J);clear h;cases d<;>exact fe.mpr ⟨X,U⟩
theorem kf:∀{ps:List (Kd×Bool)},fC ps=ps.map cy:=by intro ps;induction ps with|nil=>exact rfl|cons _ r Z=>exact aI _ (Z)
section
theorem RT(U:∀p∈x.ps,cf d (aL p.1)=Y)(J:cf (d+2) (aL x.res)=Y):cf (d+3) (aF x)=true:=by obtain⟨ps,sp,rest,X,Z,Q⟩:=x;show(gs (d+1) (fC ps)&&(Y&&(cf (d+2) (eO rest)&&(cf (d+2) (aL X)&&(cf (d+2) (dG Z)&&(Y&&Y))))))=Y;rw[RS,J,Hp,kf];refine qt (Hs fun z hz=>?_) rfl;obtain⟨p,H,rfl⟩:=gZ.mp hz;clear hz;obtain⟨k,o⟩:=p;show(cf d (aL k)&&(cf d (eB o)&&Y))=Y;rw[U _ H,Hq];rfl
theorem RU:∀{n d:Nat}{K:Kd},aT V n K->4*n+1<=d->cf d (aL K)=true:=by
 intro n;induction n with|zero=>
 intro d K h l;obtain⟨m,s⟩:=K;rcases d with _|d;.exact ae l (qe _)
 rw[show s=I from h.2];cases d<;>rfl|succ n Z=>
 intro d K h l;obtain⟨m,s⟩:=K;rcases d with _|d;.exact ae l (qe _)
 rcases s with _|x;.clear l;cases d<;>rfl
 have w:=h.2 x rfl;obtain⟨e,rfl⟩:∃e,d=e+3:=so (aC 0x2d0052d40418020a1c00 rfl l);have:=RT (x:=x) (d:=e) (fun p X=>Z (w.2.2.1 p X) (aC 0xa7a80052d00418020a968418000 rfl l)) (Z w.2.2.2 (aC 0x29ea0014b401060080d50168418000 rfl l));show(Y&&(cf (e+3) (aF x)&&Y))=Y;rw[this];rfl
theorem Ht(h:aT V n K)(Z:n<=2):cg (aL K)=true:=RU h (ax 0x1a84005020968418000 rfl Z)
theorem RV(h:aL (.mk m s)=aL (.mk m' s')):m=m'/\oe s=oe s':=by injection h with h;injection h with X Z;injection Z with Z _;exact⟨j4 X,Z⟩
theorem RW(h:oe s=.none):s=none:=by
 rcases s with _|y;.rfl
 obtain⟨_,_,_,_,_,_⟩:=y;cases h
theorem Hu{m:Nat}:aL K=.ab [.int m,.none]↔K=.mk m none:=by obtain⟨m',s⟩:=K;refine⟨fun h=>?_,fun h=>by cases h;rfl⟩;have:=RV (m':=m) (s':=I) h;rw[this.1,RW this.2]
theorem zR(h:aT V n K)(Z:n<=2){σ:AH}{m:Nat}:hH σ (aL K) (.ab [.int m,.none])=D (decide (K.m=m/\K.s.isNone=Y)):=by
 have e1:hH σ (aL K) (.ab [.int m,.none])=if(cg (aL K)&&cg (.ab [.int m,.none]))=Y then D (decide (aL K=.ab [.int m,.none]))else none:=by clear h;obtain⟨_,_⟩:=K;rfl
 rw[e1,Ht h Z,af (show(Y&&cg (.ab [.int m,.none]))=Y from rfl)];refine aI D (iF.mpr (Hu.trans ?_));clear h e1;obtain⟨m',s⟩:=K;exact⟨fun h=>by cases h;exact⟨rfl,rfl⟩,fun h=>by obtain⟨rfl,h⟩:m'=m/\s.isNone=true:=h;rw[nI.mp h]⟩
end
section
noncomputable def bx:Nat->Ss->Ss|0,s=>s|n+1,s=>match s with|.cons _ s=>bx n s|.nil=>.nil
theorem rp{a x r v:Nat}(Z:∀k:Po,k (.int a) σ->wE WD K A lc σ k)(U:∀k:Po,k (.int x) σ->wE WD K X lc σ k)(k:Po)(h:k (.int (x|||(if a&&&r≠0 then v else 0):Nat)) σ):wE WD K (.aK .bor X (.ite (.ex (.aK .band A (.lit (.int r)))) (.lit (.int v)) (.lit (.int (0:Nat))))) lc σ k:=by
 refine U _ (Z _ ?_);refine iT r rfl (fun q=>?_) fun q=>?_;.rw[af q,<-pZ]at h;exact h
 .rw[am q,<-pZ]at h;exact h
theorem RX(C:aT V L a)(t:aT V L b)(l2:L<=2)(X:∀x y,a.s=D x->b.s=D y->∀(σ:AH)(k:Po),(∀au,Fr [] σ au->k (.int (g x y)) au)->CW (n+F) 151 [aF x,aF y,.bool aj,.int V] σ k)(Z:∀au,Fr [] σ au->k (.int (gK g V a b)) au):CW (n+F+1) 144 [aL a,aL b,.int V] σ k:=by
 rw[F9]at Z;obtain⟨m,s⟩:=a;obtain⟨m',s'⟩:=b;have M:hH σ (aL (.mk m s)) (.ab [.int (0:Nat),.none])=D (decide (m=0/\s.isNone=Y)):=zR C l2;have u:∀{σ},hH σ (aL (.mk m' s')) (.ab [.int (0:Nat),.none])=D (decide (m'=0/\s'.isNone=Y)):=zR t l2;have w:∀{m:Nat}{s:Option Sg},(m==0&&!s.isSome)=Y↔m=0/\s.isNone=true:=fun{m s}=>by rw[gG,aV];cases s<;>rfl
 have Q:=w (m:=m) (s:=s);have A:=w (m:=m') (s:=s');have Z:∀au,Fr [] σ au->k (.int (ke V m m' s.isSome s'.isSome (iN g s s'))) au:=Z;unfold ke at Z;refine Oa ?_;refine iT 4096 rfl (fun q=>?_) fun i=>?_;.rw[af (Or.inl q)]at Z;exact Z σ .rfl
 apply o M;refine bD (fun q=>?_) fun j=>?_;.rw[af (Or.inr (Q.mpr q))]at Z;exact Z σ .rfl
 rw[am fun q=>q.elim i fun q=>j (Q.mp q)]at Z;have U:∀{K:jt}{l:Lc}{σ:AH}(k:Po),k (.int m') σ->wE WD K (.ad (.var 1) (.lit (.int 0))) (D (aL (.mk m s))::D (aL (.mk m' s'))::l) σ k:=fun k h=>h;have rest:¬(m&&&4096≠0/\V=4)->aP WD (CW (n+F)) (bx 2 uU) [D (aL (.mk m s)),D (aL (.mk m' s')),D (.int V),I,I] σ (kR k):=fun O=>by
  rw[am O]at Z;refine iT 2048 rfl (fun q=>?_) fun E=>?_;.rw[af q]at Z;exact Z σ .rfl
  rw[am E]at Z;refine iT 4096 rfl (fun q=>?_) fun e=>?_
  .rw[af q]at Z;apply o (u (σ:=σ));refine bD (fun r=>?_) fun r=>?_;.rw[af (A.mpr r)]at Z;exact Z σ .rfl
   .rw[am fun r'=>r (A.mp r')]at Z;exact Z σ .rfl
  rw[am e]at Z;refine rp (r:=1024) (v:=512) U (rp (r:=32) (v:=24) U (rp (r:=4) (v:=3) U U)) _ ?_;have H:∀au,Fr [] σ au->aP WD (CW (n+F)) (bx 7 uU) [D (aL (.mk m s)),D (aL (.mk m' s')),D (.int V),D (.int (gJ m':Nat)),D (.int (iN g s s'))] au (kR k):=fun au f=>by
   have Z:=Z au f;refine bM 2 rfl (fun m2=>?_) fun m2=>?_
   .rw[af m2]at Z;have hV:∀k:Po,k (.int (gJ m':Nat)) au->wE WD (CW (n+F)) (.var 3) [D (aL (.mk m s)),D (aL (.mk m' s')),D (.int V),D (.int (gJ m':Nat)),D (.int (iN g s s'))] au k:=fun k h=>h;refine rp (r:=512) (v:=1024) U (rp (r:=24) (v:=32) U (rp (r:=3) (v:=4) U hV)) _ ?_;apply o (show nV .ne au (aL (.mk m' s')) (.ab [.int (0:Nat),.none])=D (!decide (m'=0/\s'.isNone=Y))by show(match hH au _ _ with|some c=>D (!c)|none=>I)=_;rw[u]);have J:∀(r:Nat)(z:Int),z=r->r=j2 m' (m'==0&&!s'.isSome)->br (decide (km (m:Int) z≠0)) (k (.int 0) au) (br (decide ((iN g s s')>=0)) (k (.int 0) au) (k (.int (-1)) au)):=fun r z hz hr=>by
     subst hr;refine iT _ hz (fun q=>?_) fun q=>?_;.rw[af (Or.inl q)]at Z;exact Z
     .refine bD (fun d=>?_) fun d=>?_;.rw[af (Or.inr d)]at Z;exact Z
      .rw[am fun r=>r.elim q d]at Z;exact Z
    refine bN (bD (fun q=>?_) fun q=>?_);.refine J _ _ rfl ?_;rw[A.mpr q];exact(mq _).symm
    .refine J _ _ (pZ _ 2048) ?_;rw[jJ.mpr fun r=>q (A.mp r)];rfl
   .rw[am m2]at Z;refine RQ (gJ m') rfl (fun q=>?_) fun q=>?_;.rw[af q]at Z;exact Z
    .rw[am q]at Z;rcases s with _|x;.exact Z
     clear C X M Q j U;obtain⟨_,_,_,_,_,_⟩:=x;exact Z
  rcases s with _|x;.exact H σ .rfl
  induction s' using cN with|none=>clear C M Q j X U Z;obtain⟨_,_,_,_,_,_⟩:=x;exact H σ .rfl|some y=>clear C M Q j U Z;obtain⟨_,_,_,_,_,_⟩:=x;obtain⟨_,_,_,_,_,_⟩:=y;refine X _ _ rfl rfl σ _ fun au f=>?_;exact H au f
 refine iT 4096 rfl (fun O=>?_) fun O=>rest fun q=>O q.1;refine bM 4 rfl (fun E=>?_) fun E=>rest fun q=>E q.2;rw[af ⟨O,E⟩]at Z;exact Z σ .rfl
end
theorem vZ{xs:List O}(u:O->aa)(f:O->Bool)(g:O->aa)(P:Lc->Prop)(d:P lc)(w:∀x∈xs,∀lc Z,Fr [] σ Z->P lc->∃U,A4 (fj lc t (u x)=D U) (P U) (∀M:Bool->AH->Prop,M (f x) Z->c U Z M) (f x=Y->∀eb:Po,(∀X,Fr [] Z X->eb (g x) X)->e U Z eb))(v:∀Z,Fr [] σ Z->k (.ref Z.length) (Z++[.list ((xs.filter f).map g)])):jY I t c e (xs.map u) [] lc σ k:=by
 refine qP (g:=I) (fun a r lc Z=>Fr [] σ Z/\P lc/\∃q,A3 (r=q.map u) (∀x∈q,x∈xs) (a++(q.filter f).map g=(xs.filter f).map g)) (fun _ _ _ _ _=>trivial) ?_ ?_ ⟨.rfl,d,xs,rfl,fun _ h=>h,rfl⟩;.rintro a lc Z⟨J,_,q,Q,_,e⟩;induction q using eQ with|cons=>cases Q|nil=>rw[Y0,uu,bO]at e;rw[e];exact v Z J
 .rintro x r a lc Z K⟨J,m,q,Q,L,e⟩A;rcases q with _|⟨y,q⟩;.cases Q
  cases Q;obtain⟨U,s,j,b,l⟩:=w y (L y aW) lc Z J m;refine o s (b _ ?_);have H:=fun z(hz:z∈q)=>L z (cI _ hz);rcases E:f y with _|_;.refine A _ _ _ ⟨J,j,q,rfl,H,?_⟩;rw[KX (jJ.mp E)]at e;exact e
  refine l E _ fun X C=>A _ _ _ ⟨J.trans C,j,q,rfl,H,?_⟩;rw[BM E,ii]at e;rw[dy];exact e
theorem zS:∀{l:List X},l.filter (fun _=>Y)=l:=by intro l;induction l with|nil=>exact rfl|cons a l Z=>exact aI (a::·) (Z)
section
variable{x y:Sg}{k:Po}
theorem RY(Z:k (.int (c4 m)) σ):CW (n+1) 132 [.int m] σ k:=by
 refine NX ?_;unfold c4 at Z;refine iT 4096 rfl (fun q=>?_) fun U=>?_;.rw[af q]at Z;exact Z
 rw[am U]at Z;refine iT 2048 rfl (fun q=>?_) fun J=>?_;.rw[af q]at Z;exact Z
 rw[am J]at Z;have X:∀m',k (.int (if m'&&&32≠0 then m'-(m'&&&24)else m':Nat)) σ->aP WD (CW n) (bx 3 xY) [D (.int (m':Nat))] σ (kR k):=fun m' Z=>by
  refine iT 32 rfl (fun q=>?_) fun q=>?_;.rw[af q,<-vY]at Z;exact Z
  .rw[am q]at Z;exact Z
 refine iT 4 rfl (fun q=>?_) fun q=>?_;.rw[af q]at Z;have:=X _ Z;rw[<-vY]at this;exact this
 .rw[am q]at Z;exact X m Z
theorem Hv(Z:k (aL (jn K b)) σ):CW (n+2) 133 [aL K,.int b] σ k:=by
 obtain⟨m,s⟩:=K;have Z:k (.ab [.int (c4 (m|||b)),oe (if c4 (m|||b)&&&6144≠0 then I else s)]) σ:=Z;refine NY ?_;show CW (n+1) 132 [.int (qd (m:Int) (b:Int))] σ _;rw[pZ];refine RY ?_;refine iT 6144 rfl (fun q=>?_) fun q=>?_;.rw[af q]at Z;exact Z
 .rw[am q]at Z;exact Z
theorem wa(x:Sg):cZ σ (aF x) (.int 0)=D (.ab (fC x.ps)):=by obtain⟨_,_,_,_,_,_⟩:=x;rfl
theorem wb(h:x.ps.length<=4):(fC x.ps).length<av:=by rw[kf,aJ];exact ax 296386383873 rfl h
theorem zT(h:x.ps.length<=4)(U:∀Z,Fr [] σ Z->k (.ref Z.length) (Z++[.list ((bq x).map aL)])):CW (n+3) 148 [aF x] σ k:=by
 refine Oe ?_;apply o (wa x);apply o (hU (wb h));rw[kf];refine vZ cy (fun _=>Y) (fun p=>aL (mN p)) (fun lc=>E2 fun v w=>lc=[D (aF x),v,w]) ⟨I,I,rfl⟩ ?_ ?_
 .rintro⟨K,o1⟩H lc Z f⟨v,w,rfl⟩;refine⟨_,rfl,⟨_,_,rfl⟩,fun Q J=>J,fun _ eb X=>?_⟩;rcases o1 with _|_;.exact X Z .rfl
  exact Hv (n:=n) (b:=512) (X Z .rfl)
 .intro Z f;rw[zS];have:=U Z f;unfold bq at this;rw[BC]at this;exact this
theorem zU(h:x.ps.length<=4)(X:∀Z,Fr [] σ Z->k (.int (lM x)) Z):CW (n+1) 149 [aF x] σ k:=by
 refine Of ?_;apply o (wa x);apply o (hU (wb h));rw[kf];refine vZ cy (fun p=>!p.2) (fun _=>.int 1) (fun lc=>E2 fun v w=>lc=[D (aF x),v,w]) ⟨I,I,rfl⟩ ?_ ?_;.rintro⟨K,o1⟩U lc Z f⟨v,w,rfl⟩;refine⟨_,rfl,⟨_,_,rfl⟩,fun Q J=>?_,fun _ eb H=>H Z .rfl⟩;clear U;cases o1<;>exact J
 .intro Z f;have e1:((x.ps.filter fun p=>!p.2).map fun _=>aa.int 1).length=lM x:=aJ _;apply p (dv aS (by rw[e1];exact ax 296386383873 rfl (bj (oY _ _) h)));rw[e1];exact X _ (f.trans .new)
theorem zV(hi:σ[i]?=D (.list (l.map aL)))(E:l.length<=4)(C:c<=l.length)(U:k (.int (kM l c)) σ):CW (n+1) 147 [.ref i,.int c] σ k:=by
 have M:(l.map aL).length<av:=by rw[aJ];exact ax 296386383873 rfl E
 refine Od ?_;refine⟨c+1,yW (fun m lc Z=>Z=σ/\lc=[D (.ref i),D (.int m)]/\m<=l.length/\kM l m=kM l c) ?_ ?_ ⟨rfl,rfl,C,rfl⟩⟩
 .rintro m lc Z K⟨rfl,rfl,J,X⟩L;obtain⟨q,H⟩:∃q,l[m]?=D q:=⟨_,dL (aC 745056601034753 rfl J)⟩;refine bt (show kG .gt ((m+1:Nat):Int) 0=Y from aN (l8.mpr (fg m))) ?_;have es:((m+1:Nat):Int)-1=m:=pj m;apply o (show cZ Z (.ref i) (.int (((m+1:Nat):Int)-1))=D (aL q)by rw[es];exact(hQ hi).trans (gI (by rw[gm,H];rfl) M));have X:(if q.m&&&1024≠0 then kM l m else m+1)=kM l c:=by rw[X.symm];show _=(match l[m]? with|some k=>_|none=>_);rw[H]
  clear H;obtain⟨Q,O⟩:=q;refine iT 1024 rfl (fun r=>?_) fun r=>?_;.rw[af (show(Kd.mk Q O).m&&&1024≠0 from r)]at X;exact L _ _ ⟨rfl,by rw[es];rfl,aC 745056601034752 rfl J,X⟩
  .rw[am (show¬(Kd.mk Q O).m&&&1024≠0 from r)]at X;rw[X.symm]at U;exact U
 .clear hi;rintro lc Z K⟨rfl,rfl,J,X⟩;rw[X.symm]at U;exact U
end
def oC(V F L:Nat):Prop:=∀⦃n:Nat⦄⦃x y:Sg⦄⦃ay:Bool⦄⦃σ:AH⦄⦃k:Po⦄,bo V L x->bo V L y->(∀Z,Fr [] σ Z->k (.int (gS V 3 x y ay)) Z)->CW (n+F) 151 [aF x,aF y,.bool ay,.int V] σ k
noncomputable def zW(o:Option Nat)(a b:Nat):Bool:=match o with|some m=>m==a||m==b|none=>aj
noncomputable def zX(K:Kd)(a b:Nat):Bool:=match K with|.mk m I=>m==a||m==b|.mk _ (D _)=>aj
section
theorem RZ{o:Option Nat}{a b:Nat}:io σ (eO o) (.ab [.ab [.int a,.none],.ab [.int b,.none]])=D (zW o a b):=by
 rcases o with _|m;.rfl
 have e:∀{a:Nat},(eM m==.ab [.int a,.none])=(m==a):=fun{a}=>by rw[uo,aV,aV];exact⟨fun h=>by injection h with h;injection h with h _;exact j4 h,fun h=>by rw[h];rfl⟩
 show D (eM m==_||(eM m==_||false))=_;rw[e,e,xu];rfl
theorem R0{a b:Nat}(h:aT V L K)(l2:L<=2):io σ (aL K) (.ab [.ab [.int a,.none],.ab [.int b,.none]])=D (zX K a b):=by
 have e:∀{a:Nat},(aL K==.ab [.int a,.none])=(K.m==a&&K.s.isNone):=fun{a}=>by rw[uo,aV,Hu,gG,aV];clear h;obtain⟨m,s⟩:=K;exact⟨fun h=>by cases h;exact⟨rfl,rfl⟩,fun h=>by obtain⟨rfl,h⟩:m=a/\s.isNone=true:=h;rw[nI.mp h]⟩
 show(if(cg (aL K)&&_)=Y then D (aL K==_||(aL K==_||false))else I)=_;rw[Ht h l2,af (show(Y&&[aa.ab [aa.int a,aa.none],aa.ab [aa.int b,aa.none]].all cg)=Y from rfl),e,e,xu];clear h e;obtain⟨m,s⟩:=K;rcases s with _|y;.show D ((m==a&&Y)||(m==b&&Y))=_;rw[lh,lh];rfl
 show D ((m==a&&aj)||(m==b&&aj))=_;rw[uy,uy];rfl
theorem rq(x:Sg):cZ σ (aF x) (.int 3)=D (aL x.res):=by obtain⟨_,_,_,_,_,_⟩:=x;rfl
theorem wc(x:Sg):cZ σ (aF x) (.int 4)=D (dG x.pred):=by obtain⟨_,_,_,_,_,_⟩:=x;rfl
theorem tD(x:Sg):cZ σ (aF x) (.int 2)=D (eO x.rest):=by obtain⟨_,_,_,_,_,_⟩:=x;rfl
theorem zY(x:Sg):cZ σ (aF x) (.int 5)=D (.int x.fl):=by obtain⟨_,_,_,_,_,_⟩:=x;rfl
theorem Hw{p:Option (Int×Option Nat×Int)}:hH σ (dG p) (.ab [])=D p.isNone:=by rcases p with _|⟨a,_|k,b⟩<;>rfl
theorem zZ(U:bo V L x)(l2:L<=2)(Z:k (.bool (db x)) σ):CW (n+1) 150 [aF x] σ k:=by
 have Z:k (.bool (zW x.rest 4096 0&&zX x.res 4096 2048&&x.ps.isEmpty&&x.pred.isNone)) σ:=Z;refine Og ?_;apply o (tD x);apply o (RZ (o:=x.rest) (a:=4096) (b:=0));have X:∀w:Bool,k (.bool (w&&x.ps.isEmpty&&x.pred.isNone)) σ->aP WD (CW n) (bx 1 x9) [D (aF x),D (.bool w)] σ (kR k):=fun w Z=>by
  rcases w with _|_;.exact Z
  apply o (wa x);apply p (ip (wb U.1.len));have e1:(fC x.ps).length=x.ps.length:=by rw[kf,aJ]
  rw[e1];refine bD (fun q=>?_) fun q=>?_;.have:x.ps.isEmpty=true:=nK.mpr (nD (dr q));rw[this]at Z;apply o (wc x);apply o (Hw (σ:=σ) (p:=x.pred));exact Z
  .have:x.ps.isEmpty=false:=by induction h:x.ps using eQ with|nil=>rw[h]at q;exact ae rfl q|cons=>rfl
   rw[this]at Z;show k (.bool (decide ((x.ps.length:Int)=0))) σ;rw[bS q];exact Z
 rcases J:zW x.rest 4096 0 with _|_;.rw[J]at Z;exact X aj Z
 rw[J]at Z;apply o (rq x);apply o (R0 (a:=4096) (b:=2048) U.2.2 l2);rcases H:zX x.res 4096 2048 with _|_;.rw[H]at Z;exact X aj Z
 rw[H]at Z;exact X Y Z
theorem rr(E:V≠3)(U:∀X,L=X+1->oC V F X)(J:aT V L K1)(O:aT V L K2)(l2:L<=2)(H:∀Z,Fr [] σ Z->k (.int (ak V K1 K2)) Z):CW (n+F+1) 144 [aL K1,aL K2,.int V] σ k:=by
 rw[m7 E]at H;refine RX (g:=fun x y=>gS V 3 x y aj) J O l2 (fun x y e1 e2 σ k Q=>?_) H;clear H;obtain⟨m,s⟩:=K1;obtain⟨m',s'⟩:=K2;rcases L with _|X;.rw[show s=I from J.2]at e1;cases e1
 exact U X rfl (J.2 x e1).2 (O.2 y e2).2 Q
theorem R1(X:V≠3)(U:∀O,L=O+1->oC V F O)(E:aT V L K1)(C:aT V L K2)(l2:L<=2)(K:∀σ,lA σ d=D f)(Z:∀J,Fr [] σ J->k (.int (dP (gN V) V K1 K2 f)) J):CW (n+F+2) 145 [aL K1,aL K2,d,.int V] σ k:=by
 refine Ob ?_;refine rr X U E C l2 fun bY M=>?_;have same:dP (gN V) V K1 K2 f=ak V K1 K2->k (.int (ak V K1 K2)) bY:=fun e=>by rw[e.symm];exact Z bY M
 refine bD (fun q=>?_) fun q=>same (Hd X (ig.mp q));apply o (K bY);have H:=cY.mpr q;rcases f with _|_;.exact same (zM X H fun r=>(by have h:=r.1;contradiction))
 refine bN (bM 4 rfl (fun m4=>same (zM X H fun r=>r.2 m4)) fun m4=>?_);refine rr X U C E l2 fun Q A=>?_;have Z:=Z Q (M.trans A);rw[(He X H ⟨rfl,m4⟩)]at Z;refine bD (fun r=>?_) fun r=>?_;.rw[af r]at Z;rw[<-pZ,lk r]at Z;exact Z
 .rw[am r]at Z;exact Z
noncomputable def z6(V:Nat)(p q:Option Nat):Int:=match p with|none=>(match q with|none=>0|some _=>-1)|some p=>(match q with|none=>-1|some q=>ak V (.mk p I) (.mk q I))
theorem R2:mX V (D (p0,Z,X)) (D (U,q1,J))=if p0≠U\/X≠J then-1 else z6 V Z q1:=by cases Z<;>cases q1<;>rfl
theorem R3(O:V≠3)(J:∀j,L=j+1->oC V F j)(d:bo V L x)(E:bo V L y)(l2:L<=2)(Z:∀au,Fr [] σ au->k (.int (jy (gN V) V x y)) au):CW (n+F+2) 146 [aF x,aF y,.int V] σ k:=by
 rw[Ho O]at Z;refine Oc ?_;apply o (wc x);apply o (wc y);apply o (rq y);apply o (zR (σ:=σ) (m:=1024) E.2.2 l2);unfold oB at Z;refine bD (fun q=>?_) fun q=>?_;.rw[af q]at Z;exact Z σ .rfl
 rw[am q]at Z;have o1:=d.1.pr;have o2:=E.1.pr;rcases C:y.pred with _|q;.rw[C]at Z;apply o (rq x);apply o (rq y);exact rr O J d.2.2 E.2.2 l2 Z
 rw[C]at Z o2;clear C;obtain⟨M,X,K⟩:=q;rcases A:x.pred with _|p;.rw[A]at Z;cases X<;>exact Z σ .rfl
 rw[A]at Z o1;clear A;obtain⟨p0,H,g⟩:=p;have Z:∀au,Fr [] σ au->k (.int (if p0≠M\/g≠K then-1 else z6 V H X)) au:=fun au f=>by have:=Z au f;dsimp only at this;rw[R2]at this;exact this
 have Q:¬(p0≠M\/g≠K)->∀au,Fr [] σ au->k (.int (z6 V H X)) au:=fun r=>by rw[am r]at Z;exact Z
 have bV:(p0≠M\/g≠K)->k (.int (-1)) σ:=fun r=>by rw[af r]at Z;exact Z σ .rfl
 rcases H with _|H;.induction X using cN with|none=>exact fO (fun e=>bV (.inl e)) fun e=>fO (fun e=>bV (.inr e)) fun U=>Q (fun r=>r.elim (fun r=>r e) fun r=>r U) σ .rfl|some X=>exact fO (fun e=>bV (.inl e)) fun e=>fO (fun e=>bV (.inr e)) fun U=>Q (fun r=>r.elim (fun r=>r e) fun r=>r U) σ .rfl
 induction X using cN with|none=>exact fO (fun e=>bV (.inl e)) fun e=>fO (fun e=>bV (.inr e)) fun U=>Q (fun r=>r.elim (fun r=>r e) fun r=>r U) σ .rfl|some X=>refine fO (fun e=>bV (.inl e)) fun e=>fO (fun e=>bV (.inr e)) fun U=>?_;exact rr (K1:=.mk H I) (K2:=.mk X I) O J (mY (o1 _ _ _ rfl _ rfl)) (mY (o2 _ _ _ rfl _ rfl)) l2 (Q fun r=>r.elim (fun r=>r e) fun r=>r U)
end
noncomputable def oK(o:Option Kd):aa:=match o with|some K=>aL K|none=>.none
section
theorem z7(pl:∀(n:Nat)(K:Kd)(σ:AH)(k:Po),aT V L K->(∀Z,Fr [] σ Z->k (cB K) Z)->CW (n+F) 143 [aL K] σ k)(J:bo V L x)(H:∀Z,Fr [] σ Z->k (dH x) Z):CW (n+F+1) 142 [aF x] σ k:=by
 have C:=wb J.1.len;have Q:=J.1.pr;have A:dH x=.ab [.ab (gz x.ps),cB x.res,dG x.pred,.int (x.fl&&&6:Nat)]:=by clear J H C Q;obtain⟨_,_,_,_,_,_⟩:=x;rfl
 rw[A]at H;refine N9 ?_;apply o (wc x);have rest:∀Z,Fr [] σ Z->aP WD (CW (n+F)) (bx 2 x8) [D (aF x),D (dG x.pred),I,I,I] Z (kR k):=fun Z f=>by
  apply o (wa x);apply o (hU C);rw[kf];refine vZ cy (fun _=>Y) (fun p=>j1 p) (fun lc=>E2 fun v w=>lc=[D (aF x),D (dG x.pred),I,v,w]) ⟨I,I,rfl⟩ ?_ ?_;.rintro⟨K,o1⟩g lc X M⟨v,w,rfl⟩;refine⟨_,rfl,⟨_,_,rfl⟩,fun y j=>j,fun _ eb d=>?_⟩;exact pl n K X _ (J.2.1 _ g) fun U O=>d U O
  .intro X M;rw[zS];have r:(x.ps.map j1).length<av:=by have:=J.1.len;rw[aJ];exact ax 296386383873 rfl this
   apply p (show iI .tuple (X++[.list (x.ps.map j1)]) [.ref X.length]=D (.ab (x.ps.map j1),_)by show(((nY _ _).bind _:Option aa).map _)=_;rw[eA aS,qh,af r];rfl);apply o (rq x);refine pl n x.res _ _ J.2.2 fun U O=>?_;apply o (zY x);have:=H U (f.trans (M.trans (Fr.new.trans O)));rw[ox]at this;exact this
 rcases E:x.pred with _|q;.rw[E]at rest;exact rest σ .rfl
 rw[E]at rest Q;clear E;obtain⟨a,u,c⟩:=q;rcases u with _|m;.exact rest σ .rfl
 exact pl n (.mk m I) σ _ (mY (Q _ _ _ rfl _ rfl)) fun Z f=>rest Z f
theorem z8:∀{L n:Nat}{K:Kd}{σ:AH}{k:Po},aT V L K->(∀Z,Fr [] σ Z->k (cB K) Z)->CW (n+(2*L+1)) 143 [aL K] σ k|L,n,.mk m I,σ,k,h,X=>EH (X σ .rfl)|0,n,.mk m (D x),σ,k,h,X=>(by have h:=h.2;contradiction)|L+1,n,.mk m (D x),σ,k,h,X=>by refine EH ?_;have U:=(h.2 x rfl).2;clear h;obtain⟨_,_,_,_,_,_⟩:=x;exact z7 (n:=n) (F:=2*L+1) (fun n K σ k h X=>z8 h X) U fun Z f=>X Z f
theorem Hx{X vs U ia j:Nat}(J:lc[X]?=D (D (.ref ia)))(M:lc[vs]?=D (D (aF x)))(H:lc[U]?=D (D (.int j)))(Q:σ[ia]?=D (.list ((bq x).map aL)))(L:x.ps.length<=4)(Z:k (oK (dK (bq x) x.rest j)) σ):wE WD K (.ite (.ex (.ah .lt (.var U) (.bi .len (.cons (.var X) .nil)))) (.ad (.var X) (.var U)) (.ad (.var vs) (.lit (.int 2)))) lc σ k:=by
 have e1:((bq x).map aL).length=x.ps.length:=by unfold bq;rw[aJ,aJ]
 have O:((bq x).map aL).length<av:=by rw[e1];exact ax 296386383873 rfl L
 show gL lc[U]? _;rw[H];show gL lc[X]? _;rw[J];show gP (iI .len σ [.ref ia]) _;apply p (dv Q O);rw[e1];refine bD (fun q=>?_) fun q=>?_
 .have q:j<x.ps.length:=cw.mp q;have E:(bq x)[j]?=D (mN x.ps[j]):=by unfold bq;rw[gm,dL q];rfl
  have e2:dK (bq x) x.rest j=D (mN x.ps[j]):=by unfold dK;rw[E]
  rw[e2]at Z;show gL lc[X]? _;rw[J];show gL lc[U]? _;rw[H];apply o ((hQ (d:=.int j) Q).trans (gI (by rw[gm,E];rfl) O));exact Z
 .rw[rj (kt fun r=>q (cw.mpr r))]at Z;show gL lc[vs]? _;rw[M];apply o (tD x);rcases C:x.rest with _|m;.rw[C]at Z;exact Z
  rw[C]at Z;exact Z
end
section
theorem R4(Z:cg a=Y)(X:cg c=Y)(U:∀σ,hH σ a c=if(cg a&&cg c)=Y then D (decide (a=c))else I):hH σ a c=D (decide (a=c)):=by rw[U,Z,X];rfl
theorem Hz(U:∀p∈x.ps,cf d (cB p.1)=Y)(J:cf (d+2) (cB x.res)=Y):cf (d+3) (dH x)=true:=by obtain⟨ps,sp,rest,X,Z,Q⟩:=x;show(gs (d+1) (gz ps)&&(cf (d+2) (cB X)&&(cf (d+2) (dG Z)&&(Y&&Y))))=Y;rw[J,Hp,ox];refine qt (Hs fun z hz=>?_) rfl;obtain⟨p,H,rfl⟩:=gZ.mp hz;clear hz;obtain⟨k,o⟩:=p;show(cf d (cB k)&&(cf d (eB o)&&Y))=Y;rw[U _ H,Hq];rfl
theorem HA:∀{n d:Nat}{K:Kd},aT V n K->4*n+1<=d->cf d (cB K)=true:=by
 intro n;induction n with|zero=>
 intro d K h l;obtain⟨m,s⟩:=K;rcases d with _|d;.exact ae l (qe _)
 rw[show s=I from h.2];cases d<;>rfl|succ n Z=>
 intro d K h l;obtain⟨m,s⟩:=K;rcases d with _|d;.exact ae l (qe _)
 rcases s with _|x;.clear l;cases d<;>rfl
 have w:=h.2 x rfl;obtain⟨e,rfl⟩:∃e,d=e+3:=so (aC 0x2d0052d40418020a1c00 rfl l);have:=Hz (x:=x) (d:=e) (fun p X=>Z (w.2.2.1 p X) (aC 0xa7a80052d00418020a968418000 rfl l)) (Z w.2.2.2 (aC 0x29ea0014b401060080d50168418000 rfl l));show(Y&&(cf (e+3) (dH x)&&Y))=Y;rw[this];rfl
theorem HB(h:bo V L x)(l2:L<=2):cg (dH x)=true:=Hz (d:=37) (fun p Z=>HA (h.2.1 p Z) (ax 0x1a84004a20968418000 rfl l2)) (HA h.2.2 (ax 0x6a1006094410168418000 rfl l2))
noncomputable def z9(s:Ss):Ss:=match s with|.cons (.for _ _ b) _=>b|_=>.nil
noncomputable def tF(s:Ss):Ss:=match s with|.cons (.ifs _ a _) _=>a|_=>.nil
theorem R5(J:bo 3 L x)(H:bo 3 L y)(l2:L<=2)(Z:∀X,Fr [] σ X->k (.int (gS 3 3 x y ay)) X):CW (n+(2*L+3)) 151 [aF x,aF y,.bool ay,.int (3:Nat)] σ k:=by
 have Q:gS 3 3 x y ay=if dH x=dH y then 0 else-1:=af rfl;refine EI ?_;refine z7 (n:=n) (F:=2*L+1) (fun n K σ k h Z=>z8 h Z) J fun O E=>?_;refine z7 (n:=n) (F:=2*L+1) (fun n K σ k h Z=>z8 h Z) H fun U C=>?_;apply o (show hH U (dH x) (dH y)=D (decide (dH x=dH y))from R4 (HB J l2) (HB H l2) fun σ=>by clear J Z Q;obtain⟨_,_,_,_,_,_⟩:=x;rfl);have Z:=Z U (E.trans C);rw[Q]at Z;refine bD (fun q=>?_) fun q=>?_;.rw[af q]at Z;exact Z
 .rw[am q]at Z;exact Z
theorem R6(X:lc[0]?=D (D (aF x)))(U:lc[1]?=D (D (aF y)))(J:lc[2]?=D (D (.bool ay)))(Z:∀d,(∀σ,lA σ d=D (fX x y ay))->k d σ):wE WD K (.or (.var 2) (.or (.aK .band (.ad (.var 0) (.lit (.int 5))) (.ai 46)) (.aK .band (.ad (.var 1) (.lit (.int 5))) (.ai 46)))) lc σ k:=by
 show gL lc[2]? _;rw[J];rcases ay with _|_
 .show gL lc[0]? _;rw[X];apply o (zY x);have e:∀(a:Nat)(σ:AH),lA σ (.int (km (a:Int) 1))=D (decide (a&&&1≠0)):=fun a σ=>by show D (decide (((a&&&1:Nat):Int)≠0))=_;exact aI D (iF.mpr ⟨fun q r=>q (by rw[r];rfl),fun q r=>q (dr r)⟩)
  refine iT 1 rfl (fun q=>?_) fun q=>?_;.refine Z _ fun σ=>(e _ σ).trans ?_;unfold fX;rw[decide_eq_true q];rfl
  .show gL lc[1]? _;rw[U];apply o (zY y);refine Z _ fun σ=>(e _ σ).trans ?_;unfold fX;rw[decide_eq_false q];rfl
 exact Z (.bool Y) fun σ=>rfl
theorem Aa(i:V≠3)(m:∀L',L=L'+1->oC V F L')(wx:bo V L x)(wy:bo V L y)(l2:L<=2)(U:∀au,Fr [] σ au->k (.int (gS V 3 x y ay)) au):CW (n+(F+4)) 151 [aF x,aF y,.bool ay,.int V] σ k:=by
 have HC:∀{x:Sg},bo V L x->bo V 2 x:=fun h=>⟨h.1,fun p M=>(h.2.1 p M).aq l2,h.2.2.aq l2⟩;have gv:gS V 3 x y ay=gB (gN V) V x y ay:=yy i (HC wx) (HC wy);rw[gv]at U;have x4:=wx.1.len;have y4:=wy.1.len;refine EI ?_;refine bM 3 rfl (fun q=>ae q i) fun _=>?_;refine zT (n:=n+F) x4 fun f f1=>?_;have H:(f++[.list ((bq x).map aL)])[f.length]?=D (.list ((bq x).map aL)):=aS;generalize H?:f.length=ia at H;refine zT (n:=n+F) y4 fun Q f2=>?_;have cb:(Q++[.list ((bq y).map aL)])[Q.length]?=D (.list ((bq y).map aL)):=aS;generalize I':Q.length=C at cb;have H:=du (g:=[.list ((bq y).map aL)]) (f2 _ _ H bK);have f3:Fr [] σ (Q++[.list ((bq y).map aL)]):=f1.trans (Fr.new.trans (f2.trans .new));generalize(Q++[AO.list ((bq y).map aL)])=eh at H cb f3;have u:(bq x).length=x.ps.length:=aJ _;have t:(bq y).length=y.ps.length:=aJ _;have R7:lM x<=(bq x).length:=by rw[u];exact oY _ _
 have R8:lM y<=(bq y).length:=by rw[t];exact oY _ _
 refine zU (n:=n+F+2) x4 fun jc f4=>?_;refine zV (n:=n+F+2) (f4 _ _ H bK) (by rw[u];exact x4) R7 ?_;refine zU (n:=n+F+2) y4 fun fF f5=>?_;have A:=f4.trans f5;refine zV (n:=n+F+2) (A _ _ cb bK) (by rw[t];exact y4) R8 ?_;have H:=A _ _ H bK;have cb:=A _ _ cb bK;have f6:=f3.trans A;have lx:((bq x).map aL).length=x.ps.length:=by rw[aJ,u]
 have ly:((bq y).map aL).length=y.ps.length:=by rw[aJ,t]
 have R9:((bq x).map aL).length<av:=by rw[lx];exact ax 296386383873 rfl x4
 have s:((bq y).map aL).length<av:=by rw[ly];exact ax 296386383873 rfl y4
 have e6:n+(F+3)=n+F+3:=rfl;have Z:∀c0,¬(db y=Y/\¬(V=4/\db x=Y))->py V x y=D c0->aP WD (CW (n+F+3)) (bx 8 ph) [D (aF x),D (aF y),D (.bool ay),D (.int V),D (.ref ia),D (.ref C),D (.int (b6 x)),D (.int (b6 y)),D (.int (c0:Nat)),I,I,I,I] fF (kR k):=fun c0 b hc=>by
  have gb:gB (gN V) V x y ay=match iO (gN V) V x y (fX x y ay) 6 0 c0 with|some c=>restOf (gN V) V c x y|none=>-1:=by unfold gB;rw[if_neg b,hc];rfl
  rw[gb]at U;refine⟨by decide,?_⟩;refine lU (n:=6) (fun j lc au=>Fr [] fF au/\E5 fun c v9 fv gT dq=>lc=[D (aF x),D (aF y),D (.bool ay),D (.int V),D (.ref ia),D (.ref C),D (.int (b6 x)),D (.int (b6 y)),D (.int (c:Nat)),v9,fv,gT,dq]/\iO (gN V) V x y (fX x y ay) (6-j) j c=iO (gN V) V x y (fX x y ay) 6 0 c0) ?_ ?_ ⟨.rfl,c0,I,I,I,I,rfl,rfl⟩
  .rintro lc au⟨fr,c,v9,fv,gT,dq,rfl,M⟩;rw[M.symm]at U;have U:∀au,Fr [] σ au->k (.int (if jy (gN V) V x y<0 then-1 else((c|||(jy (gN V) V x y).toNat:Nat):Int))) au:=U;rw[show n+F+3=n+1+F+2 by exact bB 0xd52d00001eb400002 rfl];refine R3 i m wx wy l2 fun O f7=>?_;have U:=U O (f6.trans (fr.trans f7));refine bD (fun q=>?_) fun q=>?_;.rw[af q]at U;exact U
   .rw[am q,<-pZ,lk (ig.mp q)]at U;exact U
  .rintro j lc au K hj⟨fr,c,v9,fv,gT,dq,rfl,M⟩hK;rw[Hh hj]at M;have E:∀{v:Nat}{kW fv gT dq}{z:Int},eW (gN V) V x y (fX x y ay) j=D v->Fr [] fF kW->z=((c|||v:Nat):Int)->K [D (aF x),D (aF y),D (.bool ay),D (.int V),D (.ref ia),D (.ref C),D (.int (b6 x)),D (.int (b6 y)),D (.int z),D (.int j),fv,gT,dq] kW:=fun{v kW fv gT dq z}e fr hz=>by subst hz;rw[e,qh]at M;exact hK _ _ ⟨fr,_,_,_,_,_,rfl,M⟩
   have fail:∀{kW},eW (gN V) V x y (fX x y ay) j=I->Fr [] fF kW->k (.int (-1)) kW:=fun{kW}e fr=>by rw[e,Option.bind_none]at M;rw[M.symm]at U;exact U _ (f6.trans fr)
   have skip:(dK (bq x) x.rest j=I\/dK (bq y) y.rest j=I)->eW (gN V) V x y (fX x y ay) j=D 0:=fun q=>by
    unfold eW;rcases q with q|q;.rw[q]
    .rw[q];cases dK (bq x) x.rest j<;>rfl
   have H:=fr _ _ H bK;have cb:=fr _ _ cb bK;refine o (rfl:fj _ _ _=D _) ?_;refine Hx (x:=x) (ia:=ia) (j:=j) (by rfl) (by rfl) (by rfl) H x4 ?_;refine o (rfl:fj _ _ _=D _) ?_;change aP WD _ _ _ _ _;refine Hx (x:=y) (ia:=C) (j:=j) (by rfl) (by rfl) (by rfl) cb y4 ?_;rcases u:dK (bq x) x.rest j with _|K1;.exact E (skip (.inl u)) fr (by rw[mq])
   rcases t:dK (bq y) y.rest j with _|K2;.clear u;obtain⟨_,_⟩:=K1;exact E (skip (.inr t)) fr (by rw[mq])
   have w1:=pz wx u;have w2:=pz wy t;have l:eW (gN V) V x y (fX x y ay) j=if dP (gN V) V K2 K1 (fX x y ay)<0 then I else if V=4/\b6 x<=j/\j<b6 y/\0<=ak V K1 K2 then I else D (dP (gN V) V K2 K1 (fX x y ay)).toNat:=by unfold eW;rw[u,t,m7 i];rfl
   have hd:∀{K:Kd},(decide (aL K=.none)==aj)=true:=fun{K}=>by obtain⟨_,_⟩:=K;rfl
   refine bt hd ?_;refine bt hd ?_;refine R6 (x:=x) (y:=y) (ay:=ay) (K:=CW (n+F+3)) (σ:=au) (lc:=[D (aF x),D (aF y),D (.bool ay),D (.int V),D (.ref ia),D (.ref C),D (.int (b6 x)),D (.int (b6 y)),D (.int (c:Nat)),D (.int j),D (aL K1),D (aL K2),dq]) (k:=fun d σ=>CW (n+F+3) 145 [aL K2,aL K1,d,.int V] σ fun v σ=>aP WD (CW (n+F+3)) (bx 1 (tF (bx 2 (z9 (bx 8 ph))))) [D (aF x),D (aF y),D (.bool ay),D (.int V),D (.ref ia),D (.ref C),D (.int (b6 x)),D (.int (b6 y)),D (.int (c:Nat)),D (.int j),D (aL K1),D (aL K2),D v] σ (lI (kR k) K)) rfl rfl rfl fun d hd=>?_;rw[show n+F+3=n+1+F+2 by exact bB 0xd52d00001eb400002 rfl];refine R1 i m w2 w1 l2 hd fun O f7=>?_;have J:=fr.trans f7;refine bD (fun q=>?_) fun q=>?_;.rw[af q]at l;exact fail l J
   rw[am q]at l;have q0:=ig.mp q;have go:∀kW,Fr [] fF kW->¬(V=4/\b6 x<=j/\j<b6 y/\0<=ak V K1 K2)->∀(z:Int),z=qd (c:Int) (dP (gN V) V K2 K1 (fX x y ay))->K [D (aF x),D (aF y),D (.bool ay),D (.int V),D (.ref ia),D (.ref C),D (.int (b6 x)),D (.int (b6 y)),D (.int z),D (.int j),D (aL K1),D (aL K2),D (.int (dP (gN V) V K2 K1 (fX x y ay)))] kW:=fun kW fr h z hz=>by rw[am h]at l;refine E l fr ?_;rw[hz,<-pZ,lk q0]
   refine bM 4 rfl (fun m4=>?_) fun m4=>go O J (fun r=>m4 r.1) _ rfl;refine bD (fun r1=>?_) fun r1=>go O J (fun r=>r1 (nA.mpr r.2.1)) _ rfl;refine bD (fun r2=>?_) fun r2=>go O J (fun r=>r2 (cw.mpr r.2.2.1)) _ rfl;rw[show n+1+F+2=n+2+F+1 by exact bB 0x2d4d400006a968000002 rfl];refine rr i m w1 w2 l2 fun HD f8=>?_;refine bD (fun r3=>?_) fun r3=>go HD (J.trans f8) (fun r=>r3 r.2.2.2) _ rfl;rw[af ⟨m4,nA.mp r1,cw.mp r2,r3⟩]at l;exact fail l (J.trans f8)
 have rest:¬(db y=Y/\¬(V=4/\db x=Y))->aP WD (CW (n+F+3)) (bx 7 ph) [D (aF x),D (aF y),D (.bool ay),D (.int V),D (.ref ia),D (.ref C),D (.int (b6 x)),D (.int (b6 y)),D (.int (0:Nat)),I,I,I,I] fF (kR k):=fun b=>by
  have X:py V x y=I->k (.int (-1)) fF:=fun e=>by
   have:gB (gN V) V x y ay=-1:=by unfold gB;rw[am b,e];rfl
   rw[this]at U;exact U fF f6
  unfold py at X Z;apply o (tD y);rcases hr:y.rest with _|m'
  .rw[hr]at X Z;apply p (dv cb s);rw[ly];refine bD (fun q=>X (af (cw.mp q))) fun q=>?_;have q:¬b6 x>y.ps.length:=fun r=>q (cw.mpr r);dsimp only at X Z;rw[am q]at X Z;have w:(x.rest.isSome=Y\/x.ps.length>y.ps.length)->br (decide ((V:Int)=4)) (k (.int (-1)) fF) (aP WD (CW (n+F+3)) (bx 8 ph) [D (aF x),D (aF y),D (.bool ay),D (.int V),D (.ref ia),D (.ref C),D (.int (b6 x)),D (.int (b6 y)),D (.int (4:Nat)),I,I,I,I] fF (kR k)):=fun r=>by
    rw[af r]at X Z;refine bM 4 rfl (fun m4=>?_) fun m4=>?_;.rw[af m4]at X;exact X rfl
    .rw[am m4]at Z;exact Z 4 b rfl
   apply o (tD x);rcases hx:x.rest with _|mx;.apply p (dv H R9);apply p (dv cb s);rw[lx,ly];refine bD (fun r=>w (.inr (cw.mp r))) fun r=>?_;rw[am fun a=>a.elim (fun a=>by rw[hx]at a;cases a) fun a=>r (cw.mpr a)]at Z;exact Z 0 b rfl
   exact w (.inl (by rw[hx];rfl))
  rw[hr]at Z;dsimp only at Z;apply p (dv cb s);rw[ly];refine bD (fun q=>?_) fun q=>?_;.rw[af (cw.mp q)]at Z;exact Z 4 b rfl
  .rw[am fun r=>q (cw.mpr r)]at Z;exact Z 0 b rfl
 refine zZ (n:=n+F+2) wy l2 ?_;rcases ty:db y with _|_;.exact rest fun q=>nomatch ty.symm.trans q.1
 have bV:¬(V=4/\db x=Y)->aP WD (CW (n+F+3)) (.cons (.ret (.ite (.ex (.ad (.ad (.var 1) (.lit (.int 2))) (.lit (.int 0)))) (.lit (.int 1)) (.ite (.ex (.ah .gt (.var 6) (.lit (.int 0)))) (.lit (.int 4)) (.lit (.int 0))))) .nil) [D (aF x),D (aF y),D (.bool ay),D (.int V),D (.ref ia),D (.ref C),D (.int (b6 x)),D (.int (b6 y)),D (.int (0:Nat)),I,I,I,I] fF (kS (aP WD (CW (n+F+3)) (bx 7 ph)) (kR k)):=fun h=>by
  have U:=U fF f6;unfold gB at U;rw[af ⟨ty,h⟩]at U;apply o (tD y);rcases hr:y.rest with _|m';.unfold db at ty;rw[hr]at ty;cases ty
  rw[hr]at U;rcases m' with _|m'
  .have U:k (.int (if b6 x>0 then 4 else 0)) fF:=U;refine bD (fun q=>?_) fun q=>?_;.rw[af (l8.mp q)]at U;exact U
   .rw[am fun r=>q (l8.mpr r)]at U;exact U
  exact U
 refine bM 4 rfl (fun m4=>?_) fun m4=>bV fun q=>m4 q.1;refine zZ (n:=n+F+2) wx l2 ?_;rcases tx:db x with _|_;.exact bV fun q=>nomatch tx.symm.trans q.2
 exact rest fun q=>q.2 ⟨m4,tx⟩
theorem HE(J:V=3\/V∈[1,2,4]):oC V 12 2:=by
 by_cases e:V=3;.clear J;subst e;intro n x y ay σ k Z X U;exact R5 (n:=n+5) Z X (aE 2) U
 have H:oC V 4 0:=by intro n x y ay σ k Z X U;exact Aa (F:=0) (n:=n) e (fun _ q=>by cases q) Z X (by decide) U
 have g1:oC V 8 1:=by intro n x y ay σ k Z X U;exact Aa (F:=4) (n:=n) e (fun Q q=>by cases q;exact H) Z X (by decide) U
 intro n x y ay σ k Z X U;exact Aa (F:=8) (n:=n) e (fun Q q=>by cases q;exact g1) Z X (by decide) U
end
structure Dr(nc ac a1 B:Nat)(σ:AH):Prop where
p5:∃ns:List Int,σ[nc]?=D (.list (ns.map .int))/\0<ns.length/\ns.length<=63
cur:∃i:Nat,σ[ac]?=D (.list [.int i,.int a1])/\i+B<2^50
na:nc≠ac
a0:ac≠0
section
theorem Dr.le(h:Dr nc ac a1 B σ)(l:B'<=B):Dr nc ac a1 B' σ:={h with cur:=(by obtain⟨i,a,b⟩:=h.cur;exact⟨i,a,n9 0xb5e80086f5082d5a0001 rfl l b⟩)}
theorem Dr.fr(h:Dr nc ac a1 B σ)(f:Fr O σ au)(Z:nc∉O)(X:ac∉O):Dr nc ac a1 B au:={h with p5:=(by obtain⟨ns,a,b⟩:=h.p5;exact⟨ns,f _ _ a Z,b⟩),cur:=(by obtain⟨i,a,b⟩:=h.cur;exact⟨i,f _ _ a X,b⟩)}
theorem Dr.fV(h:Dr nc ac a1 B σ)(f:Fr [] σ au):Dr nc ac a1 B au:=h.fr f bK bK
theorem Dr.lt(h:Dr nc ac a1 B σ):ac<σ.length:=(by obtain⟨_,a,_⟩:=h.cur;exact(bp.mp a).1)
theorem fa(h:Dr nc ac a1 (B+1) σ)(hm:0<m)(hk:∀(r:Nat)au,r<m->Dr nc ac a1 B au->Fr [ac] σ au->k (.int r) au):CW (n+1) 131 [.ref nc,.ref ac,.int m] σ k:=by
 refine cps fun P hP=>?_;obtain⟨ns,hn,n0,Ab⟩:=h.p5;obtain⟨i,ha,hi⟩:=h.cur;refine hP ?_;have nl:(ns.map aa.int).length<av:=by rw[aJ];exact ax 0x7e20d02015001 rfl Ab
 refine NW ?_;apply o ((hQ (d:=.int 0) ha).trans (gI (i:=0) rfl (show 2<av by decide)));apply o (show i6 σ ac (.int 0) (.int ((i:Int)+1))=D (σ.set ac (.list [.int ((i:Int)+1),.int a1]))by show(match σ[ac]? with|some (.dict es)=>_|some (.list xs)=>_|_=>I)=_;rw[ha];show(if(Y&&Y&&Y&&decide (2<av)&&ac !=0)=Y then _ else _)=_;rw[aN (show 2<av by decide),fy.mpr h.a0];rfl);have p6:=bm (o':=.list [.int ((i:Int)+1),.int a1]) hn h.na.symm;have HF:=eV (o':=.list [.int ((i:Int)+1),.int a1]) ha;have f:Fr [ac] σ (σ.set ac (.list [.int ((i:Int)+1),.int a1])):=Fr.rfl.set aW;generalize σ.set ac (.list [.int ((i:Int)+1),.int a1])=au at p6 HF f;apply p ((dv p6 nl).trans (by rw[aJ]));have kp:(0:Int)<ns.length:=l8.mpr n0;have at':∀{j:Nat},j<ns.length->∃z:Int,cZ au (.ref nc) (.int j)=D (.int z):=fun{j}hj=>⟨ns[j],(hQ (d:=.int j) p6).trans (gI (by rw[gm,dL hj];rfl) nl)⟩;refine cps fun P hP=>?_;obtain⟨z0,h0⟩:=at' (j:=0) n0;obtain⟨z1,h1⟩:=at' (j:=i%ns.length) (BA _ n0);refine hP ?_;have e1:qA .mod i ns.length=D ((i%ns.length:Nat):Int):=af kp;have e2:qA .fdiv i ns.length=D ((i/ns.length:Nat):Int):=af (by rewrite[aN kp,aN (by exact ax 0x3f1068107735940060d009 rfl Ab)];rfl);apply p (show lB .mod au (.int i) (.int ns.length)=D (.int (i%ns.length:Nat),au)by show(qA .mod i ns.length).map _=_;rw[e1];rfl);apply o h1;apply p (show lB .fdiv au (.int i) (.int ns.length)=D (.int (i/ns.length:Nat),au)by show(qA .fdiv i ns.length).map _=_;rw[e2];rfl);apply o h0;have sm:small ((i/ns.length:Nat):Int)=true:=by have dl:=Nat.div_le_self i ns.length;generalize i/ns.length=q at dl;exact Bu (dM dl (dM (b8 _ _) (gY hi (by decide+kernel))))
 have e3:∀z:Int,lB .mul au (.int (i/ns.length:Nat)) (.int z)=D (.int ((i/ns.length:Nat)*z),au):=fun z=>by show(if(small _||small z)=Y then D _ else I).map _=_;rw[sm];rfl
 apply p (e3 _);have mp:(0:Int)<m:=l8.mpr hm;have e4:∀z:Int,lB .mod au (.int z) (.int m)=D (.int (z%m),au):=fun z=>by show(if 0<(m:Int)then D (z%m)else I).map _=_;rw[af mp];rfl
 apply p (e4 _);have nn:∀z:Int,z%(m:Int)=((z%m).toNat:Int):=fun z=>(lk (Int.emod_nonneg _ (ax 691524489230 rfl hm))).symm;have lt:∀z:Int,(z%(m:Int)).toNat<m:=fun z=>by exact cw.mp (by rw[<-nn z];exact Int.emod_lt_of_pos z mp)
 rw[nn];exact hk _ au (lt _) (⟨⟨ns,p6,n0,Ab⟩,⟨i+1,HF,da 0xb16a0a0021b54b400001 rfl hi⟩,h.na,h.a0⟩) f
end
noncomputable def wd:List Nat:=[4,32,1,3,8,36,192,256,512,260,2048,4096,0,1024,1536,24,64,33]
theorem Sa:∀m∈wd,m<8192/\c4 m=m:=by decide+kernel
theorem HG{i:Nat}(h:i<18):∃m:Nat,cZ σ (.ab (wd.map fun(m:Nat)=>aa.int m)) (.int i)=D (.int m)/\Nm m:=by have hi:i<wd.length:=h;refine⟨wd[i],?_,Sa _ (xz hi)⟩;exact gI (by rw[gm,dL hi];rfl) (show 18<av by decide)
noncomputable def lV:Nat->Kd->Prop|0,_=>True|n+1,.mk _ s=>∀x,s=D x->x.ps.length<=1/\(∀p∈x.ps,lV n p.1)/\lV n x.res
def HH(n:Nat)(x:Sg):Prop:=(∀p∈x.ps,lV n p.1)/\lV n x.res
theorem HI:∀{ps:List (Kd×Bool)}{t:Nat},(∀i q,ps[i]?=D q->q.2=decide (t<=i))->fD ps=true:=by intro ps;induction ps with|nil=>intro _ _;exact rfl|cons U r J=>
obtain⟨K,o1⟩:=U;intro t h;have Z:=h 0 _ rfl;have X:∀i q,r[i]?=D q->q.2=decide (t-1<=i):=fun i q e=>(h (i+1) q e).trans (iF.mpr Nat.sub_le_iff_le_add.symm);show((!o1||r.all (·.2))&&fD r)=Y;rw[J X,lh];have Z:o1=decide (t<=0):=Z;by_cases q:t<=0;.rw[show r.all (·.2)=Y from fR.mpr fun p H=>by obtain⟨i,hi⟩:=K0 H;rw[X i p hi,aN (bj (qi t 1) (bj q (bQ i)))],KN]
.rw[Z,bS q];rfl
theorem HJ:∀{ps U:List (Kd×Bool)},ps.map (·.2)=U.map (·.2)->fD ps=fD U
|[],[],_=>rfl|[],_::_,h=>nomatch h|_::_,[],h=>nomatch h|(K,o1)::r,(E,o2)::q,h=>by
 injection h with Z J;have Z:o1=o2:=Z;have H:∀l:List (Kd×Bool),l.all (·.2)=(l.map (·.2)).all id:=fun l=>by rw[KD];rfl
 have O:r.all (·.2)=q.all (·.2):=by rw[H,H,J]
 show((!o1||r.all (·.2))&&fD r)=((!o2||q.all (·.2))&&fD q);rw[Z,O,HJ J]
noncomputable def kB:Nat->Nat|0=>1|n+1=>1+(4*kB n+12)
noncomputable def sB(n:Nat):Nat:=4*kB n+12
def jF(nc ac a1 md F L:Nat):Prop:=∀⦃n B:Nat⦄⦃σ:AH⦄⦃k:Po⦄,Dr nc ac a1 (B+kB L) σ->(∀K Z,aT md L K->lV L K->Dr nc ac a1 B Z->Fr [ac] σ Z->k (aL K) Z)->CW (n+F) 134 [.ref nc,.ref ac,.int (2-L:Nat)] σ k
def Ac(nc ac a1 md F L:Nat):Prop:=∀⦃n B:Nat⦄⦃σ:AH⦄⦃k:Po⦄,Dr nc ac a1 (B+sB L) σ->(∀x Z,bo md L x->HH L x->(L<2->x.ps.length<=1)->x.ps.length<=3->(2<=L->1<=x.ps.length)->Dr nc ac a1 B Z->Fr [ac] σ Z->k (aF x) Z)->CW (n+F) 136 [.ref nc,.ref ac,.int (2-L:Nat)] σ k
section
theorem Sb(h:m∈[0,512,256]):Nm m/\m<2048:=by have:=(by decide+kernel:∀m∈[0,512,256],(m<8192/\c4 m=m)/\m<2048) m h;exact this
theorem Ae(l2:L<=2)(Q:∀Z,L=Z+1->Ac nc ac a1 md F Z):jF nc ac a1 md (F+2) L:=by
 intro n B σ k h C;refine NZ ?_;have A:1<=kB L:=by induction L using nM with|zero=>exact aE 1|succ L=>exact b8 1 _
 have g:Dr nc ac a1 (B+(kB L-1)+1) σ:=h.le (gF (by rw[eL,rT A]));refine fa (n:=n+F) (m:=22) g (by decide) fun r bY O J M=>?_;have U:∀m,Nm m->k (.ab [.int m,.none]) bY:=fun m X=>C (.mk m I) bY (mY X) (by induction L using nM with|zero=>exact trivial|succ L=>exact fun x e=>nomatch e) (J.le (b8 _ _)) M;obtain⟨m,e1,e2⟩:=HG (σ:=bY) (BA r (show 0<18 by decide));refine bD (fun q=>?_) fun q=>?_;.apply o e1;exact U m e2
 refine bD (fun K=>?_) fun K=>?_;.apply o e1;exact U m e2
 rcases L with _|Z;.exact ae (by decide) K
 have hi:∃m:Nat,m∈[0,512,256]/\cZ bY (.ab [.int 0,.int 0,.int 512,.int 256]) (.int ((r:Int)-18))=D (.int m):=by
  obtain⟨r,rfl⟩:=so (g9.mp fun a=>q (cw.mpr a):18<=r);have O:r<4:=Nat.lt_of_add_lt_add_right O;clear e1 q;induction r,O using qJ;.exact⟨0,by decide,rfl⟩
  .exact⟨0,by decide,rfl⟩
  .exact⟨512,by decide,rfl⟩
  .exact⟨256,by decide,rfl⟩
 obtain⟨m,X,e3⟩:=hi;have X:=Sb X;apply o e3;have j:(((2-(Z+1):Nat):Int)+1)=((2-Z:Nat):Int):=(aI ko (mJ l2)).symm;show CW (n+F+1) 136 [.ref nc,.ref ac,.int (((2-(Z+1):Nat):Int)+1)] bY _;rw[j,show n+F+1=n+1+F by exact bB 0xa9680016b400002 rfl];have J:Dr nc ac a1 (B+sB Z) bY:=J.le (eP (gF (xv _ _).symm) B);refine Q Z rfl J fun x E d u H _ _ w v=>?_;have H:=H (ax 0xc5a002035001 rfl l2);exact C (.mk m (D x)) E ⟨X.1,fun f e=>by cases e;exact⟨⟨X.2,lj H⟩,d⟩⟩ (fun f e=>by cases e;exact⟨H,u⟩) w (M.trans v)
theorem HK(h:Dr nc ac a1 (B+3) σ)(K:∀p J,(∀a q b,p=D (a,q,b)->-1<=a/\a<1/\0<=b/\b<2/\∀m,q=D m->Nm m)->Dr nc ac a1 B J->Fr [ac] σ J->k (dG p) J):CW (n+2) 135 [.ref nc,.ref ac] σ k:=by
 refine N0 ?_;refine fa (n:=n) (m:=6) h (by decide) fun r X u Q O=>?_;refine bD (fun q=>?_) fun q=>?_;.exact K I X (fun _ _ _ e=>nomatch e) (Q.le (aB 222318592 rfl)) O
 have e2:lB .mod X (.int r) (.int 2)=D (.int (r%2:Nat),X):=rfl;have U:∀(o1:Option Nat)Z,(∀m,o1=D m->Nm m)->Dr nc ac a1 (B+1) Z->Fr [ac] σ Z->aP WD (CW (n+1)) (bx 3 xZ) [D (.ref nc),D (.ref ac),D (.int r),D (eO o1)] Z (kR k):=fun o1 Z A E C=>by refine fa (n:=n) (m:=2) E (by decide) fun M L H g j=>?_;exact K (D ((M:Int)-1,o1,((r%2:Nat):Int))) L (fun a q b e=>by cases e;exact⟨Int.sub_le_sub_right (hZ M) 1,Int.sub_lt_sub_right (cw.mpr H) 1,aB 659464 rfl,cw.mpr (BA _ (fg 1)),A⟩) g (C.trans j)
 refine bD (fun d=>?_) fun d=>?_;.exact U I X (fun _ e=>nomatch e) (Q.le (aB 227639164928 rfl)) O
 .refine fa (n:=n) (m:=18) Q (by decide) fun M Z H E C=>?_;obtain⟨m,e1,e3⟩:=HG (σ:=Z) H;apply o e1;exact U (D m) Z (fun m' e=>by cases e;exact e3) E (O.trans C)
end
section
theorem Af(h:Dr nc ac a1 B σ):cZ σ (.ref ac) (.int 1)=D (.int a1):=by obtain⟨i,Z,_⟩:=h.cur;exact(hQ (d:=.int 1) Z).trans (gI (i:=1) rfl (show 2<av by decide))
theorem we(h:σ[i]?=D (.list xs))(Z:xs.length<av):iI .tuple σ [.ref i]=D (.ab xs,σ):=by show(((nY _ _).bind _:Option aa).map _)=_;rw[eA h,qh,af Z];rfl
theorem Ag(l2:L<=2)(Ah:md=3->a1≠0)(kd:jF nc ac a1 md F L)(k0:jF nc ac a1 md F 0):Ac nc ac a1 md (F+3) L:=by
 intro n B σ k h hk;refine N3 ?_;have z:∀(U:Nat)Q,U<=3->(L<2->U<=1)->(2<=L->1<=U)->Dr nc ac a1 (B+(4*kB L+11)) Q->Fr [ac] σ Q->aP WD (CW (n+F+2)) (bx 1 qF) [D (.ref nc),D (.ref ac),D (.int (2-L:Nat)),D (.int U),I,I,I,I,I,I,I,I] Q (kR k):=fun U Q t c1 c2 d1 f1=>by
  refine fa (n:=n+F+1) (m:=U+1) (B:=B+(4*kB L+10)) d1 (fg U) fun wt H hw d2 f2=>?_;have A:H.length≠ac:=fun e=>by have:=d2.lt;exact b5 0xa5421ad02221003 rfl e this
  have HL:H.length≠nc:=fun e=>by obtain⟨ns,a,_⟩:=d2.p5;have:=(bp.mp a).1;exact b5 0xa5421ad02221003 rfl e this
  have HM:H.length≠0:=fun e=>by have:=d2.lt;exact b5 0xa54212502221003 rfl e this
  have new:σ[H.length]?=none:=jo ((f1.trans f2).len fun i hi=>by rw[ba.mp hi];exact d2.lt);have Z:(H++[.list []])[H.length]?=D (.list (([]:List (Kd×Bool)).map cy)):=aS;have d3:=d2.fV (Fr.new (g:=[.list []]));have f3:Fr [ac] σ (H++[.list []]):=f1.trans (f2.trans .new);refine⟨by rw[jw (i:=U) (ax 262026645505 rfl t),aN (by exact ax 0x7a041e848040d009 rfl t)];rfl,?_⟩;rw[ic];generalize H.length=pc at Z A HL HM new⊢;generalize H++[AO.list []]=eh at Z d3 f3⊢;refine lU (fun j lc l=>E2 fun(ps:List (Kd×Bool))(v6:Option aa)=>A7 (lc=[D (.ref nc),D (.ref ac),D (.int (2-L:Nat)),D (.int U),D (.int wt),D (.ref pc),v6,I,I,I,I,I]) (ps.length=j) (l[pc]?=D (.list (ps.map cy))) (Dr nc ac a1 (B+10+kB L+(U-j)*kB L) l) (Fr [ac] σ l) (∀p∈ps,aT md L p.1/\lV L p.1) (∀i q,ps[i]?=D q->q.2=decide (U-wt<=i))) ?_ ?_ ⟨[],I,rfl,rfl,Z,d3.le (by rw[Nat.sub_zero];exact da 0x2a31d8207548305016aba8000000 rfl (uk _ t)),f3,fun _ q=>ae q bK,fun i q e=>by cases e⟩
  .rintro lc u⟨ps,v6,rfl,J,Z,d4,f4,w,x⟩;rw[jN,rR,K4]at d4;refine fa (n:=n+F+1) (m:=6) (d4.le (B':=B+9+kB L+1) (bB 0x2aea0005ab68000000 rfl)) (by decide) fun sh E HN d5 f5=>?_;have O:∀(rest:Option Nat)(sp:Nat)X,sp<=U->(∀m,rest=D m->Nm m)->(md=3->rest=I/\sp=U)->Dr nc ac a1 (B+7+kB L) X->Fr [ac] u X->aP WD (CW (n+F+2)) (bx 8 qF) [D (.ref nc),D (.ref ac),D (.int (2-L:Nat)),D (.int U),D (.int wt),D (.ref pc),v6,D (eO rest),D (.int sp),D (.int sh),I,I] X (kR k):=fun rest sp X Sc Sd sC d6 f6=>by
    have e2:n+F+2=n+2+F:=bB 0xa9a8001ab400002 rfl;rw[e2];refine kd d6 fun res sW wr nr d7 f7=>?_;rw[e2.symm];refine HK (n:=n+F) (d7.le (B':=B+1+3) (aB 409026030469120 rfl)) fun pr HD Sf d8 f8=>?_;have HO:=f6.trans (f7.trans f8);have lt:(ps.map cy).length<av:=by rw[aJ,J];exact ax 262026645505 rfl t
    apply p (we (HO _ _ Z (fun q=>A (ba.mp q))) lt);refine fa (n:=n+F+1) (m:=6) d8 (by decide) fun r HP f d9 f9=>?_;have Ai:∃fl:Nat,fl<8/\cZ HP (.ab [.int 0,.int 0,.int 1,.int 0,.int 2,.int 5]) (.int r)=D (.int fl):=by
     induction r,f using EQ;.exact⟨0,by decide,rfl⟩
     .exact⟨0,by decide,rfl⟩
     .exact⟨1,by decide,rfl⟩
     .exact⟨0,by decide,rfl⟩
     .exact⟨2,by decide,rfl⟩
     .exact⟨5,by decide,rfl⟩
    obtain⟨fl,Ai,e⟩:=Ai;apply o e;rw[kf.symm];exact hk ⟨ps,sp,rest,res,pr,fl⟩ HP ⟨⟨fun q=>(by obtain⟨a,b⟩:=sC q;exact⟨a,b.trans J.symm⟩),by show ps.length<=4;exact b5 0xad0223d42045000 rfl t J,by show sp<=ps.length;exact pn 0xb5020b5432ad000 rfl J Sc,HI x,Sd,Sf,Ai⟩,fun p y=>(w p y).1,wr⟩ ⟨fun p y=>(w p y).2,nr⟩ (fun q=>by show ps.length<=1;exact J▸c1 q) (by show ps.length<=3;exact b5 0xad0223d4203d000 rfl t J) (fun q=>by show 1<=ps.length;exact J▸c2 q) d9 (f4.trans (HO.trans f9))
   apply o (Af d5);refine fG 0 rfl (fun q0=>?_) fun q0=>O I U E (aE _) (fun _ e=>nomatch e) (fun _=>⟨rfl,rfl⟩) (d5.le (bB 0xab6800557400000 rfl)) f5;have n3:md≠3:=fun e=>Ah e q0;refine bD (fun q1=>?_) fun q1=>O I U E (aE _) (fun _ e=>nomatch e) (fun q=>ae q n3) (d5.le (bB 0xab6800557400000 rfl)) f5;have c:∀(rest:Option Nat)X,(∀m,rest=D m->Nm m)->Dr nc ac a1 (B+8+kB L) X->Fr [ac] u X->aP WD (CW (n+F+2)) (bx 1 (tF (bx 7 qF))) [D (.ref nc),D (.ref ac),D (.int (2-L:Nat)),D (.int U),D (.int wt),D (.ref pc),v6,D (eO rest),D (.int U),D (.int sh),I,I] X (kS (aP WD (CW (n+F+2)) (bx 8 qF)) (kR k)):=fun rest X f d6 f6=>by refine fG 1 rfl (fun _=>?_) fun _=>O rest U X (aE _) f (fun q=>ae q n3) (d6.le (bB 0xab2800557400000 rfl)) f6;refine fa (n:=n+F+1) (m:=U+1) (d6.le (B':=B+7+kB L+1) (bB 0x2aca0005aae8000000 rfl)) (fg U) fun sp sW hs d7 f7=>?_;exact O rest sp sW (aC 0xb505021ad000 rfl hs) f (fun q=>ae q n3) d7 (f6.trans f7)
   refine bD (fun q2=>?_) fun q2=>c I E (fun _ e=>nomatch e) (d5.le (bB 0xab6800559400000 rfl)) f5;rw[show n+F+2=n+2+F by exact bB 0xa9a8001ab400002 rfl];refine k0 (d5.le (B':=B+8+kB L+1) (bB 0x2ada0005ab28000000 rfl)) fun K X wk _ d6 f6=>?_;rw[show n+2+F=n+F+2 by exact bB 0x35680054d400002 rfl];obtain⟨m,s⟩:=K;obtain⟨hm,rfl⟩:=wk;exact c (D m) X (fun m' e=>by cases e;exact hm) d6 (f5.trans f6)
  .rintro j lc u K hj⟨ps,v6,rfl,J,Z,d4,f4,w,x⟩hK;have e2:n+F+2=n+2+F:=bB 0xa9a8001ab400002 rfl;rw[e2];rw[mJ hj,oT,rS,<-eL]at d4;refine kd d4 fun C E wk nk d5 f5=>?_;have M:=f5 _ _ Z (fun q=>A (ba.mp q));have cp:∀o1:Bool,o1=decide (U-wt<=j)->dt WD (CW (n+2+F)) 0 pc u E [cy (C,o1)] fun d σ=>br (iJ d) (K [D (.ref nc),D (.ref ac),D (.int (2-L:Nat)),D (.int U),D (.int wt),D (.ref pc),D (.int j),I,I,I,I,I] σ) False:=fun o1 ho=>by
    apply o Z;apply o (eA M);apply p (gy (v:=cy (C,o1)) (by rw[aJ,J];exact b5 0xad0213d42015001 rfl t hj) HM);have em:ps.map cy++[cy (C,o1)]=(ps++[(C,o1)]).map cy:=by rw[g7];rfl
    rw[em];refine hK _ _ ⟨ps++[(C,o1)],_,rfl,by rw[aU,J];rfl,eV M,d5.fr (Fr.rfl.set aW) (fun q=>?_) (fun q=>A (ba.mp q).symm),?_,fun p y=>?_,fun i q e=>?_⟩;.exact HL (ba.mp q).symm
    .exact(f4.trans f5).kI new
    .rcases dI.mp y with y|y;.exact w p y
     .rw[ba.mp y];exact⟨wk,nk⟩
    .by_cases r:i<ps.length;.rw[ib r]at e;exact x i q e
     .have hi:i=ps.length:=by have:=(bp.mp e).1;rw[aU,qg]at this;exact fx (aC 0xb505021ad000 rfl this) (aC 709782851584 rfl r)
      clear r;subst hi;rw[jM (aE _),jN]at e;cases e;rw[J];exact ho
   refine bD (fun q=>?_) fun q=>?_;.exact cp aj (bS (xp.mpr (cw.mp (by rw[BP (oU hw)];exact q)))).symm
   .exact cp Y (aN (kt fun r=>q (by rw[<-BP (oU hw)];exact cw.mpr r))).symm
 refine fG 0 rfl (fun q=>?_) fun q=>?_;.refine fa (n:=n+F+1) (m:=3) (B:=B+(4*kB L+11)) h (by decide) fun r Q f d1 f1=>?_;exact z (r+1) Q (ax 0xf4084e5a0000 rfl f) (fun a=>ae a (g9.mpr (K6 q))) (fun _=>fg r) d1 f1
 .refine fa (n:=n+F+1) (m:=2) (B:=B+(4*kB L+11)) h (by decide) fun r Q f d1 f1=>?_;exact z r Q (ax 227668119552 rfl f) (fun _=>oU f) (fun a=>ae (xA a) q) d1 f1
end
noncomputable def tB:Nat->Nat|0=>2|n+1=>1+kB (n+1)+(4*tB n+20)
noncomputable def vB(n:Nat):Nat:=4*tB n+20
def jf(nc ac a1 md F L:Nat):Prop:=∀⦃n B:Nat⦄⦃σ:AH⦄⦃k:Po⦄⦃K:Kd⦄,Dr nc ac a1 (B+tB L) σ->aT md L K->lV L K->(∀X Z,aT md L X->Dr nc ac a1 B Z->Fr [ac] σ Z->k (aL X) Z)->CW (n+F) 137 [.ref nc,.ref ac,aL K,.int (2-L:Nat)] σ k
def Aj(nc ac a1 md F L:Nat):Prop:=∀⦃n B:Nat⦄⦃σ:AH⦄⦃k:Po⦄⦃x:Sg⦄,Dr nc ac a1 (B+vB L) σ->bo md L x->HH L x->x.ps.length<=3->(∀y Z,bo md L y->y.ps.length<=x.ps.length+1->Dr nc ac a1 B Z->Fr [ac] σ Z->k (aF y) Z)->CW (n+F) 138 [.ref nc,.ref ac,aF x,.int (2-L:Nat)] σ k
theorem Sh:∀m,m<8192->decide (c4 m=m->c4 (m&&&(m-1))=m&&&(m-1))=true:=kN (by decide+kernel)
theorem Sj:∀m:Nat,km (m:Int) ((m:Int)-1)=((m&&&(m-1):Nat):Int):=by intro m;induction m with|zero=>exact rfl|succ m Z=>rw[pj];exact zP (m+1) m
section
theorem Ak(l2:L<=2)(b:jF nc ac a1 md F L)(l:∀X,L=X+1->Aj nc ac a1 md F X):jf nc ac a1 md (F+3) L:=by
 intro n B σ k K h U z O;have c:2<=tB L:=by induction L using nM with|zero=>exact aE 2|succ L=>show 2<=1+kB (L+1)+(4*tB L+20);exact bB 0x2810d483050a001800 rfl
 have i:kB L+1<=tB L:=by induction L using nM with|zero=>exact aE 2|succ L=>show kB (L+1)+1<=1+kB (L+1)+(4*tB L+20);exact bB 0xa043520c1428005a0000 rfl
 refine N4 ?_;refine fa (n:=n+F+1) (m:=7) (B:=B+(tB L-1)) (h.le (gF (by rw[eL,rT (Kz c)]))) (by decide) fun r bY a E C=>?_;refine fG 3 rfl (fun q=>?_) fun q3=>?_
 .refine fa (n:=n+F+1) (m:=12) (B:=B) (E.le (eP (ut c) B)) (by decide) fun J Z M A g=>?_;have e:lB .shl Z (.int 1) (.int J)=D (.int (2^J:Nat),Z):=by show(if(decide ((0:Int)<=J)&&decide ((J:Int)<60)&&small 1)=Y then D (1*2^(J:Int).toNat)else I).map _=_;rw[aN (show(0:Int)<=J by exact aB 659464 rfl),aN (show(J:Int)<60 by exact ax 0x4281087820d009 rfl M),af (show(Y&&Y&&small 1)=Y from rfl),ic,Int.one_mul];show D (aa.int (2^J),Z)=D (aa.int ((2^J:Nat):Int),Z);rw[Ze];rfl
  apply p e;exact Hv (n:=n+F) (O _ Z (Ff (xn (n:=13) (by decide) (ax 571265830913 rfl M)) U) A (C.trans g))
 refine fG 4 rfl (fun q=>?_) fun q4=>?_
 .clear z;obtain⟨m,s⟩:=K;have wl:aT md L (.mk (m&&&(m-1)) s):=by
   have u:=U.nm;have t:Nm (m&&&(m-1)):=⟨dM uq u.1,cK (Sh m u.1) u.2⟩;rcases L with _|L;.exact⟨t,U.2⟩
   exact⟨t,fun x e=>⟨⟨dM uq (U.2 x e).1.1,(U.2 x e).1.2⟩,(U.2 x e).2⟩⟩
  have:=O _ bY wl (E.le (bB 725635072 rfl)) C;show k (.ab [.int (km (m:Int) ((m:Int)-1)),oe s]) bY;rw[Sj];exact this
 have H:CW (n+F+2) 134 [.ref nc,.ref ac,.int (2-L:Nat)] bY k:=by rw[show n+F+2=n+2+F by exact bB 0xa9a8001ab400002 rfl];exact b (E.le (B':=B+kB L) (eP (ut i) B)) fun K' Z w _ A g=>O K' Z w A (C.trans g)
 have same:k (aL K) bY:=O K bY U (E.le (bB 725635072 rfl)) C;have Q:br (decide ((r:Int)>4)) (CW (n+F+2) 134 [.ref nc,.ref ac,.int (2-L:Nat)] bY k) (k (aL K) bY):=bD (fun _=>H) fun _=>same;clear same;obtain⟨m,s⟩:=K;rcases s with _|x;.exact fG 5 rfl (fun q=>by clear a q3 q4 Q;subst q;exact H) fun _=>Q
 refine fG 5 rfl (fun q=>?_) fun _=>Q;rcases L with _|X;. (have h:=U.2;contradiction)
 have w:=U.2 x rfl;have d:=z x rfl;have ed:(((2-(X+1):Nat):Int)+1)=((2-X:Nat):Int):=(aI ko (mJ l2)).symm;have tv:1+kB (X+1)+vB X=tB (X+1):=rfl;obtain⟨ps,sp,rest,v,j,fl⟩:=x;show CW (n+F+2) 138 [.ref nc,.ref ac,aF ⟨ps,sp,rest,v,j,fl⟩,.int (((2-(X+1):Nat):Int)+1)] bY _;rw[ed,show n+F+2=n+2+F by exact bB 0xa9a8001ab400002 rfl];have l1:ps.length<=1:=d.1;refine l X rfl (E.le (eP (ut (by rw[tv.symm,nz (vB X) 1];exact ur (b8 1 _) _)) B)) w.2 ⟨d.2.1,d.2.2⟩ (by show ps.length<=3;exact ax 193307332608 rfl d.1) fun y Z wy f A g=>?_;have f:y.ps.length<=ps.length+1:=f;exact O (.mk m (D y)) Z ⟨U.1,fun x' e=>by cases e;exact⟨⟨w.1.1,bj f (mi l1)⟩,wy⟩⟩ A (C.trans g)
end
structure Vr(md L N:Nat)(ps:List (Kd×Bool)):Prop where
wf:∀p∈ps,aT md L p.1
aq:fD ps=Y
len:ps.length<=N
structure Vo(md:Nat)(len sp:Nat)(rest:Option Nat):Prop where
le:sp<=len
nm:∀m,rest=D m->Nm m
pl:md=3->rest=I/\sp=len
def rs(p:Option (Int×Option Nat×Int)):Prop:=∀a q b,p=D (a,q,b)->-1<=a/\a<1/\0<=b/\b<2/\∀m,q=D m->Nm m
section
variable{wh:Bool}
noncomputable abbrev iy(nc ac L:Nat)(x:Sg)(sp:Nat)(rest:Option Nat)(Z:Kd)(X:Option (Int×Option Nat×Int))(U c rc:Nat)(wh:Bool)(cQ dx cX c5 eo:Option aa):Lc:=[D (.ref nc),D (.ref ac),D (aF x),D (.int (2-L:Nat)),D (.ab (fC x.ps)),D (.int sp),D (eO rest),D (aL Z),D (dG X),D (.int U),D (.int c),D (.ref rc),D (.bool wh),cQ,dx,cX,c5,eo]
theorem Sk(l2:L<=2)(i:N<=4)(tr:jf nc ac a1 md F L)(A:Vr md L N ps)(g:Vo md ps.length sp rest)(M:rs U)(j:H<8)(Q:aT md L Z)(nr:lV L Z)(hd:Dr nc ac a1 (B+(tB L+8)) σ)(K:σ[rc]?=D (.list (ps.map cy)))(u:rc≠ac)(hk:∀y X,bo md L y->y.ps.length<=N->Dr nc ac a1 B X->Fr [ac] σ X->k (aF y) X):aP WD (CW (n+F+2)) (bx 10 gx) (iy nc ac L x sp rest Z U H c rc wh cQ dx cX c5 eo) σ (kR k):=by
 have e2:n+F+2=n+2+F:=bB 0xa9a8001ab400002 rfl;have w:=A.len;rw[e2];refine tr (B:=B+8) (by rw[eL,nz 8];exact hd) Q nr fun Z bY Q d1 h=>?_;rw[e2.symm];have lt:(ps.map cy).length<av:=by rw[aJ];exact b5 0xad0204542015001 rfl i w
 have ret:∀(Z:Kd)(U:Option (Int×Option Nat×Int))(H:Nat)X,aT md L Z->rs U->H<8->Dr nc ac a1 B X->Fr [ac] σ X->aP WD (CW (n+F+2)) (bx 14 gx) (iy nc ac L x sp rest Z U H c rc wh cQ dx cX c5 eo) X (kR k):=fun Z U H X Q M j d f=>by apply p (we (f _ _ K (fun q=>u (ba.mp q))) lt);rw[kf.symm];exact hk ⟨ps,sp,rest,Z,U,H⟩ X ⟨⟨g.pl,by show ps.length<=4;exact b5 0xad0204542045000 rfl i w,g.le,A.aq,g.nm,M,j⟩,A.wf,Q⟩ w d f
 have a:∀(Z:Kd)(U:Option (Int×Option Nat×Int))X,aT md L Z->rs U->Dr nc ac a1 (B+2) X->Fr [ac] σ X->aP WD (CW (n+F+2)) (bx 13 gx) (iy nc ac L x sp rest Z U H c rc wh cQ dx cX c5 eo) X (kR k):=fun Z U X Q M d f=>by
  refine fa (n:=n+F+1) (m:=3) d (by decide) fun r J hr E C=>?_;refine fG 2 rfl (fun q=>?_) fun _=>ret Z U H J Q M j (E.le (aB 188764160 rfl)) (f.trans C);refine fa (n:=n+F+1) (m:=3) E (by decide) fun r2 O v z t=>?_;have s:∃H:Nat,H<8/\cZ O (.ab [.int 0,.int 1,.int 4]) (.int r2)=D (.int H):=by
   induction r2,v using yo;.exact⟨0,by decide,rfl⟩
   .exact⟨1,by decide,rfl⟩
   .exact⟨4,by decide,rfl⟩
  obtain⟨b,h1,e⟩:=s;apply o e;exact ret Z U b O Q M h1 z (f.trans (C.trans t))
 have s2:∀(Z:Kd)X,aT md L Z->Dr nc ac a1 (B+6) X->Fr [ac] σ X->aP WD (CW (n+F+2)) (bx 12 gx) (iy nc ac L x sp rest Z U H c rc wh cQ dx cX c5 eo) X (kR k):=fun Z X Q d f=>by refine fa (n:=n+F+1) (m:=4) d (by decide) fun r J hr E C=>?_;refine fG 3 rfl (fun q=>?_) fun _=>a Z U J Q M (E.le (aB 330719428608 rfl)) (f.trans C);exact HK (n:=n+F) (E.le (B':=B+2+3) (aB 338657319845888 rfl)) fun p' O l z t=>a Z p' O Q l z (f.trans (C.trans t))
 refine fa (n:=n+F+1) (m:=5) (d1.le (B':=B+6+1) (aB 444208422846464 rfl)) (by decide) fun r J hr E C=>?_;refine fG 4 rfl (fun q=>?_) fun _=>s2 Z J Q E (h.trans C);exact s2 (.mk 1024 I) J (mY (by exact⟨by decide,by decide⟩)) E (h.trans C)
end
theorem Sl:∀{ps Z:List (Kd×Bool)},fD (ps++Z)=Y->fD ps=true:=by intro ps;induction ps with|nil=>intro _ _;exact rfl|cons X r U=>
obtain⟨K,o1⟩:=X;intro Z h;have h:((!o1||(r++Z).all (·.2))&&fD (r++Z))=true:=h;rw[gG,Bz]at h;show((!o1||r.all (·.2))&&fD r)=Y;rw[U h.2,lh];have:=h.1;rcases o1 with _|_;.rfl
exact(fe.mp this).1
theorem Sn:∀{ps:List (Kd×Bool)},fD ps=Y->((∃p∈ps,p.2=Y)->o1=Y)->fD (ps++[(K,o1)])=true:=by intro ps;induction ps with|nil=>intro _ _;cases o1<;>rfl|cons X r U=>
obtain⟨H,o2⟩:=X;intro h Z;have h:((!o2||r.all (·.2))&&fD r)=true:=h;rw[gG]at h;show((!o2||(r++[(K,o1)]).all (·.2))&&fD (r++[(K,o1)]))=Y;rw[U h.2 (by rintro⟨p,a,b⟩;exact Z ⟨p,cI _ a,b⟩),lh,Bz];rcases o2 with _|_;.rfl
have J:r.all (·.2)=true:=h.1;rw[J,Z ⟨_,aW,rfl⟩];rfl
theorem So:∀{ps:List (Kd×Bool)}{q:Kd×Bool},fD (ps++[q])=Y->q.2=aj->∀p∈ps++[q],p.2=false:=by intro ps;induction ps with|nil=>intro q _ h p Z;rw[ba.mp Z];exact h|cons U r J=>
  obtain⟨K,o1⟩:=U;intro q h X p Z;have h:((!o1||(r++[q]).all (·.2))&&fD (r++[q]))=true:=h;rw[gG]at h;rcases ce.mp Z with rfl|Z
  .rcases o1 with _|_;.rfl
   have:=fR.mp (h.1) q (jO _ aW);rw[X]at this;cases this
  .exact J h.2 X p Z
theorem Sp(h:σ[i]?=D (.list l))(Z:l.length<av):qB σ (.ref i) .none (.int (-1))=D (.ref σ.length,σ++[.list l.dropLast]):=by
 have e:dT l .none (.int (-1))=D l.dropLast:=by unfold dT;rw[af Z];show D ((l.take ((-1:Int)+l.length).toNat).drop 0)=_;rw[ux,BO,ym]
 show(match σ[i]? with|some (.list xs)=>_|_=>I)=_;rw[h];show(match dT l _ _ with|some r=>_|none=>I)=_;rw[e]
section
variable{wh:Bool}
theorem Sq(l2:L<=2)(hN:N<=4)(v:md=3->a1≠0)(tr:jf nc ac a1 md F L)(t0:jf nc ac a1 md F 0)(k0:jF nc ac a1 md F 0)(hv:Vr md L N ps)(i:∀m,rest=D m->Nm m)(C:md=3->rest=I/\wh=Y)(hp:rs g)(hf:j<8)(wr:aT md L U)(nr:lV L U)(t:Dr nc ac a1 (B+(tB L+11)) σ)(Q:σ[rc]?=D (.list (ps.map cy)))(s:rc≠ac)(hk:∀y Z,bo md L y->y.ps.length<=N->Dr nc ac a1 B Z->Fr [ac] σ Z->k (aF y) Z):aP WD (CW (n+F+2)) (bx 7 gx) (iy nc ac L x sp rest U g j c rc wh cQ dx cX c5 eo) σ (kR k):=by
 have e2:n+F+2=n+2+F:=bB 0xa9a8001ab400002 rfl;have O:rc∉[ac]:=fun q=>s (ba.mp q);have lt:(ps.map cy).length<av:=by rw[aJ];exact b5 0xad0204542015001 rfl hN (hv.len)
 have el:(ps.map cy).length=ps.length:=aJ _;have a:∀(rest:Option Nat)Z,(∀m,rest=D m->Nm m)->(md=3->rest=I)->Dr nc ac a1 (B+(tB L+9)) Z->Fr [ac] σ Z->aP WD (CW (n+F+2)) (bx 8 gx) (iy nc ac L x sp rest U g j c rc wh cQ dx cX c5 eo) Z (kR k):=fun rest Z i Sr d f=>by
  have J:=f _ _ Q O;have s9:∀gC,gC<=ps.length->(md=3->gC=ps.length)->aP WD (CW (n+F+2)) (bx 9 gx) (iy nc ac L x gC rest U g j c rc wh cQ dx cX c5 eo) Z (kR k):=fun gC u h3=>by have M:∀gC X,gC<=ps.length->(md=3->gC=ps.length)->Dr nc ac a1 (B+(tB L+8)) X->Fr [ac] σ X->aP WD (CW (n+F+2)) (bx 10 gx) (iy nc ac L x gC rest U g j c rc wh cQ dx cX c5 eo) X (kR k):=fun gC X u h3 d f=>Sk l2 hN tr hv ⟨u,i,fun q=>⟨Sr q,h3 q⟩⟩ hp hf wr nr d (f _ _ Q O) s fun y eh wy ly d3 f3=>hk y eh wy ly d3 (f.trans f3);refine fG 4 rfl (fun q=>?_) fun _=>M gC Z u h3 (d.le (bB 0x6d414032a0a0000 rfl)) f;apply o (Af d);refine fG 0 rfl (fun q0=>?_) fun _=>M gC Z u h3 (d.le (bB 0x6d414032a0a0000 rfl)) f;apply p ((dv J lt).trans (by rw[el]));refine fa (n:=n+F+1) (m:=ps.length+1) (B:=B+(tB L+8)) d (fg _) fun r H HQ b l=>?_;exact M r H (aC 0xb505021ad000 rfl HQ) (fun q=>ae q0 (v q)) b (f.trans l)
  rcases wh with _|_
  .apply p ((dv J lt).trans (by rw[el]));have n3:md≠3:=fun q=>(by have h:=(C q).2;contradiction);have hz:∃gC:Nat,gC<=ps.length/\(if((ps.length:Nat):Int)<(sp:Nat)then((ps.length:Nat):Int)else(sp:Nat))=gC:=by
    by_cases q:((ps.length:Nat):Int)<(sp:Nat);.exact⟨ps.length,aE _,af q⟩
    .exact⟨sp,aC 709791240192 rfl q,am q⟩
   refine cps fun P hP=>?_;obtain⟨gC,u,h2⟩:=hz;refine hP ?_;have key:∀z:Int,z=(gC:Nat)->aP WD (CW (n+F+2)) (bx 9 gx) [D (.ref nc),D (.ref ac),D (aF x),D (.int (2-L:Nat)),D (.ab (fC x.ps)),D (.int z),D (eO rest),D (aL U),D (dG g),D (.int j),D (.int c),D (.ref rc),D (.bool aj),cQ,dx,cX,c5,eo] Z (kR k):=fun z e=>by subst e;exact s9 gC u fun q=>ae q n3
   exact key _ h2
  apply p ((dv J lt).trans (by rw[el]));exact s9 ps.length (aE _) fun _=>rfl
 have E:∀{Z},Dr nc ac a1 (B+(tB L+11)) Z->Fr [ac] σ Z->aP WD (CW (n+F+2)) (.cons (.ifs (.ex (.dA aj (.var 6))) (.cons (.an (.ag 6) (.call 137 (.cons (.var 0) (.cons (.var 1) (.cons (.var 6) (.cons (.lit (.int 2)) .nil)))))) .nil) .nil) .nil) (iy nc ac L x sp rest U g j c rc wh cQ dx cX c5 eo) Z (kS (aP WD (CW (n+F+2)) (bx 8 gx)) (kR k)):=fun{Z}d f=>by
  rcases rest with _|m;.exact a I Z i (fun q=>(C q).1) (d.le (bB 0x7d414036a0a0000 rfl)) f
  rw[e2];refine t0 (K:=.mk m I) (B:=B+(tB L+9)) d ⟨i m rfl,rfl⟩ trivial fun K' H w b l=>?_;rw[e2.symm];obtain⟨m',s'⟩:=K';obtain⟨A,rfl⟩:=w;exact a (D m') H (fun m e=>by cases e;exact A) (fun q=>(by have h:=(C q).1;contradiction)) b (f.trans l)
 refine fG 3 rfl (fun q=>?_) fun _=>E t .rfl;apply o (Af t);refine fG 0 rfl (fun q0=>?_) fun _=>E t .rfl;have n3:md≠3:=fun q=>v q q0;rcases rest with _|m;.rw[e2];refine k0 (B:=B+(tB L+10)) t fun K H w _ b l=>?_;rw[e2.symm];obtain⟨m',s'⟩:=K;obtain⟨A,rfl⟩:=w;exact a (D m') H (fun m e=>by cases e;exact A) (fun q=>ae q n3) (b.le (bB 0x75414036a0a0000 rfl)) l
 exact a I σ (fun _ e=>nomatch e) (fun _=>rfl) (t.le (bB 0x7d414036a0a0000 rfl)) .rfl
end
section
variable{wh:Bool}
theorem Fr.fP(f:Fr [i] σ Z)(h:i<Z.length):σ.length<=Z.length:=f.len fun j X=>by rw[ba.mp X];exact h
theorem Su(l2:L<=2)(hN:N<=4)(Ah:md=3->a1≠0)(tr:jf nc ac a1 md F L)(t0:jf nc ac a1 md F 0)(k0:jF nc ac a1 md F 0)(X:Vr md L N ps)(h1:ps.length+1<=N)(hr:∀m,rest=D m->Nm m)(sC:md=3->rest=I/\wh=Y)(E:rs b)(hf:l<8)(wr:aT md L O)(nr:lV L O)(hd:Dr nc ac a1 (B+(tB L+14)) σ)(Z:σ[rc]?=D (.list (ps.map cy)))(H:rc≠ac)(Sw:rc≠nc)(Sx:rc≠0)(hk:∀y au,bo md L y->y.ps.length<=N->Dr nc ac a1 B au->Fr [ac,rc] σ au->k (aF y) au):aP WD (CW (n+F+2)) (bx 4 gx) (iy nc ac L x sp rest O b l c rc wh I I cX c5 I) σ (kR k):=by
 have e2:n+F+2=n+2+F:=bB 0xa9a8001ab400002 rfl;have hl:=X.len;have M:(ps.map cy).length<av:=by rw[aJ];exact b5 0x2a5a00204542015001 rfl hN h1
 have a:(ps.map cy).length=ps.length:=aJ _;have Al:∀{ps:List (Kd×Bool)}{J au cQ dx eo},Vr md L N ps->Dr nc ac a1 (B+(tB L+11)) au->au[J]?=D (.list (ps.map cy))->J≠ac->Fr [ac,rc] σ au->aP WD (CW (n+F+2)) (bx 7 gx) (iy nc ac L x sp rest O b l c J wh cQ dx cX c5 eo) au (kR k):=fun{ps J au cQ dx eo}X d Z H f=>Sq l2 hN Ah tr t0 k0 X hr sC E hf wr nr d Z H fun y w wy ly d2 s=>hk y w wy ly d2 (f.trans (s.aq fun i hi=>by rw[ba.mp hi];exact aW));have s6:∀{ps:List (Kd×Bool)}{J au cQ},Vr md L N ps->Dr nc ac a1 (B+(tB L+12)) au->au[J]?=D (.list (ps.map cy))->J≠ac->Fr [ac,rc] σ au->aP WD (CW (n+F+2)) (bx 6 gx) (iy nc ac L x sp rest O b l c J wh cQ I cX c5 I) au (kR k):=fun{ps J au cQ}X d Z H f=>by
  have M:(ps.map cy).length<av:=by have:=X.len;rw[aJ];exact b5 0xad0204542015001 rfl hN this
  have a:(ps.map cy).length=ps.length:=aJ _;refine fG 2 rfl (fun q=>?_) fun _=>Al X (d.le (bB 0x8541403ea0a0000 rfl)) Z H f;apply p ((dv Z M).trans (by rw[a]));refine fa (n:=n+F+1) (m:=ps.length+1) (B:=B+(tB L+11)) d (fg _) fun r w HQ d2 s=>?_;have A:=s _ _ Z (fun q=>H (ba.mp q));apply p ((dv A M).trans (by rw[a]));have l4:=X.len;refine⟨by rw[jw (i:=ps.length) (b5 0xad0204542015001 rfl hN l4),aN (by exact b5 0x15a0408a841e848040d009 rfl hN l4)];rfl,?_⟩;rw[ic];have I?:∀i:Nat,(fun i=>aa.int (ko i)) i=.int (i:Nat):=fun _=>rfl;refine vZ (fun i:Nat=>aa.int (ko i)) (fun _=>Y) (fun i=>cy ((match ps[i]? with|some p=>p.1|none=>.mk 0 I),decide (r<=i))) (fun lc=>∃v,lc=iy nc ac L x sp rest O b l c J wh cQ (D (.int r)) cX c5 v) ⟨I,rfl⟩ ?_ ?_
  .rintro i hi lc U u⟨v,rfl⟩;have hi:i<ps.length:=BD.mp hi;have g:ps[i]?=D ps[i]:=dL hi;refine⟨_,rfl,⟨_,rfl⟩,fun kb hb=>hb,fun _ eb X=>?_⟩;have Q:=u _ _ A bK;apply o ((hQ (d:=.int i) Q).trans (gI (by rw[gm,g];rfl) M));have X:=X U .rfl;rw[g]at X;generalize ps[i]=p at X;obtain⟨K,o1⟩:=p;refine bD (fun q=>?_) fun q=>?_;.have q:i<r:=cw.mp q;rw[bS (xp.mpr q)]at X;exact X
   .have q:¬i<r:=fun h=>q (cw.mpr h);rw[aN (g9.mp q)]at X;exact X
  .intro U u;rw[zS];have em:((iV ps.length).map fun i=>cy ((match ps[i]? with|some p=>p.1|none=>.mk 0 I),decide (r<=i)))=((iV ps.length).map fun i=>((match ps[i]? with|some p=>p.1|none=>Kd.mk 0 I),decide (r<=i))).map cy:=by rw[BC];rfl
   rw[em];refine Al ⟨fun p E=>?_,HI (t:=r) fun i q e=>?_,by rw[aJ,K7];exact l4⟩ ((d2.fV u).fV .new) aS ?_ (f.trans ((s.aq fun i hi=>by rw[ba.mp hi];exact aW).trans (u.nil.trans .new)));.obtain⟨i,hi,rfl⟩:=gZ.mp E;have hi:=BD.mp hi;rw[dL hi];exact X.wf ps[i] (xz hi)
   .rw[gm]at e;rcases hi:(iV ps.length)[i]? with _|j;.rw[hi]at e;cases e
    rw[hi]at e;have:=(bp.mp hi);obtain⟨h1,h2⟩:=this;rw[List.getElem_range]at h2;clear hi;subst h2;cases e;rfl
   .have:=(d2.fV u).lt;exact aC 709778657286 rfl this
 have Sy:rc∉[ac]:=fun q=>H (ba.mp q);have fm:∀{au},Fr [ac] σ au->Fr [ac,rc] σ au:=fun f=>f.aq fun i hi=>by rw[ba.mp hi];exact aW
 have s5:aP WD (CW (n+F+2)) (bx 5 gx) (iy nc ac L x sp rest O b l c rc wh I I cX c5 I) σ (kR k):=by
  refine fG 1 rfl (fun q=>?_) fun _=>s6 X (hd.le (bB 0x95414042a0a0000 rfl)) Z H .rfl;apply p ((dv Z M).trans (by rw[a]));have cp:∀(z:Bool),((∃p∈ps,p.2=Y)->z=Y)->aP WD (CW (n+F+2)) (bx 1 (tF (bx 5 gx))) (iy nc ac L x sp rest O b l c rc wh (D (eB z)) I cX c5 I) σ (kS (aP WD (CW (n+F+2)) (bx 6 gx)) (kR k)):=fun z hz=>by
   rw[e2];refine k0 (B:=B+(tB L+13)) hd fun K w wk _ d2 s=>?_;rw[e2.symm];have iR:∀(o1:Bool)U,(z=Y->o1=Y)->Dr nc ac a1 (B+(tB L+12)) U->Fr [ac] σ U->dt WD (CW (n+F+2)) 0 rc σ U [cy (K,o1)] fun d σ=>br (iJ d) (aP WD (CW (n+F+2)) (bx 6 gx) (iy nc ac L x sp rest O b l c rc wh (D (eB z)) I cX c5 I) σ (kR k)) False:=fun o1 U ho d3 u=>by
    have Q:=u _ _ Z Sy;apply o Z;apply o (eA Q);apply p (gy (v:=cy (K,o1)) M Sx);have em:ps.map cy++[cy (K,o1)]=(ps++[(K,o1)]).map cy:=by rw[g7];rfl
    rw[em];have fs:Fr [rc] U (U.set rc (.list ((ps++[(K,o1)]).map cy))):=Fr.rfl.set aW;refine s6 ⟨fun p E=>?_,Sn X.aq fun h=>ho (hz h),by rw[aU];exact h1⟩ (d3.fr fs (fun q=>Sw (ba.mp q).symm) fun q=>H (ba.mp q).symm) (eV Q) H ((fm u).trans (fs.aq fun i hi=>by rw[ba.mp hi];exact cI _ aW));rcases dI.mp E with E|E;.exact X.wf p E
    .rw[ba.mp E];exact wk.aq (bQ L)
   rcases z with _|_
   .refine fa (n:=n+F+1) (m:=2) (B:=B+(tB L+12)) d2 (by decide) fun r U q7 d3 u=>?_;induction r,q7 using yn;.exact iR aj U (fun q=>nomatch q) d3 (s.trans u)
    .exact iR Y U (fun _=>rfl) d3 (s.trans u)
   exact iR Y w (fun _=>rfl) (d2.le (bB 0x8d414042a0a0000 rfl)) s
  by_cases q0:ps=[];.clear X h1 Z hl M a;subst q0;exact cp aj (by rintro⟨p,E,_⟩;exact ae E bK)
  .clear h1 hl a;obtain⟨C,q',rfl⟩:E2 fun C q'=>ps=C++[q']:=⟨ps.dropLast,ps.getLast q0,(BF q0).symm⟩;refine bt (show kG .gt (((C++[q']).length:Nat):Int) 0=Y from aN (by rw[aU];show((C.length+1:Nat):Int)>0;exact aB 188747785 rfl)) ?_;have em:(C++[q']).map cy=C.map cy++[cy q']:=by rw[g7];rfl
   apply o ((hQ (d:=.int (-1)) Z).trans (by rw[em]at M⊢;exact kT M));obtain⟨K',o'⟩:=q';refine cp o' ?_;rintro⟨p,E,HS⟩;rcases o' with _|_;.rw[So X.aq rfl p E]at HS;cases HS
   rfl
 refine fG 0 rfl (fun q=>?_) fun _=>s5;apply p ((dv Z M).trans (by rw[a]));refine bD (fun q2=>?_) fun _=>s5;apply p (Sp Z M);clear Al s5;subst q;have em:(ps.map cy).dropLast=ps.dropLast.map cy:=List.map_dropLast.symm;rw[em];have pre:ps=ps.dropLast++[ps.getLast (fun q=>by rw[q]at q2;exact ae q2 (by decide))]:=(BF _).symm;have zN:Vr md L N ps.dropLast:=⟨fun p E=>X.wf p (Y7 _ E),Sl (pre▸X.aq),by rw[Y8];exact bj (qi _ _) X.len⟩;exact s6 zN ((hd.fV .new).le (bB 0x95414042a0a0000 rfl)) aS (by have:=hd.lt;exact aC 709778657286 rfl this) .new
end
section
theorem Am(l2:L<=2)(t:md=3->a1≠0)(tr:jf nc ac a1 md F L)(t0:jf nc ac a1 md F 0)(k0:jF nc ac a1 md F 0):Aj nc ac a1 md (F+3) L:=by
 intro n B σ k x h O w A s;have e2:n+F+2=n+2+F:=bB 0xa9a8001ab400002 rfl;have pl:=O.1.pl;have Z:=O.1.rest;have X:rs x.pred:=O.1.pred;have C:=O.1.fl;have U:=O.1.aq;have hx:aF x=.ab [.ab (fC x.ps),.int x.sp,eO x.rest,aL x.res,dG x.pred,.int x.fl]:=by clear O w A s pl Z X C U;obtain⟨_,_,_,_,_,_⟩:=x;rfl
 show CW (n+F+3) 138 _ _ _;refine N5 ?_;refine o (v:=[D (.ref nc),D (.ref ac),D (aF x),D (.int (2-L:Nat)),D (.ab (fC x.ps)),D (.int x.sp),D (eO x.rest),D (aL x.res),D (dG x.pred),D (.int x.fl),I,I,I,I,I,I,I,I]) (by clear O w A s pl Z X C U hx;obtain⟨_,_,_,_,_,_⟩:=x;rfl) ?_;refine fa (n:=n+F+1) (m:=8) (B:=B+(4*tB L+19)) h (by decide) fun c bY hc d1 f1=>?_;have lt:(fC x.ps).length<av:=by rw[kf,aJ];exact ax 262026645505 rfl A
 apply o (hU lt);have tb:x.ps.length*tB L<=3*tB L:=uk _ A;refine qP (g:=I) (fun a r lc j=>E4 fun cX c5 Q q=>A8 (lc=[D (.ref nc),D (.ref ac),D (aF x),D (.int (2-L:Nat)),D (.ab (fC x.ps)),D (.int x.sp),D (eO x.rest),D (aL x.res),D (dG x.pred),D (.int x.fl),D (.int c),I,I,I,I,cX,c5,I]) (r=q.map cy) (a=Q.map cy) (∀p∈q,p∈x.ps) (Q.map (·.2)++q.map (·.2)=x.ps.map (·.2)) (∀p∈Q,aT md L p.1) (Dr nc ac a1 (B+(tB L+14)+q.length*tB L) j) (Fr [ac] σ j)) (fun _ _ _ _ _=>trivial) ?_ ?_ ⟨I,I,[],x.ps,rfl,kf,rfl,fun _ h=>h,rfl,fun _ q=>ae q bK,d1.le (by exact da 0xa8c76082610d483050169541400000 rfl tb),f1⟩;.rintro a lc H⟨cX,c5,Q,q,rfl,f,rfl,_,u,b,E,z⟩;induction q using eQ with|cons=>cases f|nil=>
  rw[uu,bO]at u;rw[List.length_nil,rR,K4]at E;have J:Q.length=x.ps.length:=by have:=aI rV u;rw[aJ,aJ]at this;exact this
  have l:(Q.map cy).length<av:=by rw[aJ,J];exact ax 262026645505 rfl A
  have Sz:H.length≠ac:=by have:=E.lt;exact aC 709778657286 rfl this
  have SA:H.length≠nc:=fun e=>by refine cps fun P hP=>?_;obtain⟨ns,a,_⟩:=E.p5;refine hP ?_;have:=(bp.mp a).1;exact b5 0xa5421ad02221003 rfl e this
  have SB:H.length≠0:=fun e=>by have:=E.lt;exact b5 0xa54212502221003 rfl e this
  have hn:σ[H.length]?=none:=jo (z.fP E.lt);have d3:=E.fV (Fr.new (g:=[AO.list (Q.map cy)]));have f3:Fr [ac] σ (H++[.list (Q.map cy)]):=z.trans .new;apply p ((dv aS l).trans (by rw[aJ,J]));have fp:=fun wh(SC:md=3->wh=Y)=>Su (x:=x) (sp:=x.sp) (c:=c) (wh:=wh) (cX:=I) (c5:=I) (N:=x.ps.length+1) (n:=n) l2 (ax 0xf408105a0000 rfl A) t tr t0 k0 ⟨b,(HJ u).trans U,aC 760898743455744 rfl J⟩ (aC 0xad0222d405a0000 rfl J) Z (fun q=>⟨(pl q).1,SC q⟩) X C O.2.2 w.2 d3 aS Sz SA SB fun y jc wy ly d4 f4=>s y jc wy ly d4 fun i ob hi ni=>by
   have:=f3 i ob hi ni;refine f4 i ob this fun q=>?_;rcases ce.mp q with q|q;.exact ni (by rw[q];exact aW)
   .rw[ba.mp q,hn]at hi;cases hi
  refine o (rfl:nV _ _ _ _=D _) ?_;refine o (rfl:fj _ _ _=D _) ?_;exact fp (decide ((x.sp:Int)=(x.ps.length:Nat))) fun q=>aN (by rw[(pl q).2])
 .rintro d r a lc H K⟨cX,c5,Q,q,rfl,f,rfl,hq,u,b,E,z⟩hK;rcases q with _|⟨y,q⟩;.cases f
  cases f;obtain⟨Ky,oy⟩:=y;have hy:=hq _ aW;rw[iD,oT,rS,<-eL]at E;rw[e2];refine tr E (O.2.1 _ hy) (w.1 _ hy) fun K' eh w3 d3 f3=>?_;refine hK _ _ _ ⟨_,_,Q++[(K',oy)],q,rfl,rfl,by rw[g7];rfl,fun p M=>hq p (cI _ M),by rw[u.symm,g7,dy];rfl,fun p M=>?_,d3,z.trans f3⟩;rcases dI.mp M with M|M;.exact b p M
  .rw[ba.mp M];exact w3
end
section
theorem jF.up(h:jF nc ac a1 md F L)(l:F<=Z):jF nc ac a1 md Z L:=by intro n B σ k X U;obtain⟨d,rfl⟩:=Zf l;rw[show n+(F+d)=n+d+F by exact fz 0xada8005aa0a0002 rfl];exact h X U
theorem jf.up(h:jf nc ac a1 md F L)(l:F<=Z):jf nc ac a1 md Z L:=by intro n B σ k K X U J H;obtain⟨d,rfl⟩:=Zf l;rw[show n+(F+d)=n+d+F by exact fz 0xada8005aa0a0002 rfl];exact h X U J H
theorem SD(Z:md=3->a1≠0):Ac nc ac a1 md 15 2/\Aj nc ac a1 md 24 2:=by
 have X:jF nc ac a1 md 2 0:=Ae (F:=0) (by decide) fun _ q=>nomatch q;have H:jF nc ac a1 md 7 1:=Ae (by decide) fun J q=>by cases q;exact(Ag (by decide) Z X X)
 have k2:jF nc ac a1 md 12 2:=Ae (by decide) fun J q=>by cases q;exact(Ag (by decide) Z H (X.up (by decide)))
 have U:jf nc ac a1 md 5 0:=Ak (by decide) X fun _ q=>nomatch q;have t1:jf nc ac a1 md 11 1:=Ak (F:=8) (by decide) (H.up (by decide)) fun J q=>by cases q;exact(Am (by decide) Z U U (X.up (by decide)))
 have Q:jf nc ac a1 md 17 2:=Ak (F:=14) (by decide) (k2.up (by decide)) fun J q=>by cases q;exact(Am (by decide) Z t1 (U.up (by decide)) (X.up (by decide)))
 refine⟨(Ag (by decide) Z k2 (X.up (by decide))),?_⟩;intro n B σ k x O E C M L;exact(Am (by decide) Z Q (U.up (by decide)) (X.up (by decide))) (n:=n+4) O E C M L
end
structure Tw(t:Nat)(T:List aa)(σ:AH):Prop where
ct:σ[t]?=D (.bl 4 [(6,.ref (t+1)),(16,.ref (t+2)),(15,.ref (t+3)),(14,.ref (t+4)),(13,.ref (t+5)),(12,.ref (t+6)),(11,.ref (t+7)),(10,.ref (t+8)),(9,.int 0),(8,.int 0)])cr:σ[t+1]?=D (.list T)cx:σ[t+2]?=D (.dict (dW 0 T))len:T.length<av
jv:T.all (fun r=>eG r&&ci r==2)=Y
section
theorem SE(h:Tw t T σ)(U:eG row=Y)(J:ci row=2)(H:ca (dW 0 T) row=I)(E:T.length+1<av)(C:∀(z:Int)Z,Tw t (T++[row]) Z->Fr [t+1,t+2] σ Z->k (.int z) Z):dt WD (CW (n+1)) 7 t σ σ [row] k:=by
 apply o h.ct;refine⟨rfl,?_⟩;have X:dd (dW 0 T) row=true:=by unfold dd;rw[Fa (q:=fun d=>ci d==ci row),U,J];exact fe.mpr ⟨rfl,fR.mpr fun x M=>(fe.mp (fR.mp h.jv x M)).2⟩
 refine Eb ?_;apply o (fL (f:=16) h.ct rfl rfl);apply o (pp h.cx X);rw[H];apply o (fL (f:=6) h.ct rfl rfl);apply p (dv h.cr h.len);apply o (fL (f:=6) h.ct rfl rfl);apply o h.cr;apply o (eA h.cr);apply p (gy (v:=row) h.len (xB t));have Q:=bm (o':=.list (T++[row])) h.ct (show t+1≠t by exact aB 676986886 rfl);have O:=bm (o':=.list (T++[row])) h.cx (show t+1≠t+2 by exact aB 227639164950 rfl);apply o (fL (f:=16) Q rfl rfl);apply o ((mM (v:=.int T.length) O X (by rw[E9];exact h.len) (xB _)).trans (by rw[E1 H,<-gj T.length,<-E7]));refine C T.length _ ⟨bm Q (aB 678035462 rfl),bm (eV (o':=.list (T++[row])) h.cr) (aB 193280475142 rfl),eV O,by rw[aU];exact E,?_⟩ ((Fr.rfl.set aW).set (cI _ aW));rw[Bz,h.jv];show((eG row&&ci row==2)&&Y)=Y;rw[U,J];rfl
theorem HT:cH.Nodup:=by show Zg (·≠·) cH;exact(by decide+kernel:Zg (·≠·) cH)
theorem SF:∀r∈cH,eG r=Y/\ci r=2:=by decide+kernel
theorem SG:ms cH=4:=by decide+kernel
theorem rv{l:AH}:(σ++l)[σ.length+j]?=l[j]?:=by rw[jM (b8 _ _),xv]
theorem An{fs:List (Nat×aa)}(X:(WD.gu c f&&decide (fs.length<500))=Y)(U:0<σ.length):o9 WD (σ++.bl c fs::Z) (.ref σ.length) f v=D (σ++.bl c (iH fs f v)::Z):=by rw[u5 (σ:=σ++.bl c fs::Z) (i:=σ.length) (c:=c) (fs:=fs) (rv (j:=0)) X (ax 691524489222 rfl U),KG _ _ (aE _),jN];rfl
theorem jg(X:lc[0]?=D (D (.ref σ.length)))(U:(WD.gu c f&&decide (fs.length<500))=Y)(J:0<σ.length)(H:∀(σ:AH)(k:Po),k (.ref σ.length) (σ++[x])->wE WD K e lc σ k)(Q:aw.kn lc (σ++.bl c (iH fs f (.ref (σ.length+(Z.length+1))))::(Z++[x]))):wS WD K (.cT (.var 0) f e) lc (σ++.bl c fs::Z) aw:=by
 refine H _ _ ?_;show gL lc[0]? _;rw[X];have e1:(σ++AO.bl c fs::Z)++[x]=σ++AO.bl c fs::(Z++[x]):=by rw[dy];rfl
 have e2:(σ++AO.bl c fs::Z).length=σ.length+(Z.length+1):=by rw[aU,iD]
 rw[e1,e2];exact o (An U J) Q
theorem jG(Z:lc[0]?=D (D (.ref σ.length)))(X:(WD.gu c f&&decide (fs.length<500))=Y)(U:0<σ.length)(J:∀(σ:AH)(k:Po),k v σ->wE WD K e lc σ k)(H:aw.kn lc (σ++.bl c (iH fs f v)::Q)):wS WD K (.cT (.var 0) f e) lc (σ++.bl c fs::Q) aw:=by refine J _ _ ?_;show gL lc[0]? _;rw[Z];exact o (An X U) H
theorem SH(X:0<σ.length)(M:∀Z,Tw σ.length cH Z->Fr [] σ Z->σ.length+8<Z.length->k (.ref σ.length) Z):lG WD (CW (n+3)) 4 [] σ k:=by
 refine MZ ?_;refine jg (x:=.list []) rfl rfl X (fun _ _ h=>h) ?_;refine jg (x:=.dict []) rfl rfl X (fun _ _ h=>h) ?_;refine jg (x:=.list [.none]) rfl rfl X (fun _ _ h=>h) ?_;refine jg (x:=.list []) rfl rfl X (fun _ _ h=>h) ?_;refine jg (x:=.list []) rfl rfl X (fun _ _ h=>h) ?_;refine jg (x:=.list []) rfl rfl X (fun _ _ h=>h) ?_;refine jg (x:=.dict []) rfl rfl X (fun _ _ h=>h) ?_;refine jg (x:=.dict []) rfl rfl X (fun _ _ h=>h) ?_;refine jG (v:=.int 0) rfl rfl X (fun _ _ h=>h) ?_;refine jG (v:=.int 0) rfl rfl X (fun _ _ h=>h) ?_;have L:cH.length<av:=by decide
 refine j3 (g:=I) (fun r lc Z=>E2 fun U dn=>A5 (cH=dn++r) (lc=[D (.ref σ.length),U]) (Tw σ.length dn Z) (Fr [] σ Z) (σ.length+8<Z.length)) (fun _ _ _ _=>trivial) ?_ ?_ ⟨I,[],rfl,rfl,⟨rv (j:=0),rv (j:=1),rv (j:=2),by decide,rfl⟩,.new,by rw[aU];exact Nat.add_lt_add_left (show 8<9 by decide) _⟩;.rintro lc Z⟨U,dn,e,rfl,h,f,J⟩;rw[bO]at e;subst e;exact M Z h f J
 .rintro x r lc Z K⟨U,dn,e,rfl,h,f,J⟩A;have O:=SF x (by rw[e];exact jO _ aW);have nd:=HT;rw[e]at nd;have d:x∉dn:=fun q=>(oV.mp nd).2.2 x q x aW rfl;have H:dn.length+1<av:=by have:=aI rV e;rw[aU,iD,show cH.length=16 from rfl]at this;exact aC 0x2d414040210c845a0001 rfl this
  have u:ca (dW 0 dn) x=none:=by
   rcases w:ca (dW 0 dn) x with _|v;.rfl
   obtain⟨j,m,_⟩:=yu w;exact ae (jQ m) d
  refine o (rfl:fj _ _ _=D _) ?_;show dt WD (CW (n+2)) 7 σ.length Z Z [x] _;refine SE (n:=n+1) h O.1 O.2 u H fun z y Q E=>?_;refine A _ _ ⟨_,dn++[x],by rw[e,dy];rfl,rfl,Q,fun i C hi _=>E i C (f i C hi bK) fun q=>?_,iW J (E.len fun i hi=>?_)⟩
  .have:=(bp.mp hi).1;rcases ce.mp q with q|q;.exact b5 0xb505032ad02121003 rfl this q
   .exact b5 0xd505032ad02121003 rfl this (ba.mp q)
  .rcases ce.mp hi with q|q;.rw[q];exact(bp.mp Q.cr).1
   .rw[ba.mp q];exact(bp.mp Q.cx).1
theorem SI(h:Tw t cH σ)(X:0<σ.length)(J:20+b<av)(H:∀A Z,Tb A b cH Z->A.az=t->A.r=t+1/\A.ix=t+2/\A.bd=σ.length->A.az<Z.length/\A.r<Z.length/\A.ix<Z.length/\A.bd<Z.length->Fr [] σ Z->k (.ref σ.length) Z):lG WD (CW (n+1)) 5 [.ref t] σ k:=by refine Ng ?_;refine jG (v:=.ref t) rfl rfl X (fun _ _ h=>h) ?_;refine jG (v:=.int 0) rfl rfl X (fun _ _ h=>h) ?_;refine jG (v:=.int 200) rfl rfl X (fun _ _ h=>h) ?_;refine jG (v:=.int 40) rfl rfl X (fun _ _ h=>h) ?_;have U:∀{i Q},σ[i]?=D Q->i<(σ++[AO.bl 5 [(20,.ref t),(19,.int 0),(18,.int 200),(17,.int 40)]]).length:=fun h=>(bp.mp (du h)).1;exact H ⟨t,t+1,t+2,σ.length⟩ _ ⟨⟨_,du h.ct,rfl⟩,aS,du h.cr,du h.cx,xB t,xB _,by rw[SG];exact J,h.jv,dg _,HT⟩ rfl ⟨rfl,rfl,rfl⟩ ⟨U h.ct,U h.cr,U h.cx,(bp.mp aS).1⟩ (.new)
end
section
variable{b n i f e ro:Nat}
theorem SJ(h:Tb A (b+1) T σ)(hi:i<13)(U:f<2)(J:∀(t:Nat)T' X,Tb A b T' X->T<+:T'->Fr A.aQ σ X->At T' t i->k (.int t) X):CW (n+4) 139 [.ref A.az,.int i,.int f] σ k:=by
 refine N6 ?_;have Z:bn i f=bn i f->dt WD (CW (n+2)) 7 A.az σ σ [bn i f] k:=fun _=>mR (n:=n+1) h (qR hi U).1 (qR hi U).2 fun t T' X H Q O E=>J t T' X H Q E ⟨f,U,O⟩;have cS:∀c:Nat,(∃d,cH[c]?=D d/\d=bn i 0)->k (.int c) σ:=(by rintro c⟨d,e1,e2⟩;exact J c T σ (h.le (dh b)) (dg T) .rfl ⟨0,by decide,by rw[e2.symm];exact bX h.base e1⟩);clear J;induction i,hi using pC;.exact Ec (Z rfl)
 .exact Ec (Z rfl)
 .exact cS 6 ⟨_,rfl,rfl⟩
 .exact Ed (Z rfl)
 .exact Ed (Z rfl)
 .exact cS 7 ⟨_,rfl,rfl⟩
 .exact Ee (Z rfl)
 .exact Ee (Z rfl)
 .exact cS 5 ⟨_,rfl,rfl⟩
 .exact cS 4 ⟨_,rfl,rfl⟩
 .exact cS 3 ⟨_,rfl,rfl⟩
 .exact cS 1 ⟨_,rfl,rfl⟩
 .exact cS 0 ⟨_,rfl,rfl⟩
end
theorem HU(g:aa->aa)(P:Lc->Prop)(A:P lc)(hi:σ[i]?=D (.list xs))(Q:∀x∈xs,∀lc,P lc->∃Z,A4 (fj lc t x=D Z) (P Z) (∀O:Bool->AH->Prop,O Y σ->c Z σ O) (∀eb:Po,eb (g x) σ->e Z σ eb))(E:k (.ref σ.length) (σ++[.list (xs.map g)])):jY (D (i,xs)) t c e xs [] lc σ k:=by
 refine qP (g:=D (i,xs)) (fun a r lc X=>X=σ/\P lc/\(∀x∈r,x∈xs)/\a++r.map g=xs.map g) (fun _ _ _ _ h=>by rw[h.1];exact hi) ?_ ?_ ⟨rfl,A,fun _ h=>h,rfl⟩;.clear hi Q;rintro a lc X⟨rfl,_,_,e⟩;rw[uu,bO]at e;rw[e];exact E
 .clear hi E;rintro x r a lc X K⟨rfl,j,C,e⟩d;obtain⟨Z,u,w,v,m⟩:=Q x (C x aW) lc j;refine o u (v _ (m _ (d _ _ _ ⟨rfl,w,fun y z=>C y (cI _ z),?_⟩)));rw[dy];exact e
noncomputable def jh(f:aa->Bool):Nat->Int->List aa->Int|_,a,[]=>a|i,a,x::r=>jh f (i+1) (if f x=Y then(i:Int)else a) r
theorem SK:∀{l:List aa}{i:Nat}{a:Int},(∀x∈l,f x=aj)->jh f i a l=a:=by intro l;induction l with|nil=>intro _ _ _;exact rfl|cons x r Z=>intro i a h;show jh f (i+1) (if f x=Y then(i:Int)else a) r=a;rw[am (jJ.mp (h x aW))];exact Z fun y X=>h y (cI _ X)
section
theorem Ao{ms:List aa}(hi:σ[i]?=D (.list es))(C:es.length<=8)(U:∀d∈es,E2 fun(a:Nat)(z:Int)=>d=.ab [.int a,.int z])(J:ms.all cg=Y)(H:k (.int (jh (fun d=>ms.contains (.int (k2 d))) 0 (-1) es)) σ):CW (n+1) 15 [.ref i,.ab ms] σ k:=by
 have Q:es.length<av:=ax 433825337345 rfl C;refine M2 ?_;apply p (dv hi Q);refine⟨by rw[jw Q,aN (by exact ax 0xca041e848040d009 rfl C)];rfl,?_⟩;rw[ic];refine lU (fun j lc Z=>Z=σ/\E2 fun z v=>lc=[D (.ref i),D (.ab ms),D (.int z),v]/\jh (fun d=>ms.contains (.int (k2 d))) j z (es.drop j)=jh (fun d=>ms.contains (.int (k2 d))) 0 (-1) es) ?_ ?_ ⟨rfl,_,I,rfl,by rw[ux]⟩;.clear hi;rintro lc Z⟨rfl,z,v,rfl,hz⟩;rw[BL]at hz;rw[hz.symm]at H;exact H
 .clear H;rintro j lc Z K O⟨rfl,z,v,rfl,hz⟩M;have X:=dL O;rw[K8 O]at hz;obtain⟨a,E,A⟩:=U _ (xz O);rw[A]at X hz;apply o ((hQ (d:=.int j) hi).trans (gI X Q));apply o (vr (z:=E) J);have hz:jh (fun d=>ms.contains (.int (k2 d))) (j+1) (if ms.contains (.int E)=Y then(j:Int)else z) (es.drop (j+1))=_:=hz;rcases L:ms.contains (.int E)with _|_;.rw[L]at hz;exact M _ _ ⟨rfl,_,_,rfl,hz⟩
  rw[L]at hz;exact M _ _ ⟨rfl,_,_,rfl,hz⟩
end
theorem SL:∀{l:List aa}{i:Nat}{a:Int},a<B->(∀j d,l[j]?=D d->f d=Y->((i+j:Nat):Int)<B)->jh f i a l<B:=by intro l;induction l with|nil=>intro _ _ h _;exact h|cons x r X=>
intro i a h Z;show jh f (i+1) (if f x=Y then(i:Int)else a) r<B;refine X ?_ fun j d e U=>by have:=Z (j+1) d e U;rw[show i+1+j=i+(j+1)by exact bB 0x2d414054b400002 rfl];exact this
by_cases q:f x=Y;.rw[af q];exact Z 0 x rfl q
.rw[am q];exact h
theorem SM(Z:f d=Y):∀{l:List aa}{i:Nat}{a:Int},jh f i a (l++[d])=((i+l.length:Nat):Int):=by intro l;induction l with|nil=>intro i a;exact af Z|cons x r X=>intro i a;show jh f (i+1) (if f x=Y then(i:Int)else a) (r++[d])=_;rw[X,iD];congr 1;exact bB 0x2d414054b400002 rfl
section
variable{A:Ad}{dl:List (Nat×Bool)}
theorem rx:∀d∈dl.map bc++bv rest e,E2 fun(a:Nat)(z:Int)=>d=.ab [.int a,.int z]:=fun d h=>by
 rcases tz d h with⟨⟨i,o1⟩,rfl⟩|⟨i,rfl⟩
 .clear h;cases o1;.exact⟨i,0,rfl⟩
  .exact⟨i,1,rfl⟩
 .exact⟨i,2,rfl⟩
theorem SN(hi:σ[i]?=D (.list (dl.map bc++bv rest e)))(w:dl.length<=4)(c:Mo dl)(l:0<σ.length)(t:∀Z,Fr [] σ Z->Z[σ.length]?=D (.list (dl.map bc++bv rest e))->k (.ref σ.length) Z):CW (n+2) 16 [.ref A.az,.ref i] σ k:=by
 have X:=kU (dl:=dl) (rest:=rest) (e:=e);have C:(dl.map bc++bv rest e).length<av:=b5 0xb5050204542015001 rfl w X;refine M3 ?_;refine Ao hi (b5 0xb5050204542065000 rfl w X) rx rfl ?_;have U:∀{j:Nat}{d:aa},(dl.map bc++bv rest e)[j]?=D d->k2 d=1->¬((j:Int)<jh (fun d=>[aa.int 0].contains (.int (k2 d))) 0 (-1) (dl.map bc++bv rest e)):=fun{j d}J Q=>by
  have hz:∀{j d},(dl.map bc++bv rest e)[j]?=D d->k2 d=0\/k2 d=1->∃q,dl[j]?=D q/\d=bc q:=fun{j d}J Q=>by
   by_cases q:j<dl.length;.rw[ib (by rw[aJ];exact q),gm,dL q]at J;clear Q;cases J;exact⟨_,dL q,rfl⟩
   .rw[jM (by rw[aJ];exact aC 709782851584 rfl q),aJ]at J;rcases rest with _|m;.cases J
    have:=jQ J;rw[ba.mp this]at Q;exact Q.elim (fun q=>ae q (show¬(2:Int)=0 by decide)) fun q=>ae q (show¬(2:Int)=1 by decide)
  have h:jh (fun d=>[aa.int 0].contains (.int (k2 d))) 0 (-1) (dl.map bc++bv rest e)<(nd dl:Int):=SL (Kv (by decide) (hZ _)) fun x s e1 e2=>by have e2:([aa.int 0].contains (.int (k2 s)))=true:=e2;have e3:k2 s=0:=aa.int.inj (ba.mp (Y6.mp e2));clear e2;obtain⟨q,M,rfl⟩:=hz e1 (.inl e3);rw[gj];exact cw.mpr ((c x q M).mp (by clear M e1 e2;obtain⟨_,o1⟩:=q;cases o1;rfl;cases e3))
  obtain⟨q,M,rfl⟩:=hz J (.inr Q);have:¬j<nd dl:=fun r=>by
   have:=(c j q M).mpr r;clear M J;obtain⟨_,o1⟩:=q;cases o1;.cases Q
   .cases this
  exact fun r=>this (cw.mp (rQ r h))
 generalize jh (fun d=>[aa.int 0].contains (.int (k2 d))) 0 (-1) (dl.map bc++bv rest e)=b at U;generalize y:dl.map bc++bv rest e=es at hi X C t U;have i1:=(bp.mp hi).1;apply p (dv (du (g:=[AO.list []]) hi) C);refine⟨by rw[jw C,aN (by exact b5 0x16a0a0408a841e848040d009 rfl w X)];rfl,?_⟩;rw[ic];refine lU (fun j lc Z=>E3 fun v4 v5 v6=>A3 (lc=[D (.ref A.az),D (.ref i),D (.int b),D (.ref σ.length),v4,v5,v6]) (Fr [] σ Z) (Z[σ.length]?=D (.list (es.take j)))) ?_ ?_ ⟨I,I,I,rfl,.new,aS⟩;.rintro lc Z⟨v4,v5,v6,rfl,f,E⟩;rw[rX]at E;exact t Z f E
 .rintro j lc Z K J⟨v4,v5,v6,rfl,f,E⟩hK;have H:=dL J;obtain⟨a,z,Q⟩:=rx (dl:=dl) (rest:=rest) (e:=e) es[j] (by rw[y];exact xz J);rw[Q]at H;apply o ((hQ (d:=.int j) (f _ _ hi bK)).trans (gI H C));have L:dt WD (CW (n+1)) 0 σ.length Z Z [.ab [.int a,.int z]] fun d u=>br (iJ d) (K [D (.ref A.az),D (.ref i),D (.int b),D (.ref σ.length),D (.int j),D (.int a),D (.int z)] u) False:=by
   apply o E;apply o (eA E);have l1:(es.take j).length<av:=by rw[ie];exact dM (jT _ _) C
   apply p (gy (v:=.ab [.int a,.int z]) l1 (ax 691524489222 rfl l));refine hK _ _ ⟨_,_,_,rfl,f.kI (jo (aE _)),?_⟩;rw[eV E,K9,H];rfl
  have O:=U (j:=j) (d:=.ab [.int a,.int z]) H;refine bD (fun q=>?_) fun _=>L;refine bD (fun q2=>ae q2 (O q)) fun _=>L
end
section
variable{A:Ad}{dl:List (Nat×Bool)}
theorem SO(h:(dl.map bc++bv rest e)[j]?=D d):(j<dl.length/\∃q,d=bc q)\/(j=dl.length/\d=.ab [.int e,.int 2]):=by
 by_cases q:j<dl.length;.rw[ib (by rw[aJ];exact q),gm,dL q]at h;cases h;exact .inl ⟨q,_,rfl⟩
 .rw[jM (by rw[aJ];exact aC 709782851584 rfl q),aJ]at h;rcases rest with _|m;.cases h
  have:=(bp.mp h).1;have:j-dl.length<1:=this;rw[show j-dl.length=0 by exact fx (ax 193308282880 rfl this) (aB 659456 rfl)]at h;cases h;exact .inr ⟨fx (K6 (Nat.lt_one_iff.mp this)) (g9.mp q),rfl⟩
theorem SP(hi:σ[i]?=D (.list (dl.map bc++bv rest e)))(Q:dl.length<=4)(E:k (.ref i) σ):CW (n+2) 17 [.ref A.az,.ref i] σ k:=by
 have Z:=kU (dl:=dl) (rest:=rest) (e:=e);have H:(dl.map bc++bv rest e).length<av:=b5 0xb5050204542015001 rfl Q Z;refine M4 ?_;apply p (dv hi H);refine⟨by rw[jw H,aN (by exact b5 0x16a0a0408a841e848040d009 rfl Q Z)];rfl,?_⟩;rw[ic];refine lU (fun j lc U=>U=σ/\∃v,lc=[D (.ref A.az),D (.ref i),D (.int (if j<=dl.length then-1 else(dl.length:Int))),v,I,I,I,I]) ?_ ?_ ⟨rfl,I,rfl⟩
 .rintro lc U⟨rfl,v,rfl⟩;refine Ao hi (b5 0xb5050204542065000 rfl Q Z) rx rfl ?_;rcases rest with _|m;.rw[af (by rw[show bv I e=[]from rfl,bO,aJ];exact aE _)];exact E
  rw[am (by rw[show bv (D m) e=[.ab [.int e,.int 2]]from rfl,aU,aJ];exact KZ _)];rw[show bv (D m) e=[.ab [.int e,.int 2]]from rfl,SM rfl,aJ,gj];exact bt (aN (fS _)) E
 .rintro j lc U K C⟨rfl,v,rfl⟩J;have X:=dL C;rcases SO X with⟨q,⟨x,o1⟩,O⟩|⟨rfl,O⟩
  .rw[O]at X;rw[af (li q)];have J:=fun v=>J [D (.ref A.az),D (.ref i),D (.int (-1)),v,I,I,I,I] U ⟨rfl,v,by rw[af (show j+1<=dl.length from q)]⟩;apply o ((hQ (d:=.int j) hi).trans (gI X H));cases o1;.exact J _
   .exact J _
  .rw[O]at X;rw[af (aE _)];apply o ((hQ (d:=.int dl.length) hi).trans (gI X H));exact J _ _ ⟨rfl,_,by rw[am (KZ dl.length)];rfl⟩
end
theorem Fr.aQ(h:Fr O σ Z)(f:Fr [] Z cz):Fr O σ cz:=h.trans f.nil
section
variable{dl:List (Nat×Bool)}
theorem HV:∀{l:List aa},(∀d∈l,fi m d=Y)->kF m l=true:=by intro l;induction l with|nil=>intro _;cases m<;>rfl|cons x r Z=>intro h;have a:=h x aW;have b:=Z fun d X=>h d (cI _ X);clear h;cases m<;>exact fe.mpr ⟨a,b⟩
theorem SQ:∀d∈dl.map bc++bv rest e,fi 4 d=true:=fun d h=>by obtain⟨a,z,rfl⟩:=rx d h;rfl
noncomputable def wg(dl:List (Nat×Bool))(rest:Option Nat)(e ro:Nat):aa:=match dl,rest with|[],D _=>lL e ro|dl,rest=>iM (dl.map bc++bv rest e) ro
theorem HW(h:Tb A (b+1) T σ)(hi:σ[i]?=D (.list (dl.map bc++bv rest e)))(H:dl.length<=4)(C:Mo dl)(E:∀(t:Nat)T' au,Tb A b T' au->T<+:T'->T'[t]?=D (wg dl rest e ro)->Fr A.aQ σ au->k (.int t) au):aP WD (CW (n+2)) uR [D (.ref A.az),D (.ref i),D (.int ro),I,I,I] σ (kR k):=by
 have Z:=kU (dl:=dl) (rest:=rest) (e:=e);have Q:(dl.map bc++bv rest e).length<av:=b5 0xb5050204542015001 rfl H Z;have pos:=h.pos;apply o (kJ hi Q);refine HU (fun d=>d) (fun lc=>E2 fun v4 v5=>lc=[D (.ref A.az),D (.ref i),D (.int ro),I,v4,v5]) ⟨I,I,rfl⟩ hi ?_ ?_;.rintro x O lc⟨v4,v5,rfl⟩;obtain⟨a,z,rfl⟩:=rx x O;exact⟨_,rfl,⟨_,_,rfl⟩,fun _ q=>q,fun _ q=>q⟩
 rw[Zh];have M:Tb A (b+1) T (σ++[.list (dl.map bc++bv rest e)]):=h.cp;refine Ao aS (b5 0xb5050204542065000 rfl H Z) rx rfl ?_;rw[SK fun x O=>by rcases tz x O with⟨⟨_,o1⟩,rfl⟩|⟨_,rfl⟩;clear O;cases o1<;>rfl;rfl];show CW (n+2) 16 _ _ _;refine SN aS H C (by rw[aU];exact aB 176114634753 rfl) fun au f U=>?_;show CW (n+2) 17 _ _ _;refine SP U H ?_;have L:Tb A (b+1) T au:=M.fV f;have J:wg dl rest e ro=iM (dl.map bc++bv rest e) ro->wE WD (CW (n+2)) (.aR 7 (.var 0) (.cons (.ab (.cons (.ai 16) (.cons (.bi .tuple (.cons (.var 3) .nil)) (.cons (.var 2) .nil)))) .nil)) [D (.ref A.az),D (.ref i),D (.int ro),D (.ref (σ++[AO.list (dl.map bc++bv rest e)]).length),I,I] au k:=fun e1=>by apply p (we U Q);refine mR (n:=n+1) L ?_ rfl fun t T' X a b c d=>E t T' X a b (by rw[e1];exact c) ((Fr.new.aQ f).trans d);show(Y&&(kF 4 (dl.map bc++bv rest e)&&(Y&&Y)))=Y;rw[HV SQ];rfl
 apply p (dv U Q);rcases dl with _|⟨x,r⟩
 .rcases rest with _|m;.exact J rfl
  apply o (hQ (d:=.int 0) U);apply o (hQ (d:=.int 0) U);refine M0 ?_;exact mR (n:=n) L rfl rfl fun t T' X a b c d=>E t T' X a b c ((Fr.new.aQ f).trans d)
 refine bD (fun _=>?_) fun _=>J rfl;apply o ((hQ (d:=.int 0) U).trans (gI (i:=0) rfl Q));clear hi H C E Z Q M f U;obtain⟨_,o1⟩:=x;cases o1<;>exact J rfl
end
theorem HX(al:Nat->List aa->Lc->AH->Prop)(J:∀a lc σ,al n a lc σ->k (.ref σ.length) (σ++[.list a]))(U:∀j a lc σ(K:List aa->Lc->AH->Prop),j<n->al j a lc σ->(∀a lc σ,al (j+1) a lc σ->K a lc σ)->gO (fj lc t (.int (j:Nat))) fun Z=>c Z σ fun b σ=>br b (e Z σ fun v σ=>K (a++[v]) Z σ) (K a Z σ))(h:al 0 [] lc σ):jY I t c e ((iV n).map fun i=>.int (ko i)) [] lc σ k:=by
 refine qP (g:=I) (fun a r lc σ=>E2 fun j m=>A3 (j+m=n) (r=(KU j m).map (fun i=>aa.int (ko i))) (al j a lc σ)) (fun _ _ _ _ _=>trivial) ?_ ?_ ⟨0,n,gj n,by rw[KV],h⟩
 .rintro a lc σ⟨j,m,e,X,h⟩;rcases m with _|m;.clear U;subst e;exact J a lc σ h
  cases X
 .rintro x r a lc σ K⟨j,m,e,X,h⟩H;rcases m with _|m;.cases X
  cases X;exact U j a lc σ K (da 0xa96c0a0022ad001 rfl e) h fun a lc σ h=>H a lc σ ⟨j+1,m,da 0xb16a0a0022b54b400002 rfl e,rfl,h⟩
section
structure tG(T:List aa)(m j:Nat)(ts:List Nat):Prop where
len:ts.length<=j
ry:∀t∈ts,∃i,i<j/\m.testBit i=Y/\At T t i
dX:∀i,i<j->m.testBit i=Y->∃t∈ts,At T t i
theorem tG.aq(h:tG T m j ts)(p:T<+:T'):tG T' m j ts:=⟨h.len,fun t a=>(by obtain⟨i,b,c,d⟩:=h.ry t a;exact⟨i,b,c,d.aq p⟩),fun i a b=>(by obtain⟨t,c,d⟩:=h.dX i a b;exact⟨t,c,d.aq p⟩)⟩
theorem wi:(m/2^j)&&&1≠0↔m.testBit j=true:=by rw[Nat.testBit_eq_decide_div_mod_eq,Nat.and_one_is_mod,decide_eq_true_iff];exact Nat.mod_two_ne_zero
theorem SS(h:i<13)(a:At T e i)(h2:cH<+:T):sH T e [e]:=by
 obtain⟨f,hf,g⟩:=a;have ne:e≠2:=fun q=>by rw[q,bX h2 (show cH[2]?=D (dJ "never")from rfl)]at g;exact(by decide+kernel:∀i,i<13->∀f,f<2->dJ "never"≠bn i f) i h f hf (b9 g)
 refine⟨fh.mpr ⟨bK,jP⟩,.inr (.inr ⟨ne,rfl,fun x e=>u9 (f:=f) (x:=x) h (b9 (g.symm.trans e))⟩),(bp.mp g).1,fun d _ e1=>?_⟩;rw[g]at e1;cases e1;have:∀i,i<13->∀f,f<2->(match bn i f with|.ab (.int g::r)=>decide (0<=g)&&decide (g≠6)&&decide (r.length<=7)|_=>aj)=true:=by decide+kernel
 have:=this i h f hf;revert this;induction bn i f using aa.casesOn with
|ab l=>induction l using eQ with|nil=>nofun|cons y r=>induction y using aa.casesOn with|int g=>intro q;have q:(decide (0<=g)&&decide (g≠6)&&decide (r.length<=7))=true:=q;rw[gG,gG]at q;have q0:=cK q.1.1;exact⟨g.toNat,r,by rw[lk q0],cK q.2,fun e=>cK q.1.2 (by rw[<-lk q0,e];rfl)⟩|_=>nofun
 |_=>nofun
end
section
theorem ST:∀{ts:List Nat},(∀t∈ts,sH T t [t])->oj T ts (ts.map fun t=>[t]):=by intro ts;induction ts with|nil=>intro _;exact .nil|cons t r Z=>intro h;exact .cons (h t aW) (Z fun t a=>h t (cI _ a))
theorem HY:∀{ts:List Nat},(ts.map fun t=>[t]).flatten=ts:=by intro ts;induction ts with|nil=>exact rfl|cons t r Z=>exact aI (t::·) Z
theorem SU(a:T[e]?=D (eC ps rt E C))(J:cH<+:T):sH T e [e]:=have H:e≠2:=fun q=>by rw[q,bX J (show cH[2]?=D (dJ "never")from rfl)]at a;cases a
⟨fh.mpr ⟨bK,jP⟩,.inr (.inr ⟨H,rfl,fun x e1=>nomatch a.symm.trans e1⟩),(bp.mp a).1,fun d _ e1=>by rw[a]at e1;cases e1;exact⟨13,_,rfl,(by decide:5<=7),by decide⟩⟩
theorem HZ(h:Tb A (b+1) T σ)(H:Nm m)(J:tG T m 13 ts)(C:∀x,s=D x->m<2048)(Q:dC c T s (ts++q.toList) q)(hi:σ[i]?=D (.list (aZ (ts++q.toList))))(M:∀t T' Z,Tb A b T' Z->T<+:T'->Fr A.aQ σ Z->KR c T' (.mk m s) t->k (.int t) Z):CW (n+3) 26 [.ref A.az,.ref i] σ k:=by
 have X:∀p,q=D p->E4 fun ps rt L K=>T[p]?=D (eC ps rt L K):=fun p e=>dC.dZ (T:=T) Q p e;have U:∀p,p∈ts++q.toList↔p∈ts\/q=D p:=fun p=>by rw[dI,Option.mem_toList]
 have j:(aZ (ts++q.toList)).length<av:=by rw[jB,aU];have:=J.len;unfold av;induction q using cN with|none=>exact dM (show _+0<=13 from this) (by decide)|some p=>exact dM (show _+1<=14 by exact ax 620159527682048 rfl this) (by decide)
 refine yJ (ts:=ts++q.toList) (ls:=(ts++q.toList).map fun t=>[t]) (m:=m) (q:=q) h ⟨by rw[HY];exact(⟨fun p r=>((U p).mp r).imp (fun a=>by obtain⟨i,x,_,y⟩:=J.ry p a;exact⟨i,x,y⟩) id,fun p e=>⟨(U p).mpr (.inr e),X p e⟩⟩),H.1,?_,fun _=>H.2⟩ (ST fun t u=>?_) (kJ (du hi) j) (fun x=>du hi) fun t T' Z w O v l=>?_
 .intro i hi;rw[HY];constructor;.intro a;obtain⟨t,b,d⟩:=J.dX i hi a;exact⟨t,(U t).mpr (.inl b),d⟩
  .rintro⟨t,b,d⟩;rcases(U t).mp b with b|b;.obtain⟨i',x,y,z⟩:=J.ry t b;rw[At.cV hi x d z];exact y
   .obtain⟨_,_,_,_,g⟩:=X t b;obtain⟨f,_,E⟩:=d;rw[g]at E;exact ae (b9 E).symm (mP hi)
 .rcases(U t).mp u with b|b;.refine cps fun P hP=>?_;obtain⟨i',x,y,z⟩:=J.ry t b;refine hP ?_;exact SS x z h.base
  .obtain⟨_,_,_,_,g⟩:=X t b;exact SU g h.base
 .have:=l.kr Q O;rw[H.2]at this;refine M t T' Z w O v ?_;by_cases e:m&&&6144≠0
  .rw[af e]at this;rcases s with _|x;.exact this
   exact ae (cK (FF m H.1) (C x rfl)) e
  .rw[am e]at this;exact this
end
section
variable{b n i j e ro m f F u lv V:Nat}
theorem SV(h:Tb A b T σ)(l:σ.length<=i):i∉A.aQ:=fun q=>by
 rcases ce.mp q with e|q;.exact fk 0xb5422a5821ad02021003 rfl l ((bp.mp h.cr).1) e
 .have:=ba.mp q;exact fk 0xb5422a5821ad02021003 rfl l ((bp.mp h.cx).1) this
theorem H0(Z:j<13):lB .shr σ (.int m) (.int j)=D (.int ((m/2^j:Nat):Int),σ):=by show((if(decide (0<=(j:Int))&&decide ((j:Int)<60))=Y then D ((m:Int)/2^(j:Int).toNat)else I).map fun z=>(aa.int z,σ))=_;rw[af (by rw[aN (by exact aB 659464 rfl),aN (by exact ax 0x4681087820d009 rfl Z)];rfl),ic,Int.natCast_ediv,Ze];rfl
theorem H1(hf:f<2)(hm:Nm m)(h:Tb A (b+1+u+13) T σ)(hs:∀x,s=D x->m<2048/\∀{T σ}{k:Po},Tb A (b+1+u) T σ->(∀t T' Z,Tb A (b+1) T' Z->T<+:T'->Fr A.aQ σ Z->SR c T' x t->k (.int t) Z)->CW (n+4) 141 [.ref A.az,aF x,.str (cU c),.int f] σ k)(hk:∀t T' Z,Tb A b T' Z->T<+:T'->Fr A.aQ σ Z->KR c T' (.mk m s) t->k (.int t) Z):CW (n+5) 140 [.ref A.az,.ab [.int m,oe s],.str (cU c),.int f] σ k:=by
 refine N7 ?_;refine⟨rfl,?_⟩;refine HX (n:=13) (fun j a lc Z=>E3 fun v ts T'=>A6 (lc=[D (.ref A.az),D (.ab [.int m,oe s]),D (.str (cU c)),D (.int f),I,v]) (a=aZ ts) (Tb A (b+1+u+(13-j)) T' Z) (T<+:T') (Fr A.aQ σ Z) (tG T' m j ts)) ?_ ?_ ⟨I,[],T,rfl,rfl,h,dg T,.rfl,⟨aE 0,fun t L=>ae L bK,fun i hi=>ae hi (xm i)⟩⟩
 .rintro a lc Z⟨v,ts,T',rfl,rfl,C,g,r,X⟩;have Q:Tb A (b+1+u) T' (Z++[.list (aZ ts)]):=C.cp;rcases s with _|x;.refine HZ (n:=n+1) (s:=I) (q:=I) (Q.le (b8 _ u)) hm X (fun x e=>by cases e) (show I=I from rfl) (aS.trans (by rw[show ts++(I:Option Nat).toList=ts from bO ts])) fun t U J a b d e=>hk t U J a (g.trans b) ((r.cp).trans d) e
  obtain⟨ml,hB⟩:=hs x rfl;clear hs;obtain⟨ps,sp,rest,w,E,fl⟩:=x;show CW (n+4) 141 [.ref A.az,aF ⟨ps,sp,rest,w,E,fl⟩,.str (cU c),.int f] _ _;refine hB Q fun t U J a1 b1 d1 e1=>?_;have hc:=d1 Z.length _ aS (SV C (aE Z.length));apply o (aS (σ:=Z));apply o (eA hc);have l1:(aZ ts).length<av:=by rw[jB];exact dM X.len (by decide)
  apply p (gy (v:=.int t) l1 (jl C.pos));have ne:∀{i:Nat}{o},Z[i]?=D o->i∉[Z.length]:=fun{i o}e q=>by have:=(bp.mp e).1;exact b5 0xad032ad02121003 rfl this (ba.mp q)
  obtain⟨_,ct,_⟩:=C.ct;refine HZ (n:=n+1) (T:=U) (s:=D ⟨ps,sp,rest,w,E,fl⟩) (q:=D t) (a1.fr (O:=[Z.length]) (Fr.rfl.set aW) (ne ct) (ne C.ch) (ne C.cr) (ne C.cx)) hm (X.aq b1) (fun x e=>by cases(e);exact ml) ⟨t,rfl,jO _ aW,e1⟩ (by rw[eV hc,vg];rfl) fun t T3 eh a b d e=>hk t T3 eh a ((g.trans b1).trans b) ((r.trans ((Fr.new.trans d1).kI (jo (aE _)))).trans d) e
 .rintro j a lc Z K y⟨v,ts,T',rfl,rfl,Q,g,r,X⟩hK;apply p (H0 y);refine iT 1 rfl (fun q=>?_) fun q=>?_
  .have hb:=wi.mp q;rw[mJ y,<-eL]at Q;refine SJ (n:=n) Q y hf fun t U J a1 b1 d1 e1=>?_;refine hK _ _ _ ⟨_,ts++[t],U,rfl,vg,a1,g.trans b1,r.trans d1,?_⟩;have X:=X.aq b1;refine⟨by rw[aU];exact mi X.len,fun t' L=>?_,fun i hi H=>?_⟩
   .rcases dI.mp L with x|x;.obtain⟨i,z,l⟩:=X.ry t' x;exact⟨i,aC 760897669713921 rfl z,l⟩
    .clear L;cases ba.mp x;exact⟨j,mf j,hb,e1⟩
   .by_cases q:i=j;.clear y hK hb Q a1 X hi;subst q;exact⟨t,jO _ aW,e1⟩
    .obtain⟨t',z,l⟩:=X.dX i ((gk q).elim (fun M=>aC 743064653825 rfl M) fun M=>b5 0xb505041a5421ad001 rfl M hi) H;exact⟨t',mh _ z,l⟩
  .refine hK _ _ _ ⟨_,ts,T',rfl,rfl,Q.le (eP (Nat.sub_le_sub_left (dh j) 13) _),g,r,lj X.len,fun t' L=>?_,fun i hi H=>?_⟩;.obtain⟨i,z,l⟩:=X.ry t' L;exact⟨i,aC 760897669713921 rfl z,l⟩
   .by_cases e:i=j;.clear y Q X hK hi;subst e;exact ae (wi.mpr H) q
    .exact X.dX i ((gk e).elim (fun M=>aC 743064653825 rfl M) fun M=>b5 0xb505041a5421ad001 rfl M hi) H
end
section
variable{b n i j e ro m f F u lv V sp:Nat}
theorem SW:∀{pl:List (Nat×Bool)}{j:Nat}{q:Nat×Bool},bg c j (pl++[q])=bg c j pl++[iP c (j+pl.length) q]:=by intro pl;induction pl with|nil=>intro j q;exact rfl|cons x r Z=>intro j q;show iP c j x::bg c (j+1) (r++[q])=iP c j x::(bg c (j+1) r++_);rw[Z,iD,show j+1+r.length=j+(r.length+1)by exact bB 0x2d414054b400002 rfl]
theorem dY.SX:∀{ps:List (Kd×Bool)}{pl:List (Nat×Bool)}{q:Kd×Bool}{t:Nat},dY c T ps pl->KR c T q.1 t->dY c T (ps++[q]) (pl++[(t,q.2)]):=by intro ps;induction ps with|nil=>intro pl q t h a;obtain⟨k,o1⟩:=q;rw[show pl=[]from h];exact⟨t,[],rfl,a,rfl⟩|cons p r Z=>intro pl q t h a;obtain⟨i,X,rfl,b,h⟩:=h;exact⟨i,X++[(t,q.2)],rfl,b,Z h a⟩
theorem tH(h:Nm m):aT V lv (.mk m I):=by
 rcases lv with _|lv;.exact⟨h,rfl⟩
 exact⟨h,fun x e=>nomatch e⟩
theorem KR.mr(h:KR c T (.mk m I) e):MR T m e:=by obtain⟨l,q,a,b,d⟩:=h;cases show q=I from d;exact⟨l,a,b⟩
theorem SY(Z:j<4):lB .add σ (.str (cU c)) (.str ⟨#[48+j]⟩)=D (.str (cU c++⟨#[48+j]⟩),σ):=by induction j,Z using qJ<;>cases c<;>rfl
theorem SZ(Z:j<4):iI .str σ [.int j]=D (.str ⟨#[48+j]⟩,σ):=by induction j,Z using qJ<;>rfl
theorem S6:∀c,∀j,j<4->mc (cU c++⟨#[48+j]⟩)=true:=by decide+kernel
theorem S7(Z:j<4):fi 4 (iP c j q)=true:=by obtain⟨i,o1⟩:=q;show(mc (cU c++⟨#[48+j]⟩)&&(Y&&(fi 3 (eB o1)&&Y)))=Y;rw[S6 c j Z];cases o1<;>rfl
theorem S8:∀{pl:List (Nat×Bool)}{j:Nat},j+pl.length<=4->∀d∈bg c j pl,fi 4 d=true:=by intro pl;induction pl with|nil=>intro j _ d h;exact ae h bK|cons q r Z=>
intro j l d h;have l:j+(r.length+1)<=4:=l;rcases ce.mp h with rfl|h;.exact S7 (aC 0x416a0a002045001 rfl l)
.exact Z (aC 0x416a0a0020454b400000 rfl l) d h
def tI(c:Bool)(A:Ad)(f V lv F u:Nat):Prop:=∀{n b:Nat}{T:List aa}{σ:AH}{k:Po}{K:Kd},Tb A (b+u) T σ->aT V lv K->(∀t T' Z,Tb A b T' Z->T<+:T'->Fr A.aQ σ Z->KR c T' K t->k (.int t) Z)->CW (n+F) 140 [.ref A.az,aL K,.str (cU c),.int f] σ k
theorem S9(h:Tb A (b+1) T σ)(hi:σ[i]?=D (.list es))(U:es.length<8)(J:∀d∈es,fi 4 d=Y)(H:fi 5 X=Y)(Q:∀(t:Nat)T' Z,Tb A b T' Z->T<+:T'->Fr A.aQ σ Z->T'[t]?=D (eC es rt X O)->k (.int t) Z):CW (n+2) 19 [.ref A.az,.ab [],.ref i,.int rt,X,.int O] σ k:=by refine yf ?_;apply p (we hi (ax 433826385921 rfl U));refine mR (n:=n) h ?_ rfl fun t T' Z a b c d=>Q t T' Z a b d c;show(Y&&(Y&&(kF 4 es&&(Y&&(fi 5 X&&(Y&&Y))))))=Y;rw[HV J,H];rfl
end
section
theorem Ta{p:Option (Int×Option Nat×Int)}:nV .ne σ (dG p) (.ab [])=D (!p.isNone):=by show(match hH σ (dG p) (.ab [])with|some c=>D (!c)|none=>I)=_;rw[Hw]
theorem Tc{r:Nat}(C:tI c A f V l F u)(hF:3<=F)(O:aT V l U)(M:∀a k b,Z=D (a,k,b)->∀m,k=D m->Nm m)(h:Tb A (b+1+u+u) T σ)(c0:σ[r]?=D (.list es))(v:r∉A.aQ)(i:es.length<8)(e:∀d∈es,fi 4 d=Y)(y:∀(t rt:Nat)J T' H,Tb A b T' H->T<+:T'->Fr A.aQ σ H->T'[t]?=D (eC es rt J z)->KR c T' U rt->hW T' Z J->aw.kr (.int t) H):aP WD (CW (n+F)) (bx 5 pg) [D (.ref A.az),x,D (.str (cU c)),D (.int f),v4,v5,v6,D (aL U),D (dG Z),D (.int z),D (.ref r),gT,dq,cQ,I] σ aw:=by
 have Q:∀{J E X},Tb A (b+1+u) E X->T<+:E->Fr A.aQ σ X->fi 5 J=Y->(∀T',E<+:T'->hW T' Z J)->aP WD (CW (n+F)) (bx 7 pg) [D (.ref A.az),x,D (.str (cU c)),D (.int f),v4,v5,v6,D (aL U),D (dG Z),D (.int z),D (.ref r),gT,dq,cQ,D J] X aw:=fun{J E X}L p1 s kp K=>by show CW (n+F) 140 [.ref A.az,aL U,.str (cU c),.int f] X _;refine C L O fun rt T2 cz a2 b2 q e2=>?_;clear C;obtain⟨g,rfl⟩:∃g,F=g+2:=so (Kz ‹3<=F›);exact S9 (n:=n+g) a2 (q _ _ (s _ _ c0 v) v) i e kp fun t T3 j a3 w d3 e3=>y t rt J T3 j a3 ((p1.trans b2).trans w) ((s.trans q).trans d3) e3 (e2.aq w) (K _ (b2.trans w))
 apply o (Ta (σ:=σ) (p:=Z));clear y;rcases Z with _|⟨a,_|m,b'⟩;.exact Q (h.le (b8 _ _)) (dg T) .rfl rfl fun _ _=>rfl
 .exact Q (h.le (b8 _ _)) (dg T) .rfl rfl fun _ _=>rfl
 .show CW (n+F) 140 [.ref A.az,aL (.mk m I),.str (cU c),.int f] σ _;refine C h (tH (M _ _ _ rfl m rfl)) fun t E X a1 b1 d1 e1=>?_;exact Q a1 b1 d1 rfl fun T' K=>⟨t,rfl,(e1.mr).aq K⟩
theorem Ap(h:Tb A (b+1) T σ)(X:∀(t:Nat)T' Z,Tb A b T' Z->T<+:T'->T'[t]?=D (lL e 0)->Fr A.aQ σ Z->k (.int t) Z):CW (n+2) 14 [.ref A.az,.int e] σ k:=M1 (mR (n:=n) h rfl rfl X)
end
section
structure Lp(c:Bool)(A:Ad)(ps:List (Kd×Bool))(sp r b j:Nat)(T:List aa)(σ:AH)(T':List aa)(au:AH)(pl:List (Nat×Bool)):Prop where
tb:Tb A b T' au
pre:T<+:T'
fr:Fr A.aQ σ au
ks:dY c T' (ps.take j) pl
len:pl.length=j
c0:au[r]?=D (.list (bg c 0 (pl.take sp)))c1:au[r+1]?=D (.list ((pl.drop sp).map bc))lo:A.az<r/\A.r<r/\A.ix<r/\A.bd<r
theorem Lp.wj(h:Tb A b T' X)(lo:A.az<r/\A.r<r/\A.ix<r/\A.bd<r)(U:r<=j):Tb A b T' (X.set j o'):=by
 have Z:∀{i:Nat},i<r->i∉[j]:=fun{i}e q=>by have:=ba.mp q;exact fk 0xad832a5821ad02021003 rfl U e this
 exact h.fr (O:=[j]) (Fr.rfl.set aW) (Z lo.1) (Z lo.2.2.2) (Z lo.2.1) (Z lo.2.2.1)
theorem Td:fi 4 (de c tt)=true:=by show(mc (cU c)&&(Y&&(Y&&Y)))=Y;rw[(by decide+kernel:∀c,mc (cU c)=Y) c];rfl
theorem H3:∀{sp:Nat}{ps:List (Kd×Bool)}{pl:List (Nat×Bool)},fD ps=Y->dY c T ps pl->Mo (pl.drop sp)|0,ps,pl,h,ks=>zB h ks|sp+1,[],pl,h,ks=>by rw[show pl=[]from ks];exact fun i q e=>nomatch e|sp+1,p::r,pl,h,ks=>by obtain⟨i,Z,rfl,_,ks⟩:=ks;exact H3 (sp:=sp) (fe.mp h).2 ks
theorem H4(hT:tI c A f V lv F u)(hF:3<=F)(hw:bo V lv x)(h:Tb A (b+2+3*u+u*4) T σ)(hk:∀(t:Nat)T' X,Tb A b T' X->T<+:T'->Fr A.aQ σ X->SR c T' x t->k (.int t) X):CW (n+F+1) 141 [.ref A.az,aF x,.str (cU c),.int f] σ k:=by
 obtain⟨ps,sp,rest,Q,Z,C⟩:=x;obtain⟨ok,Tf,Th⟩:=hw;have g:ps.length<=4:=ok.len;have e1:(fC ps).length=ps.length:=by rw[kf,aJ]
 have lt:(fC ps).length<av:=by rw[e1];exact ax 296386383873 rfl g
 have e2:(σ++[AO.list []]).length=σ.length+1:=by rw[aU];rfl
 have lo:A.az<σ.length/\A.r<σ.length/\A.ix<σ.length/\A.bd<σ.length:=by refine cps fun P hP=>?_;obtain⟨_,ct,_⟩:=h.ct;refine hP ?_;exact⟨(bp.mp ct).1,(bp.mp h.cr).1,(bp.mp h.cx).1,(bp.mp h.ch).1⟩
 have pos:=h.pos;refine N8 ?_;apply p (ip lt);refine⟨by rw[jw lt,aN (by rw[e1];exact ax 0x8a041e848040d009 rfl g)];rfl,?_⟩;rw[e1,ic,e2];refine lU (fun j lc X=>E4 fun dq cQ pl T'=>lc=[D (.ref A.az),D (aF ⟨ps,sp,rest,Q,Z,C⟩),D (.str (cU c)),D (.int f),D (.ab (fC ps)),D (.int sp),D (eO rest),D (aL Q),D (dG Z),D (.int C),D (.ref σ.length),D (.ref (σ.length+1)),dq,cQ,I]/\Lp c A ps sp σ.length (b+2+3*u+u*(4-j)) j T σ T' X pl) ?_ ?_ ⟨I,I,[],T,rfl,h.cp.cp,dg T,Fr.new.cp,rfl,rfl,by rw[xy];exact du aS,by rw[e2.symm,xx];exact aS,lo⟩
 .rintro lc bY⟨dq,cQ,pl,T1,rfl,L⟩;have hb:Tb A (b+1+u+u+1+u) T1 bY:=L.tb.le (fz 0x2d518cd4000152d6a5a000000000 rfl);have ks:=L.ks;rw[rX]at ks;have no:σ.length∉A.aQ:=iS (R:=σ.length) lo (aE _);have U:=L.len;have n0:σ[σ.length]?=none:=jo (aE _);have n1:σ[σ.length+1]?=none:=jo (dh _);have l1:(bg c 0 (pl.take sp)).length<=4:=by rw[ej,ie];exact bj (jT _ _) (U▸g)
  have mo:Mo (pl.drop sp):=H3 ok.aq ks;have fp:∀{E H e tl},Tb A (b+1+u+u) E H->T1<+:E->Fr A.aQ σ H->H[σ.length]?=D (.list (bg c 0 (pl.take sp)++tl))->tl.length<=1->(∀d∈tl,fi 4 d=Y)->fE c E (pl.drop sp) rest e tl->mO E rest e->aP WD (CW (n+F)) (bx 5 pg) [D (.ref A.az),D (aF ⟨ps,sp,rest,Q,Z,C⟩),D (.str (cU c)),D (.int f),D (.ab (fC ps)),D (.int sp),D (eO rest),D (aL Q),D (dG Z),D (.int C),D (.ref σ.length),D (.ref (σ.length+1)),dq,cQ,I] H (kR k):=fun{E H e tl}h3 p3 f3 c0 l2 k2 ht hr=>Tc hT hF Th (fun a k b e m em=>(ok.pred a k b e).2.2.2.2 m em) h3 c0 no (by rw[aU];exact b5 0xb50811408195a0001 rfl l1 l2) (fun d hd=>(dI.mp hd).elim (S8 (by rw[ie,gj];exact bj (jT _ _) (U▸g)) d) (k2 d)) fun t rt pd T4 jc a4 b4 d4 e4 r4 q4=>hk t T4 jc a4 ((L.pre.trans p3).trans b4) (f3.trans d4) ⟨pl,e,rt,pd,tl,e4,ks.aq (p3.trans b4),r4,hr.aq b4,q4,ht.aq b4⟩;have c0:=L.c0;have c1:=L.c1;have d4:(pl.drop sp).length<=4:=by rw[rZ];exact bj (qi _ _) (U▸g)
  generalize pl.drop sp=dl at*;have H5:(dl.map bc).length<av:=by rw[aJ];exact ax 296386383873 rfl d4
  obtain⟨M,rfl⟩:∃M,F=M+3:=so ‹3<=F›;have add:∀{E J H e y},J[σ.length]?=D (.list (bg c 0 (pl.take sp)))->Tb A (b+1+u+u) E H->T1<+:E->Fr A.aQ σ H->H[σ.length]?=D (.list (bg c 0 (pl.take sp)))->fE c E dl rest e [de c y]->mO E rest e->dt WD (CW (n+(M+3))) 0 σ.length J H [de c y] fun d X=>br (iJ d) (aP WD (CW (n+(M+3))) (bx 5 pg) [D (.ref A.az),D (aF ⟨ps,sp,rest,Q,Z,C⟩),D (.str (cU c)),D (.int f),D (.ab (fC ps)),D (.int sp),D (eO rest),D (aL Q),D (dG Z),D (.int C),D (.ref σ.length),D (.ref (σ.length+1)),dq,cQ,I] X (kR k)) False:=fun{E J H e y}g2 h3 p3 f3 g3 ht hr=>by apply o g2;apply o (eA g3);apply p (gy (v:=de c y) (ax 296386383873 rfl l1) (ax 691524489222 rfl pos));refine fp (e:=e) (tl:=[de c y]) (Lp.wj h3 lo (aE _)) p3 (f3.kI n0) (eV g3) (aE 1) (fun d hd=>?_) ht hr;rw[ba.mp hd];exact Td
  apply p (dv c1 H5);rcases dl with _|⟨x,r⟩
  .rcases rest with _|m;.exact fp (e:=0) (tl:=[]) (hb.le (bB 0xa96b52d00000015a968000000 rfl)) (dg _) L.fr (by rw[bO];exact c0) (bQ 1) (fun d hd=>ae hd bK) rfl trivial
   show CW (n+(M+3)) 140 [.ref A.az,aL (.mk m I),.str (cU c),.int f] bY _;refine hT hb (tH (ok.rest m rfl)) fun e T2 J a2 b2 z e2=>?_;show CW (n+(M+1)+2) 14 [.ref A.az,.int e] J _;refine Ap a2 fun y E H a3 b3 g3 d3=>?_;exact add c0 a3 (b2.trans b3) ((L.fr.trans z).trans d3) (d3 _ _ (z _ _ c0 no) no) ⟨y,rfl,g3⟩ (e2.mr.aq b3)
  refine bt (aN (by rw[aJ];exact l8.mpr (fg _))) ?_;have ab:∀{T2 J e},Tb A (b+1+u+u+1) T2 J->T1<+:T2->Fr A.aQ σ J->J[σ.length]?=D (.list (bg c 0 (pl.take sp)))->J[σ.length+1]?=D (.list ((x::r).map bc++bv rest e))->mO T2 rest e->CW (n+(M+3)) 18 [.ref A.az,.ref (σ.length+1)] J fun d X=>dt WD (CW (n+(M+3))) 0 σ.length J X [.ab [.str (cU c),d,.int 2]] fun d X=>br (iJ d) (aP WD (CW (n+(M+3))) (bx 5 pg) [D (.ref A.az),D (aF ⟨ps,sp,rest,Q,Z,C⟩),D (.str (cU c)),D (.int f),D (.ab (fC ps)),D (.int sp),D (eO rest),D (aL Q),D (dG Z),D (.int C),D (.ref σ.length),D (.ref (σ.length+1)),dq,cQ,I] X (kR k)) False:=fun{T2 J e}a2 b2 z g0 g1 hr=>by refine M6 (HW (n:=n+M) (ro:=0) a2 g1 d4 mo fun y E H a3 b3 g3 d3=>?_);exact add g0 a3 (b2.trans b3) (z.trans d3) (d3 _ _ g0 no) ⟨y,rfl,g3⟩ (hr.aq b3)
  rcases rest with _|m;.exact ab (e:=0) (hb.le (bB 0x2a5ad4b400000016b52d00000000 rfl)) (dg _) L.fr c0 (by rw[show bv I 0=[]from rfl,bO];exact c1) trivial
  show CW (n+(M+3)) 140 [.ref A.az,aL (.mk m I),.str (cU c),.int f] bY _;refine hT hb (tH (ok.rest m rfl)) fun e T2 J a2 b2 z e2=>?_;have g1:=z _ _ c1 (iS (R:=σ.length) lo (dh _));apply o c1;apply o (eA g1);apply p (gy (v:=.ab [.int e,.int 2]) H5 (aB 140115974 rfl));exact ab (e:=e) (Lp.wj a2 lo (dh _)) b2 ((L.fr.trans z).kI n1) (bm (z _ _ c0 no) (Nat.succ_ne_self _)) (eV g1) e2.mr
 .rintro j lc X K s⟨dq,cQ,pl,T',rfl,L⟩hK;have hq:=dL s;have wq:=Tf _ (xz s);generalize ps[j]=q at hq wq;obtain⟨kj,w⟩:=q;have he:(fC ps)[j]?=D (cy (kj,w)):=by rw[kf,gm,hq];rfl
  have hs:=gI he lt;apply o hs;show CW (n+F) 140 [.ref A.az,aL kj,.str (cU c),.int f] X _;have tb:=L.tb;rw[mJ (iW s g),Zb,<-eL]at tb;refine hT tb wq fun t l O a1 b1 d1 e3=>?_;have c0:=d1 _ _ L.c0 (iS (R:=σ.length) lo (aE _));have c1:=d1 _ _ L.c1 (iS (R:=σ.length) lo (dh _));have ks:dY c l (ps.take (j+1)) (pl++[(t,w)]):=by rw[K9,hq];exact(L.ks.aq b1).SX e3
  have U:=L.len;have n0:σ[σ.length]?=none:=jo (aE _);have n1:σ[σ.length+1]?=none:=jo (dh _);refine bD (fun q=>?_) fun q=>?_
  .apply p (SZ (j:=j) (b5 0xad0214542045001 rfl g s));apply p (SY (j:=j) (b5 0xad0214542045001 rfl g s));apply o hs;have q:j<sp:=cw.mp q;have i:dt WD (CW (n+F)) 0 σ.length O O [iP c j (t,w)] fun d X=>br (iJ d) (K [D (.ref A.az),D (aF ⟨ps,sp,rest,Q,Z,C⟩),D (.str (cU c)),D (.int f),D (.ab (fC ps)),D (.int sp),D (eO rest),D (aL Q),D (dG Z),D (.int C),D (.ref σ.length),D (.ref (σ.length+1)),D (.int j),D (.int t),I] X) False:=by
    apply o c0;apply o (eA c0);have l1:(bg c 0 (pl.take sp)).length<av:=by rw[ej,ie];exact dM (bj (jT _ _) (U▸li (iW s g))) (cm rfl:4<av)
    apply p (gy (v:=iP c j (t,w)) l1 (ax 691524489222 rfl pos));refine hK _ _ ⟨_,_,pl++[(t,w)],l,rfl,Lp.wj a1 lo (aE _),L.pre.trans b1,(L.fr.trans d1).kI n0,ks,by rw[aU,U];rfl,?_,?_,lo⟩;.rw[eV c0,uz (U▸li q),uz (by rw[aU,U];exact q),SW,U,gj]
    .rw[bm c1 (lb (mf _)),Zi (U▸li q),Zi (by rw[aU,U];exact q)]
   clear hq wq he hs ks;cases w<;>exact i
  .apply o hs;have q:sp<=j:=kt fun r=>q (cw.mpr r);have i:dt WD (CW (n+F)) 0 (σ.length+1) O O [bc (t,w)] fun d X=>br (iJ d) (K [D (.ref A.az),D (aF ⟨ps,sp,rest,Q,Z,C⟩),D (.str (cU c)),D (.int f),D (.ab (fC ps)),D (.int sp),D (eO rest),D (aL Q),D (dG Z),D (.int C),D (.ref σ.length),D (.ref (σ.length+1)),D (.int j),D (.int t),I] X) False:=by
    apply o c1;apply o (eA c1);have l1:((pl.drop sp).map bc).length<av:=by rw[aJ,rZ];exact dM (bj (qi _ _) (U▸li (iW s g))) (cm rfl:4<av)
    apply p (gy (v:=bc (t,w)) l1 (aB 140115974 rfl));refine hK _ _ ⟨_,_,pl++[(t,w)],l,rfl,Lp.wj a1 lo (dh _),L.pre.trans b1,(L.fr.trans d1).kI n1,ks,by rw[aU,U];rfl,?_,?_,lo⟩;.rw[bm c0 (g8 (lb (mf _))),List.take_append_of_le_length (U▸q)]
    .rw[eV c1,xr (U▸q),g7];rfl
   clear hq wq he hs ks;cases w<;>exact i
end
section
variable{b n f F u lv V:Nat}
theorem Ti(Z:f<2):tI c A f V 0 5 14:=fun{n b T σ k K}h X U=>by obtain⟨m,s⟩:=K;obtain⟨J,rfl⟩:=X;exact H1 (u:=0) Z J h (fun x e=>nomatch e) U
theorem H7(U:f<2)(J:tI c A f V lv (F+5) u):tI c A f V (lv+1) (F+7) (16+7*u):=fun{n b T σ k K}h X Z=>by obtain⟨m,s⟩:=K;have H:=X.1;have Q:=X.2;refine H1 (n:=n+F+2) (u:=2+3*u+u*4) U H (h.le (by rw[Nat.mul_comm u 4];exact bB 0x2a71c02105011a907518cc00168000000 rfl)) (fun x e=>?_) Z;obtain⟨⟨O,_⟩,w⟩:=Q x e;exact⟨O,fun{T σ k}h Z=>H4 (n:=n) (F:=F+5) (b:=b+1) J (aB 322968576 rfl) w (h.le (fz 0xb546330005a0016a8c662d00000000 rfl)) Z⟩
theorem H8(X:f<2)(U:bo V 2 x)(h:Tb A (b+5700) T σ)(J:∀(t:Nat)T' Z,Tb A b T' Z->T<+:T'->Fr A.aQ σ Z->SR c T' x t->k (.int t) Z):CW (n+10) 141 [.ref A.az,aF x,.str (cU c),.int f] σ k:=H4 (F:=9) (u:=814) (H7 (F:=2) (u:=114) X (H7 (F:=0) (u:=14) X (Ti X))) (by decide) U h J
end
section
variable{k:Po}
theorem Tj(Z:lc[0]?=D (D (.ref σ.length)))(X:(WD.gu c f&&decide (fs.length<500))=Y)(U:0<σ.length)(J:∀(k:Po),k x (σ++.bl c fs::H9)->wE WD K e lc (σ++.bl c fs::H) k)(Q:aw.kn lc (σ++.bl c (iH fs f x)::H9)):wS WD K (.cT (.var 0) f e) lc (σ++.bl c fs::H) aw:=by refine J _ ?_;show gL lc[0]? _;rw[Z];exact o (An X U) Q
noncomputable def Ia(A:Ad)(R V:Nat):AH:=[.bl 7 (lP A R V 0 (R+4)),.dict [],.dict [],.dict [],.list [],.list [],.bl 3 [(6,.ref (R+7))],.list []]
theorem Tk(Z:0<σ.length)(X:k (.ref σ.length) (σ++[.bl 3 [(6,.ref (σ.length+1))],.list []])):lG WD (CW (n+1)) 3 [] σ k:=by refine MW ?_;refine jg (x:=.list []) rfl rfl Z (fun _ _ h=>h) ?_;exact X
theorem Tl(Z:0<σ.length)(X:k (.ref (σ.length+l.length)) (σ++(l++[.bl 3 [(6,.ref (σ.length+l.length+1))],.list []]))):lG WD (CW (n+1)) 3 [] (σ++l) k:=Tk (by rw[aU];exact aC 708121647386625 rfl Z) (by rw[aU,dy];exact X)
theorem Ib(Z:0<σ.length)(X:k (.ref σ.length) (σ++Ia A σ.length V)):lG WD (CW (n+2)) 7 [.ref A.bd,.int V] σ k:=by
 refine Nu ?_;refine jG (v:=.ref A.bd) rfl rfl Z (fun _ _ h=>h) ?_;refine jG (v:=.int V) rfl rfl Z (fun _ _ h=>h) ?_;refine jg (x:=.dict []) rfl rfl Z (fun _ _ h=>h) ?_;refine jg (x:=.dict []) rfl rfl Z (fun _ _ h=>h) ?_;refine jg (x:=.dict []) rfl rfl Z (fun _ _ h=>h) ?_;refine jg (x:=.list []) rfl rfl Z (fun _ _ h=>h) ?_;refine jg (x:=.list []) rfl rfl Z (fun _ _ h=>h) ?_;refine jG (v:=.int 0) rfl rfl Z (fun _ _ h=>h) ?_;refine Tj (x:=.ref (σ.length+6)) (H9:=[.dict [],.dict [],.dict [],.list [],.list [],.bl 3 [(6,.ref (σ.length+7))],.list []]) rfl rfl Z (fun k X=>?_) ?_;.exact Tl Z X
 refine jG (v:=.bool Y) rfl rfl Z (fun _ _ h=>h) ?_;refine jG (v:=.none) rfl rfl Z (fun _ _ h=>h) ?_;refine jG (v:=.str (S0 "")) rfl rfl Z (fun _ _ h=>h) ?_;refine jG (v:=.int 0) rfl rfl Z (fun _ _ h=>h) ?_;exact X
theorem Ic(hi:WD.uO c=D I)(U:WD.mH g=D d)(J:l[0]?=D (.bl 7 fs))(H:WD.gu 7 33=Y)(Q:jV fs 33=D (.ref (σ.length+1)))(O:l[1]?=D (.dict es))(Z:dd es d=Y)(E:es.length<av)(C:aw.kn [D (.ref σ.length)] (σ++(l++[AO.bl c []]).set 1 (.dict (eR es d (.ref (σ.length+l.length)))))):wS WD K (.gr (.ao (.var 0) 33) (.ai g) (.new c .nil)) [D (.ref σ.length)] (σ++l) aw:=by have X:∀{j:Nat}{o},l[j]?=D o->((σ++l)++[AO.bl c []])[σ.length+j]?=D o:=fun{j o}e=>du (rv.trans e);apply o hi;apply o (fL (f:=33) (X (j:=0) J) H Q);apply o U;apply o (mM (X (j:=1) O) Z E (xB _));rw[dy,KG _ _ (b8 _ 1),xv,aU];exact C
theorem Id(h:Tb A b T σ)(X:∀Z,St A σ.length b T V 0 [] [] [] [] (σ.length+4) Z->Fr [] σ Z->k .none Z):CW (n+1) 130 [.ref σ.length] (σ++Ia A σ.length V) k:=by refine NV ?_;refine Ic (c:=8) (d:=.int 3) rfl rfl rfl rfl rfl rfl rfl (cK rfl) ?_;refine Ic (c:=9) (d:=.int 8) rfl rfl rfl rfl rfl rfl rfl (cK rfl) ?_;have g:∀{l:AH}{j:Nat}{o:AO},l[j]?=D o->(σ++l)[σ.length+j]?=D o:=fun e=>rv.trans e;obtain⟨_,U,_⟩:=h.ct;refine X _ ⟨h.cp,g (j:=0) rfl,g (j:=1) rfl,g (j:=2) rfl,g (j:=3) rfl,g (j:=4) rfl,g (j:=6) rfl,g (j:=7) rfl,g (j:=8) rfl,g (j:=9) rfl,⟨(bp.mp U).1,(bp.mp h.cr).1,(bp.mp h.cx).1,(bp.mp h.ch).1⟩,.inl rfl⟩ .new
end
section
variable{b n i r v:Nat}{N P:List Nat}
theorem Tm{p:Nat}{v:aa}:∀{es:List (aa×aa)}{P:List Nat},es.map (·.1)=aZ P->(eR es (.int p) v).map (·.1)=aZ (gR P p):=by intro es;induction es with
|nil=>
  intro P h;rcases P with _|⟨x,P⟩;.rfl
  .cases h|cons J r X=>
  obtain⟨a,w⟩:=J;intro P h;rcases P with _|⟨x,P⟩;.cases h
  have H:a=.int x:=(gX h).1;have U:r.map (·.1)=aZ P:=(gX h).2;clear h;subst H;have Z:=X U;show(if aa.int x=aa.int p then(aa.int x,v)::r else(aa.int x,w)::eR r (.int p) v).map (·.1)=_;unfold gR at Z⊢;by_cases e:x=p;.clear Z;subst e;rw[af rfl,af aW];exact aI (aa.int x::·) U
  .rw[am fun q=>e (j4 q)];by_cases m:p∈P;.rw[af m]at Z;rw[af (cI _ m)];exact aI (aa.int x::·) Z
   .rw[am m]at Z;rw[am fun q=>(ce.mp q).elim (fun q=>e q.symm) m];exact aI (aa.int x::·) Z
theorem Tn(h:es.map (·.1)=aZ P){p:Nat}:dd es (.int p)=true:=by unfold dd;refine fe.mpr ⟨rfl,fR.mpr fun x Z=>?_⟩;have:x.1∈aZ P:=h▸List.mem_map_of_mem Z;obtain⟨q,_,e⟩:=gZ.mp this;rw[e.symm];rfl
theorem To:∀{P:List Nat},ju (aZ P)=D (P.map fun(n:Nat)=>(n:Int)):=by intro P;induction P with|nil=>exact rfl|cons x r Z=>exact aI (KE ((x:Int)::·)) (Z)
noncomputable def tJ:List (List Nat):=[[],[1],[2],[11],[1,2],[2,1],[1,11],[11,1],[2,11],[11,2],[1,2,11],[1,11,2],[2,1,11],[2,11,1],[11,1,2],[11,2,1]]
noncomputable def wm(P:List Nat):List Nat:=(if 1∈P then[1]else[])++((if 2∈P then[2]else[])++(if 11∈P then[11]else[]))
theorem Ie:∀{P:List Nat},P.Nodup->(∀x∈P,x=1\/x=2\/x=11)->P∈tJ:=by intro P;induction P with|nil=>intro _ _;decide|cons a r ih=>
intro nd h;have:∀a∈[1,2,11],∀r∈tJ,a∉r->a::r∈tJ:=by decide+kernel
exact this a (by clear nd;rcases h a aW with rfl|rfl|rfl<;>decide) r (ih (fh.mp nd).2 fun x hx=>h x (cI _ hx)) (fh.mp nd).1
theorem Tp(nd:P.Nodup)(h:∀x∈P,x=1\/x=2\/x=11):jW (P.map fun(n:Nat)=>(n:Int))=(wm P).map fun(n:Nat)=>(n:Int):=(by decide+kernel:∀P∈tJ,jW (P.map fun(n:Nat)=>(n:Int))=(wm P).map fun(n:Nat)=>(n:Int)) P (Ie nd h)
theorem Tq(h:∀x,x∈P↔x∈cW (v:Int)):wm P=cW (v:Int):=by
 have f:∀{x:Nat}{b:Bool},(x∈P↔b=Y)->(if x∈P then[x]else[])=if b=Y then[x]else[]:=fun{x b}e=>by
  by_cases q:x∈P;.rw[af q,af (e.mp q)]
  .rw[am q,am fun r=>q (e.mpr r)]
 have m:∀x,x∈P↔_:=fun x=>(h x).trans tf;unfold wm cW;rw[f (b:=v.testBit 0) ((m 1).trans ⟨fun q=>q.elim (·.1) fun q=>q.elim (fun q=>ae q.2 (by decide)) fun q=>ae q.2 (by decide),fun q=>.inl ⟨q,rfl⟩⟩),f (b:=v.testBit 1) ((m 2).trans ⟨fun q=>q.elim (fun q=>ae q.2 (by decide)) fun q=>q.elim (·.1) fun q=>ae q.2 (by decide),fun q=>.inr (.inl ⟨q,rfl⟩)⟩),f (b:=v.testBit 2) ((m 11).trans ⟨fun q=>q.elim (fun q=>ae q.2 (by decide)) fun q=>q.elim (fun q=>ae q.2 (by decide)) (·.1),fun q=>.inr (.inr ⟨q,rfl⟩)⟩),ic]
theorem Ts(h:σ[r]?=D (.bl 3 [(6,.ref i)]))(hi:σ[i]?=D (.list (N.map eN)))(E:N.length<av)(Q:∀x,x∈N↔x∈cW (v:Int))(pos:0<σ.length)(C:∀(c:Nat)Z,Fr [] σ Z->Z[c]?=D (.list (aZ (cW (v:Int))))->k (.ref c) Z):CW (n+1) 6 [.ref r] σ k:=by
 have m:∀x∈N,x=1\/x=2\/x=11:=fun x X=>(tf.mp ((Q x).mp X)).imp La (Or.imp La La);have O:∀{P:List Nat},P.Nodup->(∀x∈P,x∈N)->P.length<4:=fun{P}nd h=>by have:=Ie nd fun x X=>m x (h x X);exact(by decide:∀P∈tJ,P.length<4) P this
 have M:(N.map eN).length<av:=by rw[aJ];exact E
 refine MY ?_;apply o (fL (f:=6) (du h) rfl rfl);apply o (kJ (du hi) M);refine j3 (fun l lc Z=>E6 fun H v3 P es a L=>A7 (lc=[D (.ref r),D (.ref σ.length),H,v3]) (Z=σ++[.dict es]) (es.map (·.1)=aZ P) P.Nodup (l=L.map eN) (N=a++L) (∀x,x∈P↔x∈a)) ?_ ?_ ?_ ⟨I,I,[],[],[],N,rfl,rfl,rfl,jP,rfl,rfl,fun x=>Bw⟩;.rintro l lc Z⟨_,_,_,_,_,_,_,rfl,_⟩;exact du hi
 .rintro lc Z⟨H,v3,P,es,a,L,rfl,rfl,U,nd,J,e,X⟩;have:L=[]:=List.map_eq_nil_iff.mp J.symm;clear J;subst this;rw[bO]at e;subst e;apply p (show iI .sorted (σ++[.dict es]) [.ref σ.length]=D (.ref (σ++[AO.dict es]).length,σ++[.dict es]++[.list ((jW (P.map fun(n:Nat)=>(n:Int))).map .int)])by show qC (σ++[AO.dict es]) (.ref σ.length)=_;unfold qC;dsimp only;rw[aS];show(ju (es.map (·.1))).bind _=_;rw[U,To,qh,aJ,af (gY (O nd fun x h=>(X x).mp h) (by decide))]);refine C _ _ (Fr.new.trans .new) (aS.trans ?_);rw[Tp nd fun x h=>m x ((X x).mp h),Tq (v:=v) fun x=>(X x).trans (Q x),BC];rfl
 .rintro x l lc Z K⟨H,v3,P,es,a,L,rfl,rfl,U,nd,J,e,X⟩A;rcases L with _|⟨y,L⟩;.cases J
  cases J;have g:es.length<av:=by
   have:es.length=P.length:=by rw[<-aJ (f:=(·.1)),U,jB]
   rw[this];exact gY (O nd fun x h=>e▸mh _ ((X x).mp h)) (by decide)
  apply o (mM (d:=.int y) (v:=.int 0) (aS (σ:=σ)) (Tn U) g (jl pos));refine A _ _ ⟨_,_,gR P y,_,a++[y],L,rfl,qS,Tm U,vf nd,rfl,by rw[dy];exact e,fun x=>?_⟩;rw[qQ,X,dI,ba]
end
noncomputable def eI(C:bh)(r ret fl:Nat):aa:=eC [.ab [.str C,.int r,.int 2]] ret (.ab []) fl
noncomputable def oD(b7:Nat)(x:Sg):Nat:=match b7 with|0=>0|1=>1|_=>if b6 x>0 then 4 else 0
structure lW(T:List aa)(b7 r e:Nat):Prop where
lt:b7<3
z:b7=0->r=2/\e=2
o:b7=1->e=0/\T[r]?=D (lL 0 0)w:b7=2->e=2/\T[r]?=D (lL 2 0)
section
variable{R W b b' dp m b0 F L n w s t r e ret fl b7:Nat}
theorem Ig(h:Tb A b T σ)(J:T[t]?=D (eI Q r ret fl))(H:(r=2/\e=2)\/T[r]?=D (lL e 0))(Z:e=0\/e=2)(X:ret=0\/ret=1->k (.int e) σ)(U:¬(ret=0\/ret=1)->k (.int (-1)) σ):CW (n+2) 115 [.ref A.bd,.int t] σ k:=by
 refine EF ?_;refine h.dw J ?_;refine eE h ?_;apply o h.az;apply o h.fW;clear J;rcases H with⟨rfl,rfl⟩|e1;.apply o (h.row (bX h.base (show cH[2]?=D (dJ "never")from rfl)));refine eE h ?_;exact vT X U
 .apply o (h.row e1);refine eE h ?_;refine eE h ?_;clear e1;rcases Z with rfl|rfl;.exact vT X U
  .exact vT X U
theorem lW.el(h:lW T b7 r e):((r=2/\e=2)\/T[r]?=D (lL e 0))/\(e=0\/e=2):=by
 rcases(qI 0 h.lt (bQ _):b7=0\/b7=1\/b7=2)with q|q|q;.obtain⟨rfl,rfl⟩:=h.z q;exact⟨.inl ⟨rfl,rfl⟩,.inr rfl⟩
 .obtain⟨rfl,a⟩:=h.o q;exact⟨.inr a,.inl rfl⟩
 .obtain⟨rfl,a⟩:=h.w q;exact⟨.inr a,.inr rfl⟩
theorem Ih(Z:SR c T x s)(O:kL V x)(h:T[t]?=D (eI U r ret fl))(E:cU c++⟨#[48]⟩≠U)(X:cU c≠U\/r=2)(H:cH<+:T):s≠t:=fun q=>by
 obtain⟨pl,e,rt,M,tl,Z⟩:=Z.sv O;have:=Z.row;rw[q,h]at this;have e1:[aa.ab [.str U,.int r,.int 2]]=bg c 0 (pl.take x.sp)++tl:=by injection this with this;injection this with this;injection this with _ this;injection this with _ this;injection this with this _;injection this
 rcases Q:pl.take x.sp with _|⟨p,ps⟩
 .rw[Q]at e1;clear this;obtain⟨C,rfl⟩:=Z.pW (fun q=>by rw[q]at e1;cases e1);have:=(gX e1).1;injection this with this;injection this with a this;injection a with a;injection this with b _;injection b with b;rcases X with X|X;.exact X a.symm
  .have b:=dr b;have J:C=2:=b.symm.trans X;subst J;rcases Z.tail.row rfl with⟨_,_,e2⟩|⟨_,e2⟩;.exact gM (fM H e2 rfl) rfl
   .exact gM (fM H e2 rfl) rfl
 rw[Q]at e1;have:=(gX e1).1;injection this with this;injection this with this _;injection this with this;exact E this.symm
theorem Tt(f:V∈[1,2,4])(h:Iv A R W V (b+1+8) dp m b0 S)(C:SR c S.T x s)(Q:bo V w x)(M:S.T[t]?=D (eI (S0 "z") r ret fl))(H:lW S.T b7 r e)(O:ret=0\/ret=1)(d:V=4->db x=aj)(X:∀E,Pw A R W V b dp m b0 (if V=4 then 0 else oD b7 x:Nat) S E->k (.bool Y) E.σ):CW (n+12) 118 [.ref R,.int s,.int t,.bool ay] S.σ k:=by
 have y:V≠3:=by clear h Q d X;rintro rfl;revert f;decide
 obtain⟨pl,e0,rt,pd,tl,J⟩:=C.sv Q.1;have u:Pw A R W V b dp m b0 (0:Nat) S S:=.refl (h.le (aB 418356678656 rfl)) fun _ _ _ q=>nomatch q;have Z:=h.st;have U:=H.el;refine uW ?_;refine bD (fun q=>ae (dr q) (Ih C Q.1 M (by clear C J;cases c<;>decide) (.inl (by clear C J;cases c<;>decide)) Z.tb.base)) fun _=>?_;apply o Z.eZ;refine bM 3 rfl (fun q=>ae q y) fun _=>?_;refine yi ?_;apply o Z.cR;refine Ig (n:=n+8) Z.tb M U.1 U.2 (fun _=>?_) fun q=>ae O q;apply o Z.eZ;refine bM 4 rfl (fun m4=>?_) fun m4=>?_;.rw[af m4]at X;apply o Z.cR;refine zJ (n:=n+8) Z.tb J Q ?_;show br (decide (jE x<0)) _ _;rw[vU (d m4)];exact X S u
 .rw[am m4]at X;apply o Z.cR;refine Z.eD M ?_;refine eE Z.tb ?_;rcases(qI 0 H.lt (bQ _):b7=0\/b7=1\/b7=2)with q|q|q;.clear M U;obtain⟨rfl,rfl⟩:=H.z q;clear H;subst q;exact X S u
  .clear U;obtain⟨rfl,_⟩:=H.o q;clear H;subst q;exact oA (fu:=1) (v:=1) (n:=n+8) (h.le (b':=b+1) (aB 428397223870464 rfl)) rfl fun K g=>X K g
  .clear U;obtain⟨rfl,e1⟩:=H.w q;clear H;subst q;have X:∀E,Pw A R W V b dp m b0 (if b6 x>0 then 4 else 0:Nat) S E->k (.bool Y) E.σ:=X;refine bN (fG 2 rfl (fun q=>?_) fun _=>?_);.subst q;(have h:=fM Z.tb.base e1 rfl;contradiction)
   apply o Z.cR;refine pX Z.tb J Q fun T1 l t1 i a=>?_;have j:=Pw.az h t1 (b8 _ _) i a;refine bD (fun q=>?_) fun q=>?_;.rw[af (cw.mp q)]at X;exact oA (fu:=11) (v:=4) (n:=n+8) j.iv rfl fun K g=>X K (j.z g)
   .rw[am fun r=>q (cw.mpr r)]at X;exact X _ (j.le (dh b))
end
section
variable{R W b b' dp m b0 F L n w s t r e ret fl b7:Nat}
theorem Tb.jA(h:Tb A b T σ):T[2]?=D (dJ "never"):=bX h.base rfl
theorem Aq(h:Tb A b T σ)(Z:T[t]?=D (eI U 2 ret fl))(X:k (.int 2) σ):CW (n+2) 101 [.ref A.bd,.int t] σ k:=by refine Ey ?_;refine h.dw Z ?_;refine eE h ?_;refine h.dw h.jA ?_;exact X
theorem Tu(h:Tb A b T σ)(Z:T[t]?=D (eI U 2 ret fl))(X:k (.bool Y) σ):CW (n+3) 102 [.ref A.bd,.int t] σ k:=by refine Ez ?_;exact Aq (n:=n) h Z X
theorem Tv(h:Tb A b T σ)(Z:T[t]?=D (eI U 2 ret fl))(X:k (.int 2) σ):CW (n+3) 104 [.ref A.bd,.int t,.int 0] σ k:=by refine EA ?_;refine h.dw Z ?_;refine Aq (n:=n) h Z ?_;exact Aq (n:=n) h Z X
theorem Ii(h:Tb A b T σ)(Z:T[t]?=D (eI U 2 ret fl))(X:k (.int (-1)) σ):CW (n+3) 63 [.ref A.bd,.int t] σ k:=by refine Ek ?_;refine h.dw Z ?_;refine yg ?_;refine eE h ?_;refine⟨trivial,?_⟩;refine h.dw h.jA ?_;exact X
theorem Tx(h:Tb A b T σ)(U:T[t]?=D (eI H 2 ret fl))(J:∀Z,Fr [] σ Z->k (.int 0) Z):CW (n+3) 64 [.ref A.bd,.int t] σ k:=by have X:Tb A b T (σ++[.list []]):=h.cp;refine El ?_;refine h.dw U ?_;refine yg ?_;refine eE X ?_;refine⟨trivial,?_⟩;refine X.dw h.jA ?_;apply o (aS (σ:=σ));apply o (eA aS);apply p (gy (v:=.int 0) (by decide) (jl (h.pos)));rw[qS];refine⟨trivial,?_⟩;refine Ej ?_;refine⟨trivial,?_⟩;refine⟨trivial,?_⟩;apply p (dv aS (by decide));apply o (kK (du (aS (σ:=σ))) (by decide));apply p (tA (du (aS (σ:=σ))));exact J _ (Fr.new (σ:=σ) (g:=[.list [.int 0]])|>.cp)
theorem Ty(h:Tb A b T σ)(Z:T[t]?=D (eI U 2 ret fl))(X:k (.int 1) σ):CW (n+4) 106 [.ref A.bd,.int t] σ k:=by refine EB ?_;refine Ii (n:=n) h Z ?_;refine h.dw Z ?_;apply o h.az;refine eE h ?_;refine Ef ?_;exact⟨trivial,X⟩
end
section
theorem Tz(h:Tb A b T σ)(Z:Sv c T x s pl e rt M tl)(H:tl=[de c U])(X:k (.ref σ.length) (σ++[.list ((pl.drop x.sp).map bc++bv x.rest e)])):CW (n+1) 103 [.ref A.bd,.int U] σ k:=by
 refine NK ?_;apply o h.az;apply o h.fW;rcases Z.tail.row H with⟨Q,O,e1⟩|⟨_,e1⟩
 .apply o (h.row e1);rw[Q]at X;rcases J:x.rest with _|m;.exact ae J O
  rw[J]at X;exact X
 .apply o (h.row e1);have E:((pl.drop x.sp).map bc++bv x.rest e).length<av:=b5 0x115080b50502015001 rfl (kU (dl:=pl.drop x.sp) (rest:=x.rest) (e:=e)) (Z.d4);apply o (hU E);refine rh (fun _=>Y) (fun d=>d) (fun lc=>∃v,lc=[D (.ref A.bd),D (.int U),D (iM ((pl.drop x.sp).map bc++bv x.rest e) 0),v]) ⟨I,rfl⟩ ?_ ?_;.rintro d L lc⟨v,rfl⟩;exact⟨_,rfl,⟨_,rfl⟩,fun K C=>C,fun _ eb Z=>Z⟩
  .rw[zG,Zh];exact X
theorem TA(h:Tb A (b+1) T σ)(X:Sv c T x s pl e rt pd tl)(C:Mo pl)(M:∀(a:Nat)T' au,Tb A b T' au->T<+:T'->T'[a]?=D (wg pl x.rest e 1)->Fr A.aQ σ au->k (.int a) au):CW (n+4) 104 [.ref A.bd,.int s,.int 0] σ k:=by
 have O:=X.lp;have pos:=h.pos;have U:(bg c 0 (pl.take x.sp)++tl).length<av:=by
  have:tl.length<=1:=by rcases X.tail.cases with⟨_,_,rfl⟩|⟨_,rfl⟩;exact bQ 1;exact aE 1
  rw[aU,ej,ie];exact dM (jL (bj (jT _ _) O) this) (cm rfl)
 refine EA ?_;refine h.dw X.row ?_;apply p (Ha (xs:=[]) (ys:=bg c 0 (pl.take x.sp)++tl) U);have h1:Tb A (b+1) T (σ++[.list []]):=h.cp;have J:∀{au v5},Fr [] σ au->au[σ.length]?=D (.list (pl.map bc++bv x.rest e))->aP WD (CW (n+3)) (bx 4 uS) [D (.ref A.bd),D (.int s),D (.int 0),D (.ab (bg c 0 (pl.take x.sp)++tl)),D (.ref σ.length),v5] au (kR k):=fun{au v5}f hi=>by have H:Tb A (b+1) T au:=h.fV f;apply o H.az;exact M5 (HW (n:=n) (ro:=1) H hi O C fun a T' Z a1 b1 l e1=>M a T' Z a1 b1 l (f.nil.trans e1))
 have L:aP WD (CW (n+3)) (bx 2 uS) [D (.ref A.bd),D (.int s),D (.int 0),D (.ab (bg c 0 (pl.take x.sp)++tl)),I,I] σ (kR k):=by
  apply o (hU U);refine j3 (g:=I) (fun r lc au=>∃v5,A3 (lc=[D (.ref A.bd),D (.int s),D (.int 0),D (.ab (bg c 0 (pl.take x.sp)++tl)),D (.ref σ.length),v5]) (Fr [] σ au) ((E3 fun d q j=>A3 (d++q=pl.take x.sp) (r=bg c j q++tl) (au[σ.length]?=D (.list (d.map bc))))\/(r=[]/\au[σ.length]?=D (.list (pl.map bc++bv x.rest e))))) (fun _ _ _ _=>trivial) ?_ ?_ ⟨I,rfl,.new,.inl ⟨[],pl.take x.sp,0,rfl,rfl,aS⟩⟩
  .rintro lc au⟨v5,rfl,f,⟨d,q,j,e1,e2,hi⟩|⟨_,hi⟩⟩
   .have e2:=List.append_eq_nil_iff.mp e2.symm;have q0:q=[]:=by induction q using eQ with|nil=>rfl|cons=>cases e2.1
    obtain⟨d0,r0,u⟩:=X.ri e2.2;rw[q0,bO,uz (aC 743065702400 rfl u)]at e1;clear X C M O U d0 u;subst e1;exact J f (by rw[r0,show bv I e=[]from rfl,bO];exact hi)
   .exact J f hi
  .rintro y r lc au K⟨v5,rfl,f,⟨d,q,j,e1,e2,hi⟩|⟨e2,_⟩⟩w
   .have H:Tb A (b+1) T au:=h.fV f;have m:d.length<=4:=by have:=aI rV e1;rw[aU,ie]at this;exact bj (b8 _ _) (bj (gF this) (bj (jT _ _) O))
    have ld:(d.map bc).length<av:=by rw[aJ];exact ax 296386383873 rfl m
    have z:σ[σ.length]?=none:=jo (aE _);rcases q with _|⟨q,q'⟩;.have e2:y::r=tl:=e2;obtain⟨tt,t⟩:=X.pW (by rw[e2.symm];nofun);rw[t]at e2;cases e2;rw[bO]at e1;refine eE H ?_;refine Tz (n:=n+2) H X t ?_;have lt:=(bp.mp hi).1;have Q:=kU (dl:=pl.drop x.sp) (rest:=x.rest) (e:=e);have h4:=X.d4;apply o hi;apply o (eA (du hi));apply p (GC aS (by rw[aJ];exact fk 0x458202d8150811408055a0001 rfl m Q h4) (lb lt) (jl pos));refine w _ _ ⟨_,rfl,f.cp.kI z,.inr ⟨rfl,?_⟩⟩;rw[eV (du hi),e1,<-dy,<-g7,ku]
    cases e2;obtain⟨i,o1⟩:=q;have E:dt WD (CW (n+3)) 0 σ.length au au [bc (i,o1)] fun d' Z=>br (iJ d') (K [D (.ref A.bd),D (.int s),D (.int 0),D (.ab (bg c 0 (pl.take x.sp)++tl)),D (.ref σ.length),D (iP c j (i,o1))] Z) False:=by apply o hi;apply o (eA hi);apply p (gy (v:=bc (i,o1)) ld (jl pos));exact w _ _ ⟨_,rfl,f.kI z,.inl ⟨d++[(i,o1)],q',j+1,by rw[dy];exact e1,rfl,by rw[eV hi,g7];rfl⟩⟩
    clear e1;cases o1<;>exact E
   .cases e2
 apply p (ip U);exact bD (fun _=>G3 (n:=n+1) h X L) fun _=>L
end
section
variable{R W b b' dp m b0 F L n w s t r e rt ret fl b7 tt a qa qs:Nat}
structure Qw(A:Ad)(R W V b dp m b0:Nat)(S S':Rs):Prop where
iv:Iv A R W V b dp m b0 S'
pre:S.T<+:S'.T
fq:Fq A R S.tr S.σ S'.tr S'.σ
theorem Pw.qw(h:Pw A R W V b dp m b0 v S S'):Qw A R W V b dp m b0 S S':=⟨h.iv,h.pre,h.fq⟩
theorem Qw.trans(h:Qw A R W V b' dp m b0 S Z)(h':Qw A R W V b dp m b0 Z sU):Qw A R W V b dp m b0 S sU:=⟨h'.iv,h.pre.trans h'.pre,h.fq.trans h'.fq⟩
theorem TB(H:V∈[1,2,4])(h:Iv A R W V b dp m b0 S){g:Nat}(J:S.T[a]?=D (.ab [.int g,z,.int 1]))(Q:g=11\/g=12)(X:k (.bool Y) S.σ):dt WD (CW (n+5)) 36 R S.σ S.σ [.int 2,.int a] k:=by
 have Z:=h.st;have O:V≠3:=by clear h Z;rintro rfl;revert H;decide
 apply o Z.c0;refine⟨rfl,?_⟩;refine Em ?_;refine Eo ?_;refine bD (fun _=>X) fun _=>?_;apply o Z.cR;refine yh ?_;refine eE Z.tb ?_;apply o Z.tb.az;refine qH ?_;refine Z.tb.eD Z.tb.jA ?_;apply o Z.cR;refine yh ?_;refine eE Z.tb ?_;apply o Z.tb.az;refine qH ?_;refine Z.tb.eD J ?_;have U:aP WD (CW (n+3)) (bx 3 xX) [D (.ref R),D (.int (2:Nat)),D (.int a),I,I] S.σ (kR k):=by refine bD (fun _=>X) fun _=>?_;apply o Z.eZ;refine bM 3 rfl (fun q=>ae q O) fun _=>?_;refine Ep ?_;refine Er ?_;refine bD (fun _=>X) fun _=>?_;exact bD (fun _=>X) fun _=>X
 clear J;rcases Q with rfl|rfl<;>exact U
end
section
variable{R W b b' dp m b0 F L n w s t r e rt ret fl b7 tt a qa qs:Nat}{x y:Sg}
theorem TD:E2 fun(g:Nat)(z:aa)=>wg pl x.rest e 1=.ab [.int g,z,.int 1]/\(g=11\/g=12):=by generalize x.rest=o;cases pl<;>cases o<;>first|exact⟨11,_,rfl,.inl rfl⟩|exact⟨12,_,rfl,.inr rfl⟩
theorem TE(h:Iv A R W V (b+1+8) dp m b0 S)(E:Sv c S.T x s pl e rt f tl)(C:bo V w x)(J:S.T[t]?=D (eI l 2 ret fl))(H:∀Q,Qw A R W V b dp m b0 S Q->k (.bool Y) Q.σ):CW (n+11) 100 [.ref R,.int s,.int t] S.σ k:=by
 have Z:=h.st;refine Ew ?_;apply o Z.cR;refine Ii (n:=n+7) Z.tb J ?_;apply o Z.cR;refine pX Z.tb E C fun i M t1 O K=>?_;have X:=Pw.az h t1 (b8 _ _) O K;apply o X.iv.st.cR;refine Tx (n:=n+7) t1 (bX O J) fun g j=>?_;have U:=X.z (Pw.iw X.iv j);refine bD (fun q=>?_) fun q=>?_;.exact oA (fu:=11) (v:=4) (n:=n+8) U.iv rfl fun d u=>H d (U.z u).qw
 .exact H _ (U.le (dh b)).qw
theorem TF(O:V∈[1,2,4])(h:Iv A R W V (b+1) dp m b0 S)(E:Sv c S.T x s pl e rt f tl)(X:Mo pl)(C:S.T[t]?=D (eI q 2 ret fl))(M:∀J,Qw A R W V b dp m b0 S J->k (.bool Y) J.σ):CW (n+8) 105 [.ref R,.int s,.int t,.int 0,.bool ay] S.σ k:=by have H:=h.st;refine NL ?_;apply o H.cR;refine TA (n:=n+3) H.tb E X fun a l K t1 Q j d=>?_;have U:=Pw.az h t1 (b8 _ _) Q d;apply o U.iv.st.cR;refine Tv (n:=n+4) t1 (bX Q C) ?_;refine EC ?_;have Z:=U.iv;apply vn (n:=n+5) Z.st Z.lQ Z.pG;refine cps fun P u=>?_;obtain⟨g,z,e1,v⟩:=TD (pl:=pl) (x:=x) (e:=e);refine u ?_;refine TB (n:=n+1) O Z (j.trans (aI D e1)) v ?_;exact M _ U.qw
theorem TG(K:V∈[1,2,4])(h:Iv A R W V (b+1) dp m b0 S)(Z:Sv c S.T x s pl e rt l tl)(Q:Mo pl)(J:S.T[t]?=D (eI i 2 ret fl))(g:∀C,Qw A R W V b dp m b0 S C->k (.bool Y) C.σ):CW (n+9) 112 [.ref R,.int s,.int t,.bool ay] S.σ k:=by
 have M:=h.st;refine ED ?_;apply o M.cR;refine zF (n:=n+4) M.tb Z fun j d=>?_;have H:=Pw.iw h d;refine Ty (n:=n+4) H.iv.st.tb J ?_;refine zH (n:=n+5) H.iv.st.tb Z fun u v=>?_;have O:=H.z (Pw.iw H.iv v);have E:=O.iv.st.tb;refine Tu (n:=n+5) E J ?_;refine E.dw Z.row ?_;have U:(bg c 0 (pl.take x.sp)++tl).length<av:=by
  have:tl.length<=1:=by rcases Z.tail.cases with⟨_,_,rfl⟩|⟨_,rfl⟩;exact bQ 1;exact aE 1
  rw[aU,ej,ie];exact dM (jL (bj (jT _ _) Z.lp) this) (cm rfl)
 apply p (ip U);refine E.dw J ?_;have X:∃m:Nat,(bg c 0 (pl.take x.sp)++tl).length=m:=⟨_,rfl⟩;obtain⟨m1,X⟩:=X;rw[X];have m5:m1<6:=by
  have:tl.length<=1:=by clear U X;rcases Z.tail.cases with⟨_,_,rfl⟩|⟨_,rfl⟩;exact bQ 1;exact aE 1
  rw[aU,ej,ie]at X;rw[X.symm];exact BG (jL (bj (jT _ _) Z.lp) this)
 clear X;induction m1,m5 using EQ<;>exact TF (n:=n) (ay:=ay) K O.iv Z Q J fun f q=>⟨rfl,trivial,g f (O.qw.trans q)⟩
end
section
variable{R W b b' dp m b0 F L n w s t r e rt ret fl b7 tt a qa qs:Nat}
theorem TH(ask:dc A R V F L qa qs 2)(h:Iv A R W V (b+(qa+qs)) dp m b0 S)(l2:L<=2)(U:Sv c S.T x s pl e rt M tl)(H:bo V L x)(Q:S.T[t]?=D (eI J 2 5 fl))(O:4*jD x+2<m)(E:∀X,Qw A R W V b dp m b0 S X->k (.bool (decide (0<=ak V x.res (.mk 256 I)))) X.σ):CW (n+F+3) 114 [.ref R,.int s,.int t] S.σ k:=by
 have Z:=h.st;refine EE ?_;refine Z.eD U.row ?_;refine Z.eD Q ?_;apply o Z.cR;refine eE Z.tb ?_;have J:Nm 256:=by unfold Nm;decide
 exact ov (n:=n) ask h l2 H.2.2 (tH J) U.res (qN (i:=8) (by decide) Z.tb.base ⟨0,by decide,bX Z.tb.base rfl⟩) (by show 4*(cL x.res+0)+2<m;exact pn 0x2d4202a6b1060086a62500418001 rfl O (tm (x:=x))) fun X C=>E X C.toPw.qw
theorem TI(M:V∈[1,2,4])(ask:dc A R V F L qa qs 2)(h:Iv A R W V (b+(qa+qs)+1+1+8) dp m b0 S)(l2:L<=2)(C:SR c S.T x s)(Q:bo V L x)(U:S.T[t]?=D (eI (S0 "x") 2 5 fl))(u:4*jD x+2<m)(K:∀g,Qw A R W V b dp m b0 S g->k (.bool (decide (0<=ak V x.res (.mk 256 I)))) g.σ):CW (n+F+13) 118 [.ref R,.int s,.int t,.bool ay] S.σ k:=by
 have v:V≠3:=by clear ask h Q K;rintro rfl;revert M;decide
 obtain⟨pl,e,rt,l,tl,X⟩:=C.sv Q.1;have Z:=h.st;refine uW ?_;refine bD (fun q=>ae (dr q) (Ih C Q.1 U (by clear C X;cases c<;>decide) (.inr rfl) Z.tb.base)) fun _=>?_;apply o Z.eZ;refine bM 3 rfl (fun q=>ae q v) fun _=>?_;refine yi ?_;apply o Z.cR;refine Ig (n:=n+F+9) (e:=2) Z.tb U (.inl ⟨rfl,rfl⟩) (.inr rfl) (fun q=>ae q (by decide)) fun _=>?_;refine TE (n:=n+F+1) h X Q U fun S1 O=>?_;have Z:=O.iv.st;have X:=X.aq O.pre;have U:=bX O.pre U;refine Z.ol ?_;apply o Z.tb.fW;have J:∀j:Bool,CW (n+F+12) 117 [.ref R,.int s,.int t,.bool j] S1.σ k:=fun j=>by refine EG ?_;refine TG (n:=n+F+2) M O.iv X (zB Q.1.aq X.ks) U fun i E=>?_;show CW (n+F+11) 114 _ _ _;rw[show n+F+11=n+8+F+3 by exact bB 0xf56500003eb400002 rfl];refine TH (n:=n+8) ask E.iv l2 (X.aq E.pre) Q (bX E.pre U) u fun f y=>?_;exact K f ((O.trans E).trans y)
 have z:ca [(aa.int 3,aa.ref (R+8)),(aa.int 8,aa.ref (R+9))] (.int 9)=none:=(am fun q=>by cases q).trans (am fun q=>by cases q);have H:=(vA (σ:=S1.σ) (es:=[(aa.int 3,aa.ref (R+8)),(aa.int 8,aa.ref (R+9))]) (d:=.int 9) rfl rfl).trans (by rw[z]);rcases ay with _|_;.apply o (Z.tb.row X.row);apply o (Z.tb.row U);apply o Z.qU;apply o Z.c1;apply o (pq Z.c1);apply p H;apply o (Z.tb.row X.row);exact J _
 apply o Z.qU;apply o Z.c1;apply o (pq Z.c1);apply p H;apply o (Z.tb.row X.row);exact J Y
end
section
theorem kL.to(h:kL md x)(Z:V=3->md=3):kL V x:={h with pl:=fun e=>h.pl (Z e)}
theorem aT.to(X:V=3->md=3):∀{n:Nat}{K:Kd},aT md n K->aT V n K:=by intro n;induction n with|zero=>intro K h;obtain⟨m,s⟩:=K;exact h|succ n Z=>intro K h;obtain⟨m,s⟩:=K;exact⟨h.1,fun x e=>(by obtain⟨a,b,c,d⟩:=h.2 x e;exact⟨a,b.to X,fun p U=>Z (c p U),Z d⟩)⟩
theorem bo.to(Z:V=3->md=3)(h:bo md n x):bo V n x:=⟨h.1.to Z,fun p X=>(h.2.1 p X).to Z,h.2.2.to Z⟩
theorem Ij(st:St A R b T V 0 [] [] [] [] (R+4) σ):Iv A R av V b 0 60 0 ⟨T,[],[],[],R+4,σ⟩where
st:=st;lN:=by have:=st.tb.len;show 0+b<av;exact da 0x54b54000845420001 rfl this
lK:=by have:=st.tb.len;show 0+0+b<av;exact da 0x152d5000211508400001 rfl this
wl:=aE _;nd:=jP;kn:=fun e Z=>ae Z bK;tk:=fun e Z=>ae Z bK;b0:=aE 0;dp:=aE 60
theorem TJ(Z:V=3\/V∈[1,2,4]):fY A R V 99 2 4 2389842:=by
 intro n W b M m L S s t x y c ay k h X U J H Q O E C;by_cases e:V=3;.clear Z;subst e;exact RP (n:=n+45) h X U J H Q O E C
 .exact RO (n:=n) (Z.resolve_left e) (h.le (aB 0x123ba914340052ef6ca1a0000 rfl)) X U J H Q O E C
theorem TK(Z:V∈[1,2,4]):dc A R V 84 2 757 84161 2:=by have X:fY A R V 33 0 2 7651:=tC Z (rm (F:=0) (w:=0) Z fun _ q=>nomatch q) (by decide) (by decide) (by decide);exact rm Z fun U q=>by cases q;exact(tC Z (rm Z fun U q=>by cases q;exact X) (by decide) (by decide) (by decide))
theorem Ik(hi:σ[i]?=D (.list (aZ l)))(Z:σ[j]?=D (.list (aZ l')))(e:l=l'):nV .ne σ (.ref i) (.ref j)=D false:=by
 subst e;show(match hH σ (.ref i) (.ref j)with|some c=>D (!c)|none=>I)=_;have:hH σ (.ref i) (.ref j)=D true:=by show(match σ[i]? with|some (.list xs)=>_|_=>I)=_;rw[hi];show(match σ[j]? with|some (.list ys)=>_|_=>I)=_;rw[Z];show(if((aZ l).all cg&&(aZ l).all cg)=Y then D (decide (aZ l=aZ l))else I)=_;rw[af (by rw[F4];rfl),aN rfl]
 rw[this];rfl
end
section
theorem Il:∀{ps:List (Kd×Bool)},(∀p∈ps,cL p.1<=L)->sQ ps<=L:=by intro ps;induction ps with|nil=>intro _;exact bQ _|cons Z r X=>obtain⟨U,o1⟩:=Z;intro h;exact BQ.mpr ⟨h (U,o1) aW,X fun p J=>h p (cI _ J)⟩
theorem aT.rz:∀{n:Nat}{K:Kd},aT V n K->cL K<=n:=by intro n;induction n with|zero=>intro K h;obtain⟨m,s⟩:=K;rw[h.2];exact aE 0|succ n Z=>
intro K h;obtain⟨m,s⟩:=K;rcases s with _|x;.exact bQ _
obtain⟨_,_,a,d⟩:=h.2 x rfl;clear h;obtain⟨ps,sp,rest,U,X,H⟩:=x;exact mi (BQ.mpr ⟨Il fun p J=>Z (a p J),Z d⟩)
theorem bo.rz(h:bo V L x):jD x<=L:=by obtain⟨ps,sp,rest,X,Z,J⟩:=x;exact BQ.mpr ⟨Il fun p U=>(h.2.1 p U).rz,h.2.2.rz⟩
theorem Im(X:St A R b T V Q N es O E tr σ)(U:N.length<av)(J:∀x,x∈N↔x∈cW (v:Int))(H:∀(c:Nat)Z,Fr [] σ Z->Z[c]?=D (.list (aZ (cW (v:Int))))->k (.ref c) Z):dt WD (CW (n+1)) 44 (R+6) σ σ [] k:=by apply o X.c6;exact⟨rfl,Ts X.c6 X.c7 U J X.tb.pos H⟩
theorem Pw.cW(h:Pw A R W V b O m 0 (v:Nat) S X)(U:V=1)(J:S.N=[]):∀x,x∈X.N↔x∈cW (v:Int):=by refine cps fun P H=>?_;obtain⟨E,C,e1,_,_,_,q⟩:=h.out;obtain⟨Q,Z⟩:=q (hZ v) U;refine H ?_;rewrite[J,xq]at e1;rw[e1];rw[e1]at Z;exact fun x=>⟨Q x,Z x⟩
@[reducible]noncomputable def oE:Ss:=z9 (z9 (bx 17 j0))
theorem TM(x y:Sg)(ay:Bool)(h:0<=gS V 3 x y ay):∃v:Nat,gS V 3 x y ay=v:=⟨(gS V 3 x y ay).toNat,(lk h).symm⟩
end
noncomputable def Ar:Nat->Nat|0=>1|1=>2|_=>11
noncomputable def fu(j v:Nat):List Nat:=((iV j).filter fun i=>v.testBit i).map Ar
section
theorem tK:fu (j+1) v=fu j v++if v.testBit j=Y then[Ar j]else[]:=by
 unfold fu;rw[Zj,KY,g7];congr 1;rcases h:v.testBit j with _|_;.rw[KX (jJ.mp h)];rfl
 rw[BM h];rfl
theorem TN:aZ (fu 3 v)=aZ (cW (v:Int)):=by unfold cW;rw[tK,tK,tK,ic,<-dy];rfl
theorem Io(U:lc[i]?=D (D a))(J:lc[j]?=D (D b))(h:lG WD K 7 [a,b] σ fun v Z=>gO (fj lc (.ag l) v) fun X=>aP WD K H X Z aw):aP WD K (.cons (.an (.ag l) (.new 7 (.cons (.var i) (.cons (.var j) .nil)))) H) lc σ aw:=by show gL lc[i]? _;rw[U];show gL lc[j]? _;rw[J];exact h
theorem Ip(E:V=3\/V∈[1,2,4])(h:Tb A (b+2389842) T σ)(x1:SR c T x s)(x2:SR (!c) T y t)(H:bo V 2 x)(Q:bo V 2 y)(C:∀M kX L X T' Z,Tb A b T' Z->T<+:T'->aw.kn [v0,k,l,v3,D (.bool ay),v5,v6,v7,v8,D (.ref A.bd),fv,gT,dq,cQ,dx,cX,D (aF x),D (aF y),D (.int s),D (.int t),D (.int V),M,kX,L,fH,X] Z):aP WD (CW (n+110)) (bx 4 oE) [v0,k,l,v3,D (.bool ay),v5,v6,v7,v8,D (.ref A.bd),fv,gT,dq,cQ,dx,cX,D (aF x),D (aF y),D (.int s),D (.int t),D (.int V),ji,gU,gV,fH,gE] σ aw:=by
 have d2:=Q.rz;refine Io (a:=.ref A.bd) (b:=.int V) rfl rfl (Ib (n:=n+108) (h.pos) ?_);refine Id (n:=n+109) h fun bY i f=>?_;have e:=Ij i;refine HE (n:=n+98) E H Q fun cz f2=>?_;have z:=Pw.iw e f2;refine TJ (n:=n+11) E z.iv x1 x2 H Q H.1.len Q.1.len (b5 0x6a9006a1001e0826ad00418001 rfl (H.rz) d2) fun d U=>?_;have J:=U.iv.st.tb;have u:=U.pre;refine bf (show(!(decide _==decide _))=aj by rw[beq_self_eq_true];rfl) ?_;refine bM 1 rfl (fun m1=>?_) fun _=>C _ _ _ _ _ _ J u;refine bD (fun q=>?_) fun _=>C _ _ _ _ _ _ J u;clear E H Q i e z;subst m1;obtain⟨v,gv⟩:=TM x y ay q;rw[gv]at U;have lT:=U.iv.st;rw[gv];refine⟨rfl,?_⟩;refine HX (n:=3) (fun j a lc Z=>Z=d.σ/\a=aZ (fu j v)/\∃X,lc=[v0,k,l,v3,D (.bool ay),v5,v6,v7,v8,D (.ref A.bd),fv,gT,dq,cQ,dx,cX,D (aF x),D (aF y),D (.int s),D (.int t),D (.int (1:Nat)),D (.ref σ.length),gU,D (.int v),fH,X]) ?_ ?_ ⟨rfl,rfl,gE,rfl⟩;.rintro a lc Z⟨rfl,rfl,X,rfl⟩;have z4:=Pw.iw U.iv (Fr.new (σ:=d.σ) (g:=[.list (aZ (fu 3 v))]));have O:=z4.iv.st;apply o O.mS;refine Im (n:=n+109) O (U.iv.lQ) (U.cW rfl rfl) fun c fF f5 h5=>?_;have g5:=f5 _ _ (aS (σ:=d.σ)) bK;rw[TN]at g5;apply o (Ik h5 g5 rfl);exact C _ _ _ _ _ _ (J.fV (Fr.new.trans f5)) u
 .rintro j a lc Z K hj⟨rfl,rfl,X,rfl⟩w;apply p (H0 (m:=v) (j:=j) (ax 262028185601 rfl hj));refine iT 1 rfl (fun q=>?_) fun q=>?_;.have J:=wi.mp q;apply o (show cZ _ (.ab [.int 1,.int 2,.int 11]) (.int j)=D (.int (Ar j))by clear w q J;induction j,hj using yo<;>rfl);refine w _ _ _ ⟨rfl,?_,_,rfl⟩;rw[tK,af J,vg]
  .refine w _ _ _ ⟨rfl,?_,_,rfl⟩;rw[tK,am fun r=>q (wi.mpr r),bO]
end
section
variable{R W b b' dp m b0 F L n w s t r e md V tr od:Nat}
theorem TO(J:V=3\/V∈[1,2,4]):∀L',2=L'+1->oC V 12 L':=fun L' q=>by cases q;intro n x y ay σ k Z X H;exact HE (n:=n) J ⟨Z.1,fun p U=>(Z.2.1 p U).le,Z.2.2.le⟩ ⟨X.1,fun p U=>(X.2.1 p U).le,X.2.2.le⟩ H
theorem TP(O:V=3\/V∈[1,2,4])(h:Iv A R av V (b+2389842+(757+84161)+1+1+8) 0 60 0 S)(C:SR c S.T x s)(M:SR (!c) S.T y t)(X:bo V 2 x)(K:bo V 2 y)(j:S.T[od]?=D (eI (S0 "x") 2 5 0))(g:∀U kX J H T' Z,Tb A b T' Z->S.T<+:T'->aw.kn [v0,d,u,v3,D (.bool ay),v5,v6,v7,v8,D (.ref A.bd),fv,D (.int od),dq,cQ,dx,cX,D (aF x),D (aF y),D (.int s),D (.int t),D (.int V),U,kX,J,fH,H] Z):aP WD (CW (n+110)) (bx 3 oE) [v0,d,u,v3,D (.bool ay),v5,v6,v7,v8,D (.ref A.bd),fv,D (.int od),dq,cQ,dx,cX,D (aF x),D (aF y),D (.int s),D (.int t),D (.int V),D (.ref R),gU,gV,fH,gE] S.σ aw:=by
 refine bN (bM 3 rfl (fun _=>Ip (n:=n) O (h.st.tb.le (aB 0x18528a4609037a8820123ba91434000000091dd48a1a0000 rfl)) C M X K g) fun m3=>?_);have Q:=O.resolve_left m3;refine TI (n:=n+13) Q (TK Q) h (aE 2) C X j (ax 0x1a840078209a8418001 rfl (X.rz)) fun S1 E=>?_;apply o (rq x);have v:Nm 256:=by unfold Nm;decide
 show CW (n+97+12+1) 144 [aL x.res,aL (.mk 256 I),.int V] _ _;refine rr (n:=n+97) (F:=12) m3 (TO O) X.2.2 (tH v) (aE 2) fun k f=>?_;refine bf (show(!(decide _==decide _))=aj by rw[beq_self_eq_true];rfl) ?_;exact Ip (n:=n) O (E.iv.st.tb.fV f) (C.aq E.pre) (M.aq E.pre) X K fun U kX J H T' Z a b=>g _ _ _ _ T' Z a (E.pre.trans b)
end
section
variable{R W b b' dp m b0 F L n w s t r e ret fl b7 md V tr od mo:Nat}
theorem TQ(h:x.ps.length<=4):(bq x).length<=4/\lM x<=(bq x).length:=by
 have e1:(bq x).length=x.ps.length:=by unfold bq;rw[aJ]
 exact⟨by rw[e1];exact h,by rw[e1];exact oY _ _⟩
theorem Iq:cW ((0:Nat):Int)=[]:=by decide+kernel
theorem TR:cW ((1:Nat):Int)=[1]:=by decide+kernel
theorem TS:cW ((4:Nat):Int)=[11]:=by decide+kernel
theorem wo(hm:V=3\/V∈[1,2,4])(h:Tb A (b+2389842+(757+84161)+1+1+8+1+8) T σ)(x1:SR c T x s)(x2:SR (!c) T y t)(C:bo V 2 x)(wy:bo V 2 y)(ho:T[od]?=D (eI (S0 "x") 2 5 0))(TT:T[mo]?=D (eI (S0 "z") r ret fl))(M:lW T b7 r e)(K:ret=0\/ret=1)(l:∀j kX d u T' U,Tb A b T' U->T<+:T'->aw.kn [v0,i,v2,v3,D (.bool ay),v5,v6,v7,v8,D (.ref A.bd),fv,D (.int od),dq,D (.int b7),dx,D (.int mo),D (aF x),D (aF y),D (.int s),D (.int t),D (.int V),j,kX,d,fH,u] U):aP WD (CW (n+110)) oE [v0,i,v2,v3,D (.bool ay),v5,v6,v7,v8,D (.ref A.bd),fv,D (.int od),dq,D (.int b7),dx,D (.int mo),D (aF x),D (aF y),D (.int s),D (.int t),D (.int V),ji,gU,gV,fH,gE] σ aw:=by
 have pos:=h.pos;refine Io (a:=.ref A.bd) (b:=.int V) rfl rfl (Ib (n:=n+108) pos ?_);refine Id (n:=n+109) h fun v st f=>?_;have i0:=Ij st;have Z:∀{S1:Rs}{kX},Iv A σ.length av V (b+2389842+(757+84161)+1+1+8) 0 60 0 S1->T<+:S1.T->aP WD (CW (n+110)) (bx 3 oE) [v0,i,v2,v3,D (.bool ay),v5,v6,v7,v8,D (.ref A.bd),fv,D (.int od),dq,D (.int b7),dx,D (.int mo),D (aF x),D (aF y),D (.int s),D (.int t),D (.int V),D (.ref σ.length),kX,gV,fH,gE] S1.σ aw:=fun{S1 kX}i1 p1=>TP hm i1 (x1.aq p1) (x2.aq p1) C wy (bX p1 ho) fun j kX d u T' U a b=>l _ _ _ _ T' U a (p1.trans b);have skip:=Z (S1:=⟨T,[],[],[],σ.length+4,v⟩) (kX:=gU) (i0.le (aB 0x6158528a4609037a8820123ba91434000000000c2945230481bd4410091dd48a1a000000000 rfl)) (dg T);refine bN (bM 3 rfl (fun _=>skip) fun m3=>?_);have Au:=hm.resolve_left m3;have k:(V=4->db x=aj)->aP WD (CW (n+110)) (tF (bx 2 oE)) [v0,i,v2,v3,D (.bool ay),v5,v6,v7,v8,D (.ref A.bd),fv,D (.int od),dq,D (.int b7),dx,D (.int mo),D (aF x),D (aF y),D (.int s),D (.int t),D (.int V),D (.ref σ.length),gU,gV,fH,gE] v (kS (aP WD (CW (n+110)) (bx 3 oE)) aw):=fun h4=>by
  refine Tt (n:=n+98) Au i0 x1 C TT M K h4 fun S1 Q=>?_;have X:∀{O:Nat}{J:AH},Fr [] S1.σ J->J[O]?=D (.list (aZ (cW (oD b7 x:Nat))))->aP WD (CW (n+110)) (bx 2 (tF (bx 2 oE))) [v0,i,v2,v3,D (.bool ay),v5,v6,v7,v8,D (.ref A.bd),fv,D (.int od),dq,D (.int b7),dx,D (.int mo),D (aF x),D (aF y),D (.int s),D (.int t),D (.int V),D (.ref σ.length),D (.ref O),gV,fH,gE] J (kS (aP WD (CW (n+110)) (bx 3 oE)) aw):=fun{O J}f5 h5=>by have z:=Pw.iw Q.iv f5;refine bM 1 rfl (fun m1=>?_) fun _=>Z z.iv Q.pre;have n4:V≠4:=ax 193309462550 rfl m1;rw[am n4]at Q;apply o z.iv.st.mS;refine Im (n:=n+109) z.iv.st z.iv.lQ (Q.cW m1 rfl) fun c' vq f6 h6=>?_;apply o (Ik h6 (f6 _ _ h5 bK) rfl);exact Z (Pw.iw z.iv f6).iv Q.pre
  refine zT (n:=n+107) C.1.len fun cz f2=>?_;refine zU (n:=n+109) C.1.len fun eh f3=>?_;have sl:=TQ C.1.len;have h3:=f3 _ _ (aS (σ:=cz)) bK;refine zV (n:=n+109) h3 sl.1 sl.2 ?_;have f1:Fr [] S1.σ (S1.σ++[AO.list []]++[AO.list [.int 1]]):=Fr.new.cp;have H:Fr [] (S1.σ++[AO.list []]++[AO.list [.int 1]]) eh:=(f2.cp (g:=[.list ((bq x).map aL)])).trans f3;have g0:=H _ _ (du (aS (σ:=S1.σ))) bK;have g1:=H _ _ (aS (σ:=S1.σ++[AO.list []])) bK;have E:∀{l2:List Nat},l2=cW (oD 2 x:Nat)->∃O,cZ (eh++[AO.list (aZ l2)]) (.ab [.ref S1.σ.length,.ref (S1.σ++[AO.list []]).length,.ref eh.length]) (.int b7)=D (.ref O)/\(eh++[AO.list (aZ l2)])[O]?=D (.list (aZ (cW (oD b7 x:Nat)))):=fun{l2}e2=>by
   rcases(qI 0 M.lt (bQ _):b7=0\/b7=1\/b7=2)with q|q|q;.clear M l Z skip Q X;subst q;exact⟨_,rfl,(du g0).trans (by rw[show oD 0 x=0 from rfl,Iq];rfl)⟩
   .clear M l Z skip Q X;subst q;exact⟨_,rfl,(du g1).trans (by rw[show oD 1 x=1 from rfl,TR];rfl)⟩
   .clear M l Z skip Q X;subst q;exact⟨_,rfl,by rw[aS,e2]⟩
  refine bD (fun q=>?_) fun q=>?_;.have mv:oD 2 x=4:=af (cw.mp q);obtain⟨O,a1,a2⟩:=E (l2:=[11]) (by rw[mv,TS]);apply o a1;exact X ((f1.trans H).cp) a2
  .have mv:oD 2 x=0:=am fun r=>q (cw.mpr r);obtain⟨O,a1,a2⟩:=E (l2:=[]) (by rw[mv,Iq]);apply o a1;exact X ((f1.trans H).cp) a2
 refine bM 4 rfl (fun m4=>?_) fun m4=>k fun q=>ae q m4;refine zZ (n:=n+109) C (aE 2) ?_;rcases ht:db x with _|_;.exact k fun _=>ht
 exact skip
end
section
variable{b n ag lX od mo r e ret fl b7 cD:Nat}
theorem lW.aq(h:lW T b7 r e)(p:T<+:T'):lW T' b7 r e:=⟨h.lt,h.z,fun q=>⟨(h.o q).1,bX p (h.o q).2⟩,fun q=>⟨(h.w q).1,bX p (h.w q).2⟩⟩
theorem TU(K:cD=3\/cD∈[1,2,4])(h:Tb A 10000000 T σ)(J:SR Y T x ag)(H:SR aj T y lX)(g:∀V,(V=3->cD=3)->bo V 2 x)(j:∀V,(V=3->cD=3)->bo V 2 y)(Z:T[od]?=D (eI (S0 "x") 2 5 0))(X:T[mo]?=D (eI (S0 "z") r ret fl))(Q:lW T b7 r e)(U:ret=0\/ret=1)(k:∀M,aw.kr (.bool Y) M):aP WD (CW (n+110)) (bx 17 j0) [v0,i,a,D (.int cD),D (.bool ay),v5,D (aF x),D (aF y),v8,D (.ref A.bd),D (.int ag),D (.int od),D (.int lX),D (.int b7),dx,D (.int mo),c5,eo,kg,kh,ki,ji,gU,gV,fH,gE] σ aw:=by have d:=g 1 (fun q=>ae q (by decide));have u:=j 1 (fun q=>ae q (by decide));have w:=g cD id;have v:=j cD id;have m1:(1:Nat)=3\/1∈[1,2,4]:=.inr (by decide);refine⟨trivial,?_⟩;refine⟨trivial,?_⟩;refine wo (n:=n) (V:=1) (b:=7500000) (c:=Y) m1 (h.le (by decide)) J H d u Z X Q U fun _ _ _ _ T1 m f O=>?_;have J:=J.aq O;have H:=H.aq O;have Z:=bX O Z;have X:=bX O X;have Q:=Q.aq O;refine⟨trivial,?_⟩;refine wo (n:=n) (V:=cD) (b:=5000000) (c:=Y) K (f.le (by decide)) J H w v Z X Q U fun _ _ _ _ T2 z t E=>?_;have J:=J.aq E;have H:=H.aq E;have Z:=bX E Z;have X:=bX E X;have Q:=Q.aq E;refine⟨trivial,?_⟩;refine⟨trivial,?_⟩;refine⟨trivial,?_⟩;refine wo (n:=n) (V:=1) (b:=2500000) (c:=aj) m1 (t.le (by decide)) H J u d Z X Q U fun _ _ _ _ T3 s l C=>?_;have J:=J.aq C;have H:=H.aq C;have Z:=bX C Z;have X:=bX C X;have Q:=Q.aq C;refine⟨trivial,?_⟩;refine wo (n:=n) (V:=cD) (b:=0) (c:=aj) K (l.le (by decide)) H J v w Z X Q U fun _ _ _ _ T4 L h4 p4=>?_;exact⟨trivial,trivial,k L⟩
end
section
variable{b n ag lX od mo r e ret fl b7 cD f nc ac a1 md:Nat}
theorem TW(h:lG WD K c [] σ fun v Z=>gO (fj lc (.ag l) v) fun X=>aP WD K U X Z aw):aP WD K (.cons (.an (.ag l) (.new c .nil)) U) lc σ aw:=h
theorem TX(U:lc[i]?=D (D a))(h:lG WD K c [a] σ fun v Z=>gO (fj lc (.ag l) v) fun X=>aP WD K J X Z aw):aP WD K (.cons (.an (.ag l) (.new c (.cons (.var i) .nil))) J) lc σ aw:=by show gL lc[i]? _;rw[U];exact h
theorem Av(h:mc Z=Y):eG (eI Z r ret fl)=true:=by show(Y&&(Y&&((((mc Z&&(Y&&(Y&&Y)))&&Y))&&(Y&&(Y&&(Y&&Y))))))=Y;rw[h];rfl
theorem TY:mc (S0 "x")=true:=by decide+kernel
theorem Iu:mc (S0 "z")=true:=by decide+kernel
theorem TZ(j:cD=3\/cD∈[1,2,4])(h:Tb A (10000000+1) T σ)(d:SR Y T x ag)(u:SR aj T y lX)(w:∀V,(V=3->cD=3)->bo V 2 x)(k:∀V,(V=3->cD=3)->bo V 2 y)(E:T[od]?=D (eI (S0 "x") 2 5 0))(m:lW T b7 r e)(C:f<2)(z:∀Z,aw.kr (.bool Y) Z):aP WD (CW (n+110)) (bx 16 j0) [v0,M,L,D (.int cD),D (.bool ay),D (.int f),D (aF x),D (aF y),D (.ref A.az),D (.ref A.bd),D (.int ag),D (.int od),D (.int lX),D (.int b7),D (.int r),cX,c5,eo,kg,kh,ki,ji,gU,gV,fH,gE] σ aw:=by
 have g:∀{ret:Nat}{K:Ss},K=bx 17 j0->ret=0\/ret=1->∀(mo:Nat)T' Z,Tb A 10000000 T' Z->T<+:T'->T'[mo]?=D (eI (S0 "z") r ret f)->aP WD (CW (n+110)) K [v0,M,L,D (.int cD),D (.bool ay),D (.int f),D (aF x),D (aF y),D (.ref A.az),D (.ref A.bd),D (.int ag),D (.int od),D (.int lX),D (.int b7),D (.int r),D (.int mo),c5,eo,kg,kh,ki,ji,gU,gV,fH,gE] Z aw:=fun{ret K}c J mo O X H U Q=>by subst c;exact TU (n:=n) j H (d.aq U) (u.aq U) w k (bX U E) Q (m.aq U) J z
 rcases(n8 0 C (bQ _):f=0\/f=1)with q|q;.clear C;subst q;refine yf ?_;refine mR (n:=n+108) (row:=eI (S0 "z") r 1 0) h (Av Iu) rfl fun mo O X H U Q t=>?_;dsimp only[kS,kR];refine o (v:=[v0,M,L,D (.int cD),D (.bool ay),D (.int (0:Nat)),D (aF x),D (aF y),D (.ref A.az),D (.ref A.bd),D (.int ag),D (.int od),D (.int lX),D (.int b7),D (.int r),D (.int mo),c5,eo,kg,kh,ki,ji,gU,gV,fH,gE]) rfl ?_;exact g rfl (.inr rfl) mo O X H U Q
 .clear C;subst q;refine yf ?_;refine mR (n:=n+108) (row:=eI (S0 "z") r 0 1) h (Av Iu) rfl fun mo O X H U Q t=>?_;dsimp only[kS,kR];refine o (v:=[v0,M,L,D (.int cD),D (.bool ay),D (.int (1:Nat)),D (aF x),D (aF y),D (.ref A.az),D (.ref A.bd),D (.int ag),D (.int od),D (.int lX),D (.int b7),D (.int r),D (.int mo),c5,eo,kg,kh,ki,ji,gU,gV,fH,gE]) rfl ?_;exact g rfl (.inl rfl) mo O X H U Q
theorem T6(h:cD=3\/cD∈[1,2,4])(u:Dr nc ac a1 1 σ)(X:nc<σ.length)(w:∀V,(V=3->cD=3)->bo V 2 x)(v:∀V,(V=3->cD=3)->bo V 2 y)(k:f<2)(a:0<σ.length)(hk:∀E,aw.kr (.bool Y) E):aP WD (CW (n+110)) (bx 9 j0) [v0,D (.ref nc),D (.ref ac),D (.int cD),D (.bool ay),D (.int f),D (aF x),D (aF y),v8,v9,fv,gT,dq,cQ,dx,cX,c5,eo,kg,kh,ki,ji,gU,gV,fH,gE] σ aw:=by
 have Z:=u.lt;refine TW (SH (n:=n+107) a fun bY tw f1 z=>?_);refine TX rfl (SI (n:=n+109) (b:=10100000) tw (aC 717603171078145 rfl z) (by decide) fun A C h2 c J lo f2=>?_);have M:=(u.fV f1).fV f2;obtain⟨t,s,J⟩:=J;have aQ:∀{j},j<σ.length->j∉A.aQ:=fun{j}l q=>by
  rcases ce.mp q with e|q;.exact fk 0x2960cab6084b50503221003 rfl t l e
  .have:=ba.mp q;exact fk 0x2960cab6084d50503221003 rfl s l this
 show CW (n+100+10) 141 [.ref σ.length,aF x,.str (cU Y),.int f] C _;rw[c.symm,J.symm];refine H8 (n:=n+100) (b:=10094300) k (w 1 (fun q=>ae q (by decide))) h2 fun ag T3 eh h3 p3 f3 x1=>?_;refine M7 ?_;refine mR (n:=n+108) (b:=10094299) (row:=eI (S0 "x") 2 5 0) h3 (Av TY) rfl fun od T4 L h4 p4 K f4=>?_;show CW (n+100+10) 141 [.ref A.az,aF y,.str (cU aj),.int (0:Nat)] L _;refine H8 (n:=n+100) (b:=10088599) (by decide) (v 1 (fun q=>ae q (by decide))) h4 fun lX T5 fF h5 i f5 x2=>?_;refine fa (n:=n+109) (B:=0) (m:=3) ((((M.fr f3 (aQ X) (aQ Z)).fr f4 (aQ X) (aQ Z))).fr f5 (aQ X) (aQ Z)) (by decide) fun b7 vq H J' f6=>?_;have h6:Tb A 10088599 T5 vq:=h5.fr (O:=[ac]) f6 ?_ ?_ ?_ ?_
 .refine Ap (n:=n+108) (b:=10088598) h6 fun ra T7 sW h7 g r7 f7=>?_;refine Ap (n:=n+108) (b:=10088597) h7 fun rn T8 d h8 Q r8 f8=>?_;have U:∀{r e:Nat},lW T8 b7 r e->aP WD (CW (n+110)) (bx 16 j0) [v0,D (.ref nc),D (.ref ac),D (.int cD),D (.bool ay),D (.int f),D (aF x),D (aF y),D (.ref A.az),D (.ref A.bd),D (.int ag),D (.int od),D (.int lX),D (.int b7),D (.int r),cX,c5,eo,kg,kh,ki,ji,gU,gV,fH,gE] d aw:=fun{r e}hM=>by exact TZ (n:=n) h (h8.le (show 10000000+1<=10088597 by decide)) ((((x1.aq p4).aq i).aq g).aq Q) ((x2.aq g).aq Q) w v (bX (((i.trans g).trans Q)) K) hM k hk
  rcases(qI 0 H (bQ _):b7=0\/b7=1\/b7=2)with q|q|q;.clear H;subst q;exact U (r:=2) ⟨by decide,fun _=>⟨rfl,rfl⟩,fun q=>ae q (by decide),fun q=>ae q (by decide)⟩
  .clear H;subst q;exact U (r:=ra) ⟨by decide,fun q=>ae q (by decide),fun _=>⟨rfl,bX Q r7⟩,fun q=>ae q (by decide)⟩
  .clear H;subst q;exact U (r:=rn) ⟨by decide,fun q=>ae q (by decide),fun q=>ae q (by decide),fun _=>⟨rfl,r8⟩⟩
 .exact fun q=>fk 0xa5822ad832ad02121003 rfl Z c (ba.mp q)
 .exact fun q=>Op 0x29708ad70cacca8021ad02121003 rfl Z z J (ba.mp q)
 .exact fun q=>fk 0x296088b505832ad02121003 rfl Z t (ba.mp q)
 .exact fun q=>fk 0x296088d505832ad02121003 rfl Z s (ba.mp q)
end
section
variable{b n r e cD f nc ac a1 md B:Nat}
theorem Dr.T9(h:Dr nc ac a1 B σ):nc<σ.length:=(by obtain⟨_,a,_⟩:=h.p5;exact(bp.mp a).1)
theorem Iw(M:cD=3\/cD∈[1,2,4])(L:Dr nc ac a1 (1+vB 2+sB 2+1+1) σ)(X:cD=3->a1≠0)(K:∀U,aw.kr (.bool Y) U):aP WD (CW (n+110)) (bx 5 j0) [v0,D (.ref nc),D (.ref ac),D (.int cD),v4,v5,v6,v7,v8,v9,fv,gT,dq,cQ,dx,cX,c5,eo,kg,kh,ki,ji,gU,gV,fH,gE] σ aw:=by have O:=SD (nc:=nc) (ac:=ac) (a1:=a1) (md:=if cD=3 then 3 else 1) (fun q=>X (nJ fun A=>by rw[am A]at q;cases q));have E:∀V,(V=3->cD=3)->V=3->(if cD=3 then 3 else 1)=3:=fun V h q=>af (h q);refine fa (n:=n+109) (m:=3) L (by decide) fun r g _ J _=>?_;refine fa (n:=n+109) (m:=2) J (by decide) fun f j d H _=>?_;show CW (n+95+15) 136 [.ref nc,.ref ac,.int ((2-2:Nat):Int)] _ _;refine O.1 (n:=n+95) H fun x u C w _ k _ Q _=>?_;show CW (n+86+24) 138 [.ref nc,.ref ac,aF x,.int ((2-2:Nat):Int)] _ _;refine O.2 (n:=n+86) Q C w k fun y z c _ Z _=>?_;have l:=Z.T9;exact o (v:=[v0,D (.ref nc),D (.ref ac),D (.int cD),D (.bool (decide ((r:Int)=1))),D (.int f),D (aF x),D (aF y),v8,v9,fv,gT,dq,cQ,dx,cX,c5,eo,kg,kh,ki,ji,gU,gV,fH,gE]) rfl (T6 (n:=n) M Z l (fun V h=>C.to (E V h)) (fun V h=>c.to (E V h)) d (aC 709778608129 rfl l) K)
end
section
variable{b n r e cD f nc ac a1 md B:Nat}
theorem Ua(U:cD=3\/cD∈[1,2,4])(Z:Dr nc ac 0 (1+vB 2+sB 2+1+1) σ)(J:∀X,aw.kr (.bool Y) X):aP WD (CW (n+110)) (bx 4 j0) [v0,D (.ref nc),D (.ref ac),D (.int cD),v4,v5,v6,v7,v8,v9,fv,gT,dq,cQ,dx,cX,c5,eo,kg,kh,ki,ji,gU,gV,fH,gE] σ aw:=by refine bM 3 rfl (fun q=>?_) fun q=>Iw (n:=n) U Z (fun e=>ae e q) J;obtain⟨i,H,hi⟩:=Z.cur;apply o (show i6 σ ac (.int 1) (.int 1)=D (σ.set ac (.list [.int i,.int (1:Nat)]))by show(match σ[ac]? with|some (.dict es)=>_|some (.list xs)=>_|_=>I)=_;rw[H];show(if(Y&&Y&&Y&&decide (2<av)&&ac !=0)=Y then _ else _)=_;rw[aN (show 2<av by decide),fy.mpr Z.a0];rfl);refine Iw (n:=n) U ⟨(by obtain⟨ns,a,b⟩:=Z.p5;exact⟨ns,bm a Z.na.symm,b⟩),⟨i,eV H,hi⟩,Z.na,Z.a0⟩ (fun _=>(by decide:(1:Nat)≠0)) J
theorem Ub(H:Dr nc ac 0 (1+vB 2+sB 2+1+1+1) σ)(Q:∀Z,aw.kr (.bool Y) Z):aP WD (CW (n+110)) (bx 3 j0) [v0,D (.ref nc),D (.ref ac),v3,v4,v5,v6,v7,v8,v9,fv,gT,dq,cQ,dx,cX,c5,eo,kg,kh,ki,ji,gU,gV,fH,gE] σ aw:=by
 refine fa (n:=n+109) (m:=3) H (by decide) fun r X O U _=>?_;have J:∀{cD:Nat},cD=3\/cD∈[1,2,4]->_:=fun{cD}E=>Ua (n:=n) (σ:=X) (v0:=v0) (v4:=v4) (v5:=v5) (v6:=v6) (v7:=v7) (v8:=v8) (v9:=v9) (fv:=fv) (gT:=gT) (dq:=dq) (cQ:=cQ) (dx:=dx) (cX:=cX) (c5:=c5) (eo:=eo) (kg:=kg) (kh:=kh) (ki:=ki) (ji:=ji) (gU:=gU) (gV:=gV) (fH:=fH) (gE:=gE) (aw:=aw) E U Q;induction r,O using yo;.exact o (v:=.int (4:Nat)) rfl (o rfl (J (cD:=4) (.inr (by decide))))
 .exact o (v:=.int (2:Nat)) rfl (o rfl (J (cD:=2) (.inr (by decide))))
 .exact o (v:=.int (3:Nat)) rfl (o rfl (J (cD:=3) (.inl rfl)))
end
section
variable{l:List Int}
noncomputable def p7(z:Int):Int:=z%999983
noncomputable def mD(d:aa):aa:=match d with|.int z=>.int (p7 z)|d=>d
theorem Uc:∀{l:List Int},(l.map aa.int).map mD=(l.map p7).map aa.int:=by intro l;induction l with|nil=>exact rfl|cons z r Z=>exact aI (aa.int (p7 z)::·) Z
theorem Ud(h:σ[i]?=D (.list xs))(hl:xs.length<av):qB σ (.ref i) .none (.int 40)=D (.ref σ.length,σ++[.list (xs.take 40)]):=by
 have e:dT xs .none (.int 40)=D (xs.take 40):=by
  unfold dT;rw[af hl];show D ((xs.take (min 40 xs.length)).drop 0)=_;rw[ux];by_cases q:40<=xs.length;.rw[mj q]
  .rw[rY (ax 0x28140821205020d000 rfl q),uz (aE _),uz (ax 0x28140821205020d000 rfl q)]
 show(match σ[i]? with|some (.list xs)=>_|_=>I)=_;rw[h];show(match dT xs .none (.int 40)with|some r=>_|none=>I)=_;rw[e]
theorem Ix{ns:List Int}(hn:σ[nc]?=D (.list (ns.map .int)))(h0:0<ns.length)(hl:ns.length<=63)(hp:0<σ.length)(hk:∀au,aw.kr (.bool Y) au):aP WD (CW (n+110)) (bx 2 j0) [v0,D (.ref nc),I,I,I,I,I,I,I,I,I,I,I,I,I,I,I,I,I,I,I,I,I,I,I,I] σ aw:=by exact Ub (n:=n) (σ:=σ++[.list [.int 0,.int 0]]) ⟨⟨ns,du hn,h0,hl⟩,⟨0,aS,by decide+kernel⟩,lb ((bp.mp hn).1),jl hp⟩ hk
theorem Ue(O:l.length<=63)(J:∀Z,k (.bool Y) Z):CW (n+111) 152 [.ref 0] [.list (l.map .int)] k:=by
 have E:(l.map aa.int).length<av:=by rw[aJ];exact ax 0x7e20d02015001 rfl O
 refine Oh ?_;apply p (Ud (i:=0) rfl E);have X:([AO.list (l.map aa.int)]++[.list ((l.map aa.int).take 40)]:AH)[1]?=D (.list ((l.map aa.int).take 40)):=rfl;rw[(YR.symm)]at X⊢;have C:((l.take 40).map aa.int).length<av:=by rw[aJ,ie];exact dM (uv _ _) (cm rfl)
 apply o (kJ X C);refine HU mD (fun lc=>∃v,lc=[D (.ref 0),I,I,I,I,I,I,I,I,I,I,I,I,I,I,I,I,I,I,I,I,I,I,I,v,I]) ⟨I,rfl⟩ X ?_ ?_;.rintro x M lc⟨v,rfl⟩;obtain⟨z,_,rfl⟩:=gZ.mp M;exact⟨_,rfl,⟨_,rfl⟩,fun _ q=>q,fun _ q=>q⟩
 rw[Uc];refine o (v:=[D (.ref 0),D (.ref 2),I,I,I,I,I,I,I,I,I,I,I,I,I,I,I,I,I,I,I,I,I,I,I,I]) (rfl:fj _ _ _=D _) ?_;have H:([AO.list (l.map aa.int)]++[.list ((l.take 40).map .int)]++[.list (((l.take 40).map p7).map .int)]:AH)[2]?=D (.list (((l.take 40).map p7).map .int)):=rfl;have U:(((l.take 40).map p7).map aa.int).length<av:=by rw[aJ,aJ,ie];exact dM (uv _ _) (cm rfl)
 apply p (dv H U);rcases Q:(l.take 40).map p7 with _|⟨z,r⟩;.rw[Q]at H;exact Ix (n:=n) (ns:=[5]) rfl (by decide) (by decide) (fg _) J
 have l2:(z::r).length<=63:=by rw[Q.symm,aJ,ie];exact bj (uv _ _) (cm rfl)
 exact Ix (n:=n) (ns:=z::r) rfl (fg _) l2 (fg _) J
end
section
set_option maxHeartbeats 4000000
noncomputable def fP{bA:Type}(l:List bA):Bool:=cu l.length 1
noncomputable def lY{bA:Type}(l:List bA):Bool:=cu l.length 2
noncomputable def m8{bA:Type}(l:List bA):Bool:=cu l.length 0
noncomputable def c1(b:Bool)(n:Nat):Nat:=cond b n 0
noncomputable def dE:PySem.Expr:=.Constant .none 0 ⟨0,0,0,0⟩
noncomputable def wp(x:cP):Nat:=gH x (fun a b c=>c1 (k9 1 b.length) (BR a 1 22)) (fun _ _ _=>0) (fun a b c d=>2) (fun a b c=>UnaryOp.casesOn a 21 3 0 20) (fun _ _ _ _=>0) (fun a b c d=>4) (fun a b c=>c1 (m8 a&&m8 b) 5) (fun a b c=>6) (fun a b c d=>cond (fP b) 7 8) (fun a b c d=>8) (fun a b c d e=>8) (fun a b c d=>8) (fun _ _=>0) (fun _ _=>0) (fun _ _=>0) (fun a b c d=>cond (fP b&&fP c) 9 (c1 (lY b&&lY c) 19)) (fun a b c d=>cond (m8 c) 10 23) (fun _ _ _ _=>0) (fun _ _=>0) (fun a b c=>11) (fun a b c=>12) (fun a b c=>13) (fun a b=>14) (fun a b=>15) (fun a b=>16) (fun a b c=>17) (fun a b c d=>cN c 18 fun _=>24)
noncomputable def e1(x:cP):PySem.Expr:=gH x (fun a b c=>b.headD dE) (fun _ _ _=>dE) (fun a b c d=>a) (fun a b c=>b) (fun _ _ _ _=>dE) (fun a b c d=>a) (fun _ _ _=>dE) (fun _ _ _=>dE) (fun a b c d=>a) (fun _ _ _ _=>dE) (fun _ _ _ _ _=>dE) (fun _ _ _ _=>dE) (fun _ _=>dE) (fun _ _=>dE) (fun _ _=>dE) (fun a b c d=>a) (fun a b c d=>a) (fun _ _ _ _=>dE) (fun _ _=>dE) (fun _ _ _=>dE) (fun a b c=>a) (fun a b c=>a) (fun _ _=>dE) (fun _ _=>dE) (fun _ _=>dE) (fun _ _ _=>dE) (fun _ _ _ _=>dE)
noncomputable def e2(x:cP):PySem.Expr:=gH x (fun _ _ _=>dE) (fun _ _ _=>dE) (fun a b c d=>c) (fun _ _ _=>dE) (fun _ _ _ _=>dE) (fun a b c d=>b) (fun _ _ _=>dE) (fun _ _ _=>dE) (fun _ _ _ _=>dE) (fun _ _ _ _=>dE) (fun _ _ _ _ _=>dE) (fun _ _ _ _=>dE) (fun _ _=>dE) (fun _ _=>dE) (fun _ _=>dE) (fun a b c d=>c.headD dE) (fun _ _ _ _=>dE) (fun _ _ _ _=>dE) (fun _ _=>dE) (fun _ _ _=>dE) (fun _ _ _=>dE) (fun a b c=>b) (fun _ _=>dE) (fun _ _=>dE) (fun _ _=>dE) (fun _ _ _=>dE) (fun _ _ _ _=>dE)
noncomputable def e3(x:cP):PySem.Expr:=gH x (fun _ _ _=>dE) (fun _ _ _=>dE) (fun _ _ _ _=>dE) (fun _ _ _=>dE) (fun _ _ _ _=>dE) (fun a b c d=>c) (fun _ _ _=>dE) (fun _ _ _=>dE) (fun _ _ _ _=>dE) (fun _ _ _ _=>dE) (fun _ _ _ _ _=>dE) (fun _ _ _ _=>dE) (fun _ _=>dE) (fun _ _=>dE) (fun _ _=>dE) (fun a b c d=>c.tail.headD dE) (fun _ _ _ _=>dE) (fun _ _ _ _=>dE) (fun _ _=>dE) (fun _ _ _=>dE) (fun _ _ _=>dE) (fun _ _ _=>dE) (fun _ _=>dE) (fun _ _=>dE) (fun _ _=>dE) (fun _ _ _=>dE) (fun _ _ _ _=>dE)
noncomputable def cM(x:cP):List PySem.Expr:=gH x (fun a b c=>b.tail) (fun _ _ _=>[]) (fun _ _ _ _=>[]) (fun _ _ _=>[]) (fun _ _ _ _=>[]) (fun _ _ _ _=>[]) (fun _ _ _=>[]) (fun _ _ _=>[]) (fun _ _ _ _=>[]) (fun _ _ _ _=>[]) (fun _ _ _ _ _=>[]) (fun _ _ _ _=>[]) (fun _ _=>[]) (fun _ _=>[]) (fun _ _=>[]) (fun _ _ _ _=>[]) (fun a b c d=>b) (fun _ _ _ _=>[]) (fun _ _=>[]) (fun _ _ _=>[]) (fun _ _ _=>[]) (fun _ _ _=>[]) (fun _ _=>[]) (fun _ _=>[]) (fun a b=>a) (fun a b c=>a) (fun _ _ _ _=>[])
noncomputable def dS(x:cP):Str:=gH x (fun _ _ _=>⟨#[]⟩) (fun _ _ _=>⟨#[]⟩) (fun _ _ _ _=>⟨#[]⟩) (fun _ _ _=>⟨#[]⟩) (fun _ _ _ _=>⟨#[]⟩) (fun _ _ _ _=>⟨#[]⟩) (fun _ _ _=>⟨#[]⟩) (fun _ _ _=>⟨#[]⟩) (fun _ _ _ _=>⟨#[]⟩) (fun _ _ _ _=>⟨#[]⟩) (fun _ _ _ _ _=>⟨#[]⟩) (fun _ _ _ _=>⟨#[]⟩) (fun _ _=>⟨#[]⟩) (fun _ _=>⟨#[]⟩) (fun _ _=>⟨#[]⟩) (fun _ _ _ _=>⟨#[]⟩) (fun _ _ _ _=>⟨#[]⟩) (fun _ _ _ _=>⟨#[]⟩) (fun _ _=>⟨#[]⟩) (fun _ _ _=>⟨#[]⟩) (fun a b c=>b) (fun _ _ _=>⟨#[]⟩) (fun _ _=>⟨#[]⟩) (fun a b=>a) (fun _ _=>⟨#[]⟩) (fun _ _ _=>⟨#[]⟩) (fun _ _ _ _=>⟨#[]⟩)
noncomputable def wu(x:cP):Const:=gH x (fun _ _ _=>.none) (fun _ _ _=>.none) (fun _ _ _ _=>.none) (fun _ _ _=>.none) (fun _ _ _ _=>.none) (fun _ _ _ _=>.none) (fun _ _ _=>.none) (fun _ _ _=>.none) (fun _ _ _ _=>.none) (fun _ _ _ _=>.none) (fun _ _ _ _ _=>.none) (fun _ _ _ _=>.none) (fun _ _=>.none) (fun _ _=>.none) (fun _ _=>.none) (fun _ _ _ _=>.none) (fun _ _ _ _=>.none) (fun _ _ _ _=>.none) (fun _ _=>.none) (fun a b c=>a) (fun _ _ _=>.none) (fun _ _ _=>.none) (fun _ _=>.none) (fun _ _=>.none) (fun _ _=>.none) (fun _ _ _=>.none) (fun _ _ _ _=>.none)
noncomputable def kE(x:cP):Nat:=gH x (fun _ _ _=>0) (fun _ _ _=>0) (fun _ _ _ _=>0) (fun _ _ _=>0) (fun _ _ _ _=>0) (fun _ _ _ _=>0) (fun _ _ _=>0) (fun _ _ _=>0) (fun _ _ _ _=>0) (fun _ _ _ _=>0) (fun _ _ _ _ _=>0) (fun _ _ _ _=>0) (fun _ _=>0) (fun _ _=>0) (fun _ _=>0) (fun _ _ _ _=>0) (fun _ _ _ _=>0) (fun _ _ _ _=>0) (fun _ _=>0) (fun a b c=>b) (fun _ _ _=>0) (fun _ _ _=>0) (fun _ _=>0) (fun _ _=>0) (fun _ _=>0) (fun a b c=>b) (fun _ _ _ _=>0)
noncomputable def Iy(x:cP):Operator:=gH x (fun _ _ _=>.Add) (fun _ _ _=>.Add) (fun a b c d=>b) (fun _ _ _=>.Add) (fun _ _ _ _=>.Add) (fun _ _ _ _=>.Add) (fun _ _ _=>.Add) (fun _ _ _=>.Add) (fun _ _ _ _=>.Add) (fun _ _ _ _=>.Add) (fun _ _ _ _ _=>.Add) (fun _ _ _ _=>.Add) (fun _ _=>.Add) (fun _ _=>.Add) (fun _ _=>.Add) (fun _ _ _ _=>.Add) (fun _ _ _ _=>.Add) (fun _ _ _ _=>.Add) (fun _ _=>.Add) (fun _ _ _=>.Add) (fun _ _ _=>.Add) (fun _ _ _=>.Add) (fun _ _=>.Add) (fun _ _=>.Add) (fun _ _=>.Add) (fun _ _ _=>.Add) (fun _ _ _ _=>.Add)
noncomputable def o1(x:cP):CmpOp:=gH x (fun _ _ _=>.Eq) (fun _ _ _=>.Eq) (fun _ _ _ _=>.Eq) (fun _ _ _=>.Eq) (fun _ _ _ _=>.Eq) (fun _ _ _ _=>.Eq) (fun _ _ _=>.Eq) (fun _ _ _=>.Eq) (fun _ _ _ _=>.Eq) (fun _ _ _ _=>.Eq) (fun _ _ _ _ _=>.Eq) (fun _ _ _ _=>.Eq) (fun _ _=>.Eq) (fun _ _=>.Eq) (fun _ _=>.Eq) (fun a b c d=>b.headD .Eq) (fun _ _ _ _=>.Eq) (fun _ _ _ _=>.Eq) (fun _ _=>.Eq) (fun _ _ _=>.Eq) (fun _ _ _=>.Eq) (fun _ _ _=>.Eq) (fun _ _=>.Eq) (fun _ _=>.Eq) (fun _ _=>.Eq) (fun _ _ _=>.Eq) (fun _ _ _ _=>.Eq)
noncomputable def o2(x:cP):CmpOp:=gH x (fun _ _ _=>.Eq) (fun _ _ _=>.Eq) (fun _ _ _ _=>.Eq) (fun _ _ _=>.Eq) (fun _ _ _ _=>.Eq) (fun _ _ _ _=>.Eq) (fun _ _ _=>.Eq) (fun _ _ _=>.Eq) (fun _ _ _ _=>.Eq) (fun _ _ _ _=>.Eq) (fun _ _ _ _ _=>.Eq) (fun _ _ _ _=>.Eq) (fun _ _=>.Eq) (fun _ _=>.Eq) (fun _ _=>.Eq) (fun a b c d=>b.tail.headD .Eq) (fun _ _ _ _=>.Eq) (fun _ _ _ _=>.Eq) (fun _ _=>.Eq) (fun _ _ _=>.Eq) (fun _ _ _=>.Eq) (fun _ _ _=>.Eq) (fun _ _=>.Eq) (fun _ _=>.Eq) (fun _ _=>.Eq) (fun _ _ _=>.Eq) (fun _ _ _ _=>.Eq)
noncomputable def tL(x:cP):Option PySem.Expr:=gH x (fun _ _ _=>I) (fun _ _ _=>I) (fun _ _ _ _=>I) (fun _ _ _=>I) (fun _ _ _ _=>I) (fun _ _ _ _=>I) (fun _ _ _=>I) (fun _ _ _=>I) (fun _ _ _ _=>I) (fun _ _ _ _=>I) (fun _ _ _ _ _=>I) (fun _ _ _ _=>I) (fun _ _=>I) (fun _ _=>I) (fun _ _=>I) (fun _ _ _ _=>I) (fun _ _ _ _=>I) (fun _ _ _ _=>I) (fun _ _=>I) (fun _ _ _=>I) (fun _ _ _=>I) (fun _ _ _=>I) (fun _ _=>I) (fun _ _=>I) (fun _ _=>I) (fun _ _ _=>I) (fun a b c d=>a)
noncomputable def wv(x:cP):Option PySem.Expr:=gH x (fun _ _ _=>I) (fun _ _ _=>I) (fun _ _ _ _=>I) (fun _ _ _=>I) (fun _ _ _ _=>I) (fun _ _ _ _=>I) (fun _ _ _=>I) (fun _ _ _=>I) (fun _ _ _ _=>I) (fun _ _ _ _=>I) (fun _ _ _ _ _=>I) (fun _ _ _ _=>I) (fun _ _=>I) (fun _ _=>I) (fun _ _=>I) (fun _ _ _ _=>I) (fun _ _ _ _=>I) (fun _ _ _ _=>I) (fun _ _=>I) (fun _ _ _=>I) (fun _ _ _=>I) (fun _ _ _=>I) (fun _ _=>I) (fun _ _=>I) (fun _ _=>I) (fun _ _ _=>I) (fun a b c d=>b)
noncomputable def fZ(x:cP):Comprehension:=gH x (fun _ _ _=>⟨dE,dE,[],0⟩) (fun _ _ _=>⟨dE,dE,[],0⟩) (fun _ _ _ _=>⟨dE,dE,[],0⟩) (fun _ _ _=>⟨dE,dE,[],0⟩) (fun _ _ _ _=>⟨dE,dE,[],0⟩) (fun _ _ _ _=>⟨dE,dE,[],0⟩) (fun _ _ _=>⟨dE,dE,[],0⟩) (fun _ _ _=>⟨dE,dE,[],0⟩) (fun a b c d=>b.headD ⟨dE,dE,[],0⟩) (fun _ _ _ _=>⟨dE,dE,[],0⟩) (fun _ _ _ _ _=>⟨dE,dE,[],0⟩) (fun _ _ _ _=>⟨dE,dE,[],0⟩) (fun _ _=>⟨dE,dE,[],0⟩) (fun _ _=>⟨dE,dE,[],0⟩) (fun _ _=>⟨dE,dE,[],0⟩) (fun _ _ _ _=>⟨dE,dE,[],0⟩) (fun _ _ _ _=>⟨dE,dE,[],0⟩) (fun _ _ _ _=>⟨dE,dE,[],0⟩) (fun _ _=>⟨dE,dE,[],0⟩) (fun _ _ _=>⟨dE,dE,[],0⟩) (fun _ _ _=>⟨dE,dE,[],0⟩) (fun _ _ _=>⟨dE,dE,[],0⟩) (fun _ _=>⟨dE,dE,[],0⟩) (fun _ _=>⟨dE,dE,[],0⟩) (fun _ _=>⟨dE,dE,[],0⟩) (fun _ _ _=>⟨dE,dE,[],0⟩) (fun _ _ _ _=>⟨dE,dE,[],0⟩)
noncomputable def m9(x:cP):Scope:=gH x (fun _ _ _=>default) (fun _ _ _=>default) (fun _ _ _ _=>default) (fun _ _ _=>default) (fun _ _ _ _=>default) (fun _ _ _ _=>default) (fun _ _ _=>default) (fun _ _ _=>default) (fun a b c d=>c) (fun _ _ _ _=>default) (fun _ _ _ _ _=>default) (fun _ _ _ _=>default) (fun _ _=>default) (fun _ _=>default) (fun _ _=>default) (fun _ _ _ _=>default) (fun _ _ _ _=>default) (fun _ _ _ _=>default) (fun _ _=>default) (fun _ _ _=>default) (fun _ _ _=>default) (fun _ _ _=>default) (fun _ _=>default) (fun _ _=>default) (fun _ _=>default) (fun _ _ _=>default) (fun _ _ _ _=>default)
noncomputable abbrev bP(x:cP):Pos:=x.pos
noncomputable def oF(n:Nat)(x:cP):PySem.Expr:=(Zk [x,.BoolOp .And (e1 x::cM x) (bP x),.BinOp (e1 x) (Iy x) (e2 x) (bP x),.UnaryOp .Not (e1 x) (bP x),.IfExp (e1 x) (e2 x) (e3 x) (bP x),.Dict [] [] (bP x),x,.ListComp (e1 x) [fZ x] (m9 x) (bP x),x,.Compare (e1 x) [o1 x] [e2 x] (bP x),.Call (e1 x) (cM x) [] (bP x),.Constant (wu x) (kE x) (bP x),.Attribute (e1 x) (dS x) (bP x),.Subscript (e1 x) (e2 x) (bP x),x,.Name (dS x) (bP x),.List (cM x) (bP x),.Tuple (cM x) (kE x) (bP x),.Slice (tL x) (wv x) I (bP x),.Compare (e1 x) [o1 x,o2 x] [e2 x,e3 x] (bP x),.UnaryOp .USub (e1 x) (bP x),.UnaryOp .Invert (e1 x) (bP x),.BoolOp .Or (e1 x::cM x) (bP x)] n x)
theorem Uf(x:cP):oF (wp x) x=x:=by cases x with|BoolOp a b p=>rcases b with _|⟨y,_|⟨z,r⟩⟩<;>cases a<;>rfl|UnaryOp a b p=>cases a<;>rfl|Dict a b p=>cases a<;>cases b<;>rfl|ListComp a b c p=>rcases b with _|⟨y,_|⟨z,r⟩⟩<;>rfl|Compare a b c p=>rcases b with _|⟨y,_|⟨z,_|⟨_,r⟩⟩⟩<;>rcases c with _|⟨y',_|⟨z',_|⟨_,r'⟩⟩⟩<;>rfl|Call a b c p=>cases c<;>rfl|Slice a b c p=>cases c<;>rfl|_=>rfl
noncomputable def aG(n:Nat)(x:cP):Bool:=cu (wp x) n
theorem fb{n:Nat}{x:cP}(h:aG n x=Y):x=oF n x:=(Uf x).symm.trans (aI (fun t=>oF t x) (jK h))
theorem Iz{n:Nat}{x:cP}{P:cP->Prop}(h:aG n x=Y)(k:P (oF n x)):P x:=by rw[fb h];exact k
noncomputable def oG(b:BoolOp)(x:cP):PySem.Expr:=eQ (cM x) (.Starred dE ⟨0,0,0,0⟩) fun y r=>eQ r y fun _ _=>.BoolOp b (cM x) (bP x)
noncomputable def IA(x:jq):Nat:=r6 x (fun _ _ _ _ _ _ _ _ _ _=>0) (fun _ _ _ _ _ _ _ _ _ _=>0) (fun _ _ _ _ _ _ _ _ _ _ _=>0) (fun a b=>cN a 8 fun _=>7) (fun a b=>c1 (fP a) 10) (fun a b c=>c1 (fP a) 1) (fun _ _ _ _ _ _ _=>0) (fun a b c d=>2) (fun _ _ _ _ _=>0) (fun a b c d e=>c1 (m8 d) 5) (fun _ _ _ _ _=>0) (fun a b c d=>c1 (m8 c) 6) (fun a b c d=>4) (fun _ _ _=>0) (fun _ _ _=>0) (fun _ _ _=>0) (fun _ _ _=>0) (fun _ _ _ _ _=>0) (fun _ _ _ _ _=>0) (fun _ _ _=>0) (fun _ _=>0) (fun _ _ _ _=>0) (fun _ _=>0) (fun _ _=>0) (fun a b=>3) (fun _=>0) (fun _=>0) (fun a=>9)
noncomputable def t1(x:jq):PySem.Expr:=r6 x (fun _ _ _ _ _ _ _ _ _ _=>dE) (fun _ _ _ _ _ _ _ _ _ _=>dE) (fun _ _ _ _ _ _ _ _ _ _ _=>dE) (fun a b=>a.getD dE) (fun a b=>a.headD dE) (fun a b c=>a.headD dE) (fun _ _ _ _ _ _ _=>dE) (fun a b c d=>a) (fun _ _ _ _ _=>dE) (fun a b c d e=>a) (fun _ _ _ _ _=>dE) (fun a b c d=>a) (fun a b c d=>a) (fun _ _ _=>dE) (fun _ _ _=>dE) (fun _ _ _=>dE) (fun _ _ _=>dE) (fun _ _ _ _ _=>dE) (fun _ _ _ _ _=>dE) (fun _ _ _=>dE) (fun _ _=>dE) (fun _ _ _ _=>dE) (fun _ _=>dE) (fun _ _=>dE) (fun a b=>a) (fun _=>dE) (fun _=>dE) (fun _=>dE)
noncomputable def vS(x:jq):PySem.Expr:=r6 x (fun _ _ _ _ _ _ _ _ _ _=>dE) (fun _ _ _ _ _ _ _ _ _ _=>dE) (fun _ _ _ _ _ _ _ _ _ _ _=>dE) (fun _ _=>dE) (fun _ _=>dE) (fun a b c=>b) (fun _ _ _ _ _ _ _=>dE) (fun a b c d=>c) (fun _ _ _ _ _=>dE) (fun a b c d e=>b) (fun _ _ _ _ _=>dE) (fun _ _ _ _=>dE) (fun _ _ _ _=>dE) (fun _ _ _=>dE) (fun _ _ _=>dE) (fun _ _ _=>dE) (fun _ _ _=>dE) (fun _ _ _ _ _=>dE) (fun _ _ _ _ _=>dE) (fun _ _ _=>dE) (fun _ _=>dE) (fun _ _ _ _=>dE) (fun _ _=>dE) (fun _ _=>dE) (fun _ _=>dE) (fun _=>dE) (fun _=>dE) (fun _=>dE)
noncomputable def tM(x:jq):Operator:=r6 x (fun _ _ _ _ _ _ _ _ _ _=>.Add) (fun _ _ _ _ _ _ _ _ _ _=>.Add) (fun _ _ _ _ _ _ _ _ _ _ _=>.Add) (fun _ _=>.Add) (fun _ _=>.Add) (fun _ _ _=>.Add) (fun _ _ _ _ _ _ _=>.Add) (fun a b c d=>b) (fun _ _ _ _ _=>.Add) (fun _ _ _ _ _=>.Add) (fun _ _ _ _ _=>.Add) (fun _ _ _ _=>.Add) (fun _ _ _ _=>.Add) (fun _ _ _=>.Add) (fun _ _ _=>.Add) (fun _ _ _=>.Add) (fun _ _ _=>.Add) (fun _ _ _ _ _=>.Add) (fun _ _ _ _ _=>.Add) (fun _ _ _=>.Add) (fun _ _=>.Add) (fun _ _ _ _=>.Add) (fun _ _=>.Add) (fun _ _=>.Add) (fun _ _=>.Add) (fun _=>.Add) (fun _=>.Add) (fun _=>.Add)
noncomputable def b1(x:jq):List Stmt:=r6 x (fun _ _ _ _ _ _ _ _ _ _=>[]) (fun _ _ _ _ _ _ _ _ _ _=>[]) (fun _ _ _ _ _ _ _ _ _ _ _=>[]) (fun _ _=>[]) (fun _ _=>[]) (fun _ _ _=>[]) (fun _ _ _ _ _ _ _=>[]) (fun _ _ _ _=>[]) (fun _ _ _ _ _=>[]) (fun a b c d e=>c) (fun _ _ _ _ _=>[]) (fun a b c d=>b) (fun a b c d=>b) (fun _ _ _=>[]) (fun _ _ _=>[]) (fun _ _ _=>[]) (fun _ _ _=>[]) (fun _ _ _ _ _=>[]) (fun _ _ _ _ _=>[]) (fun _ _ _=>[]) (fun _ _=>[]) (fun _ _ _ _=>[]) (fun _ _=>[]) (fun _ _=>[]) (fun _ _=>[]) (fun _=>[]) (fun _=>[]) (fun _=>[])
noncomputable def b2(x:jq):List Stmt:=r6 x (fun _ _ _ _ _ _ _ _ _ _=>[]) (fun _ _ _ _ _ _ _ _ _ _=>[]) (fun _ _ _ _ _ _ _ _ _ _ _=>[]) (fun _ _=>[]) (fun _ _=>[]) (fun _ _ _=>[]) (fun _ _ _ _ _ _ _=>[]) (fun _ _ _ _=>[]) (fun _ _ _ _ _=>[]) (fun _ _ _ _ _=>[]) (fun _ _ _ _ _=>[]) (fun _ _ _ _=>[]) (fun a b c d=>c) (fun _ _ _=>[]) (fun _ _ _=>[]) (fun _ _ _=>[]) (fun _ _ _=>[]) (fun _ _ _ _ _=>[]) (fun _ _ _ _ _=>[]) (fun _ _ _=>[]) (fun _ _=>[]) (fun _ _ _ _=>[]) (fun _ _=>[]) (fun _ _=>[]) (fun _ _=>[]) (fun _=>[]) (fun _=>[]) (fun _=>[])
noncomputable def fQ(x:jq):Pos:=r6 x (fun _ _ _ _ _ _ _ _ _ _=>⟨0,0,0,0⟩) (fun _ _ _ _ _ _ _ _ _ _=>⟨0,0,0,0⟩) (fun _ _ _ _ _ _ _ _ _ _ _=>⟨0,0,0,0⟩) (fun a b=>b) (fun a b=>b) (fun a b c=>c) (fun _ _ _ _ _ _ _=>⟨0,0,0,0⟩) (fun a b c d=>d) (fun _ _ _ _ _=>⟨0,0,0,0⟩) (fun a b c d e=>e) (fun _ _ _ _ _=>⟨0,0,0,0⟩) (fun a b c d=>d) (fun a b c d=>d) (fun _ _ _=>⟨0,0,0,0⟩) (fun _ _ _=>⟨0,0,0,0⟩) (fun _ _ _=>⟨0,0,0,0⟩) (fun _ _ _=>⟨0,0,0,0⟩) (fun _ _ _ _ _=>⟨0,0,0,0⟩) (fun _ _ _ _ _=>⟨0,0,0,0⟩) (fun _ _ _=>⟨0,0,0,0⟩) (fun _ _=>⟨0,0,0,0⟩) (fun _ _ _ _=>⟨0,0,0,0⟩) (fun _ _=>⟨0,0,0,0⟩) (fun _ _=>⟨0,0,0,0⟩) (fun a b=>b) (fun _=>⟨0,0,0,0⟩) (fun _=>⟨0,0,0,0⟩) (fun a=>a)
noncomputable def Aw(n:Nat)(x:jq):Stmt:=(Zk [x,.Assign [t1 x] (vS x) (fQ x),.AugAssign (t1 x) (tM x) (vS x) (fQ x),.Expr (t1 x) (fQ x),.If (t1 x) (b1 x) (b2 x) (fQ x),.For (t1 x) (vS x) (b1 x) [] (fQ x),.While (t1 x) (b1 x) [] (fQ x),.Return (D (t1 x)) (fQ x),.Return I (fQ x),.Continue (fQ x),.Delete [t1 x] (fQ x)] n x)
theorem Ug(x:jq):Aw (IA x) x=x:=by cases x with|Assign a b c=>rcases a with _|⟨y,_|⟨z,r⟩⟩<;>rfl|For a b c d e=>cases d<;>rfl|While a b c d=>cases c<;>rfl|Return a b=>cases a<;>rfl|Delete a b=>rcases a with _|⟨y,_|⟨z,r⟩⟩<;>rfl|_=>rfl
noncomputable def iz(n:Nat)(x:jq):Bool:=cu (IA x) n
theorem Uh{n:Nat}{x:jq}{P:jq->Prop}(h:iz n x=Y)(k:P (Aw n x)):P x:=by rw[<-Ug x,jK h];exact k
structure rA where
nm:Nat->Option bh
gn:Nat->Option bh
fn:Nat->Option bh
cn:Nat->Option bh
structure Cn where names:List (Option bh)scope:qj
noncomputable abbrev Cn.kd(c:Cn)(x:bh):Option NameKind:=c.scope.names.lookup x
noncomputable def Cn.rB(c:Cn)(x:bh):Bool:=c.kd x==D .local||c.kd x==D .cell
noncomputable def Cn.var(c:Cn)(i:Nat)(x:bh):Bool:=c.names[i]?==D (D x)&&(c.rB x&&!(x==("__debug__":bh)))
noncomputable def Cn.rC(c:Cn)(x:bh):Bool:=c.kd x==D .globalImplicit&&!(x==("__debug__":bh))
noncomputable def p8(sc IB:qj):Scope:={sc with names:=sc.names.map fun(n,k)=>if(k==.free&&IB.kind==.function&&IB.names.lookup n==D .cell)then(n,.cell)else(n,k)}
noncomputable def Tg.slots(t:Tg):List Nat:=match t with|.ag i=>[i]|.fT is=>is
noncomputable def ww(c:Cn)(sc:qj)(tg:List Nat):Nat->List (Option bh)->Bool|_,[]=>Y|i,o::r=>(match o with|none=>Y|some x=>(sc.names.lookup x==D .local&&tg.contains i)||(sc.names.lookup x==D .free&&(c.names[i]?==D (D x)&&c.kd x==D .cell)))&&ww c sc tg (i+1) r
noncomputable def IC(sc:qj)(nc:List (Option bh))(l:List Nat):Bool:=l.all fun i=>match nc[i]? with|some (D x)=>sc.names.lookup x==D .local|_=>aj
noncomputable def ID(c:Cn)(sc:qj)(tg:Tg)(nc:List (Option bh)):Bool:=sc.kind==.function&&(c.scope.kind==.function&&(sc.names.all (fun x=>x.2 !=.cell)&&(sc.names.all (fun x=>x.2 !=.local||sc.names.lookup x.1==D .local)&&(sc.names.all (fun x=>x.2 !=.free||c.kd x.1==D .cell)&&(decide ((nc.filterMap id).Nodup)&&(decide (nc.length=c.names.length)&&(ww c sc tg.slots 0 nc&&IC sc nc tg.slots)))))))
noncomputable abbrev Cn.aY(c:Cn)(nc:List (Option bh))(sc:qj):Cn:=⟨nc,p8 sc c.scope⟩
noncomputable def wz(c:Cn):List Nat->List cP->Bool|[],l=>m8 l|i::is,l=>match l with|[]=>aj|x::l=>aG 15 x&&(c.var i (dS x)&&wz c is l)
noncomputable def p9(c:Cn)(t:Tg)(x:cP):Bool:=match t with|.ag i=>aG 15 x&&c.var i (dS x)|.fT is=>aG 17 x&&wz c is (cM x)
noncomputable def wA(b:iY):Operator:=match b with|.add=>.Add|.sub=>.Sub|.mul=>.Mult|.fdiv=>.FloorDiv|.mod=>.Mod|.band=>.BitAnd|.bor=>.BitOr|.bxor=>.BitXor|.shl=>.LShift|.shr=>.RShift
noncomputable def IE(b:qx):CmpOp:=match b with|.eq=>.Eq|.ne=>.NotEq|.lt=>.Lt|.le=>.LtE|.gt=>.Gt|.ge=>.GtE
noncomputable def Ax(b:iY)(o:Operator):Bool:=decide (o=wA b)
noncomputable def Ui(b:qx)(o:CmpOp):Bool:=decide (o=IE b)
noncomputable def tN(b:Bi):Str:=match b with|.len=>"len"|.max=>"max"|.min=>"min"|.sorted=>"sorted"|.tuple=>"tuple"|.str=>"str"
noncomputable def Uj(d:aa):Const:=match d with|.none=>.none|.bool b=>.bool b|.int i=>.int i|.str s=>.str s|.ab _=>.ellipsis|.ref _=>.ellipsis
noncomputable def Ay(x:cP):Bool:=!(aG 10 x)
section
variable(N:rA)
noncomputable def wB(m:cP->Bool)(Uk:Bool)(o:Option cP):Bool:=match o with|none=>Uk|some l=>m l
noncomputable def wC(m:cP->Bool)(tr:Bool)(l:List cP):Bool:=match l with|[]=>tr|x::r=>m8 r&&m x
noncomputable def isNone(e:Ex):Bool:=match e with|.lit d=>decide (d=.none)|_=>aj
noncomputable def wD(t:Te):Bool:=match t with|.ex e=>(match e with|.lit d=>decide (d=.bool Y)|_=>aj)|_=>aj
mutual noncomputable def bJ:Ex->Cn->cP->Bool|.lit d,c,x=>aG 11 x&&(decide (wu x=Uj d)&&iJ d)|.var i,c,x=>aG 15 x&&c.var i (dS x)|.ai g,c,x=>aG 15 x&&(c.rC (dS x)&&N.gn g==D (dS x))|.ao e f,c,x=>aG 12 x&&(bJ e c (e1 x)&&(N.nm f==D (dS x)&&Ay (e1 x)))|.ad a i,c,x=>aG 13 x&&(bJ a c (e1 x)&&(bJ i c (e2 x)&&!(aG 18 (e2 x))))|.hG a lo hi,c,x=>aG 13 x&&(aG 18 (e2 x)&&(bJ a c (e1 x)&&(wB (bJ lo c) (isNone lo) (tL (e2 x))&&wB (bJ hi c) (isNone hi) (wv (e2 x)))))|.aK op a b,c,x=>aG 2 x&&(Ax op (Iy x)&&(bJ a c (e1 x)&&bJ b c (e2 x)))|.neg a,c,x=>aG 20 x&&bJ a c (e1 x)|.nU a,c,x=>aG 21 x&&bJ a c (e1 x)|.ah op a b,c,x=>aG 9 x&&(Ui op (o1 x)&&(bJ a c (e1 x)&&(bJ b c (e2 x)&&!(aG 6 (e2 x)))))|.dA p a,c,x=>aG 9 x&&(decide (o1 x=cond p .Is .IsNot)&&(bJ a c (e1 x)&&(aG 11 (e2 x)&&decide (wu (e2 x)=.none))))|.aY p a b,c,x=>aG 9 x&&(decide (o1 x=cond p .In .NotIn)&&(bJ a c (e1 x)&&(bJ b c (e2 x)&&!(aG 6 (e2 x)))))|.no a,c,x=>aG 3 x&&bJ a c (e1 x)|.and a b,c,x=>aG 1 x&&(bJ a c (e1 x)&&bJ b c (oG .And x))|.or a b,c,x=>aG 22 x&&(bJ a c (e1 x)&&bJ b c (oG .Or x))|.ite t a b,c,x=>aG 4 x&&(jj t c (e1 x)&&(bJ a c (e2 x)&&bJ b c (e3 x)))|.ab es,c,x=>aG 17 x&&(kY es c (cM x)&&k9 (cM x).length 1000)|.dB es,c,x=>aG 16 x&&(kY es c (cM x)&&k9 (cM x).length 1000)|.il,c,x=>aG 5 x|.comp tg it cond kD nc,c,x=>aG 7 x&&((fZ x).is_async==0&&(ID c (m9 x) tg nc&&(p9 (c.aY nc (m9 x)) tg (fZ x).target&&(Az it c (fZ x).iter&&(!(aG 6 (fZ x).iter)&&(bJ kD (c.aY nc (m9 x)) (e1 x)&&wC (jj cond (c.aY nc (m9 x))) (wD cond) (fZ x).ifs))))))|.call f es,c,x=>aG 10 x&&(aG 15 (e1 x)&&(c.rC (dS (e1 x))&&(N.fn f==D (dS (e1 x))&&kY es c (cM x))))|.new k es,c,x=>aG 10 x&&(aG 15 (e1 x)&&(c.rC (dS (e1 x))&&(N.cn k==D (dS (e1 x))&&kY es c (cM x))))|.aR m o es,c,x=>aG 10 x&&(aG 12 (e1 x)&&(bJ o c (e1 (e1 x))&&(N.nm m==D (dS (e1 x))&&(Ay (e1 (e1 x))&&(kY es c (cM x)&&(k9 (cM x).length 20&&cu (bP (e1 x)).endLine (bP x).line))))))|.bi b es,c,x=>aG 10 x&&(aG 15 (e1 x)&&(c.rC (dS (e1 x))&&(dS (e1 x)==tN b&&kY es c (cM x))))|.iZ,c,x=>aG 10 x noncomputable def kY:Es->Cn->List cP->Bool|.nil,_,l=>m8 l|.cons e es,c,l=>match l with|[]=>aj|x::l=>bJ e c x&&kY es c l noncomputable def jj:Te->Cn->cP->Bool|.ex e,c,x=>bJ e c x&&!(aG 3 x||(aG 1 x||(aG 22 x||(aG 4 x||aG 19 x))))|.no t,c,x=>aG 3 x&&jj t c (e1 x)|.and a b,c,x=>aG 1 x&&(jj a c (e1 x)&&jj b c (oG .And x))|.or a b,c,x=>aG 22 x&&(jj a c (e1 x)&&jj b c (oG .Or x))|.gq a b d,c,x=>aG 19 x&&(decide (o1 x=.LtE)&&(decide (o2 x=.Lt)&&(bJ a c (e1 x)&&(bJ b c (e2 x)&&(bJ d c (e3 x)&&!(aG 6 (e3 x)))))))noncomputable def Az:It->Cn->cP->Bool|.ex e,c,x=>bJ e c x|.range n,c,x=>aG 10 x&&(aG 15 (e1 x)&&(c.rC (dS (e1 x))&&(dS (e1 x)==("range":bh)&&(fP (cM x)&&bJ n c ((cM x).headD dE)))))end
mutual noncomputable def IF:Sm->Cn->jq->Bool|.an t e,c,y=>iz 1 y&&(p9 c t (t1 y)&&(bJ N e c (vS y)&&(aG 15 (t1 y)||!(aG 17 (vS y)||(aG 7 (vS y)||aG 8 (vS y))))))|.cT o f e,c,y=>iz 1 y&&(aG 12 (t1 y)&&(bJ N o c (e1 (t1 y))&&(N.nm f==D (dS (t1 y))&&(bJ N e c (vS y)&&!(aG 7 (vS y)||aG 8 (vS y))))))|.gr o i e,c,y=>iz 1 y&&(aG 13 (t1 y)&&(bJ N o c (e1 (t1 y))&&(bJ N i c (e2 (t1 y))&&(bJ N e c (vS y)&&!(aG 7 (vS y)||aG 8 (vS y))))))|.qy i op e,c,y=>iz 2 y&&(aG 15 (t1 y)&&(c.var i (dS (t1 y))&&(Ax op (tM y)&&bJ N e c (vS y))))|.o5 a f op e,c,y=>iz 2 y&&(aG 12 (t1 y)&&(bJ N a c (e1 (t1 y))&&(N.nm f==D (dS (t1 y))&&(Ax op (tM y)&&bJ N e c (vS y)))))|.expr e,c,y=>iz 3 y&&(bJ N e c (t1 y)&&aG 10 (t1 y))|.ifs t a b,c,y=>iz 4 y&&(jj N t c (t1 y)&&(oH a c (b1 y)&&oH b c (b2 y)))|.for t it b,c,y=>iz 5 y&&(p9 c t (t1 y)&&(Az N it c (vS y)&&(oH b c (b1 y)&&!(aG 6 (vS y)))))|.while t b,c,y=>iz 6 y&&(jj N t c (t1 y)&&oH b c (b1 y))|.ret e,c,y=>iz 7 y&&bJ N e c (t1 y)|.si,c,y=>iz 8 y|.cont,c,y=>iz 9 y|.o6 o i,c,y=>iz 10 y&&(aG 13 (t1 y)&&(bJ N o c (e1 (t1 y))&&bJ N i c (e2 (t1 y))))|.qz o lo,c,y=>iz 10 y&&(aG 13 (t1 y)&&(aG 18 (e2 (t1 y))&&(bJ N o c (e1 (t1 y))&&(wB (bJ N lo c) aj (tL (e2 (t1 y)))&&(wv (e2 (t1 y))).isNone))))|.iZ,_,_=>Y noncomputable def oH:Ss->Cn->List jq->Bool|.nil,_,l=>m8 l|.cons s ss,c,l=>match l with|[]=>aj|x::l=>IF s c x&&oH ss c l end
end
theorem nS{bA:Type}{v:bA}{P:Prop}(e:I=D v):P:=nomatch e
theorem nB{P:Prop}(e:aj=Y):P:=nomatch e
theorem bL{p q:Bool}(h:(p&&q)=Y):p=true:=(fe.mp h).1
theorem bR{p q:Bool}(h:(p&&q)=Y):q=true:=(fe.mp h).2
theorem AA{N:rA}{e:Ex}{c:Cn}{v:cP}{p:Pos}(h:bJ N e c (.Starred v p)=Y):False:=by cases e<;>first|exact nB (bL h)|exact nB h
theorem gW{p:Bool}(h:(!p)=Y):p=false:=by cases p<;>first|rfl|cases h
theorem tO{p q:Bool}(h:(p||q)=aj):p=aj/\q=false:=by cases p<;>cases q<;>first|exact⟨rfl,rfl⟩|cases h
end
section
open PySem.W PySem.Calls PyProof.Rows
inductive F2{bA fA:Type}(R:bA->fA->Prop):List bA->List fA->Prop where|nil:F2 R [] []|cons{a:bA}{b:fA}{l:List bA}{r:List fA}(h:R a b)(hs:F2 R l r):F2 R (a::l) (b::r)
section
variable{a:bA}
theorem F2.aq(k:∀{a b},R a b->Z a b)(h:F2 R l r):F2 Z l r:=F2.rec .nil (fun h _ X=>.cons (k h) X) h
theorem F2.length(h:F2 R l r):r.length=l.length:=F2.rec rfl (fun _ _ Z=>aI (·+1) Z) h
theorem F2.append(h:F2 R l r)(h':F2 R l' Z):F2 R (l++l') (r++Z):=F2.rec (motive:=fun l r _=>F2 R (l++l') (r++Z)) h' (fun h _ X=>.cons h X) h
theorem F2.ag(h:R a b):F2 R [a] [b]:=.cons h .nil
theorem F2.ir(h:F2 R l r):∀{i:Nat}{a:bA},l[i]?=D a->∃b,r[i]?=D b/\R a b:=F2.rec (motive:=fun l r _=>∀{i:Nat}{a:bA},l[i]?=D a->∃b,r[i]?=D b/\R a b) (fun e=>nomatch e) (fun{a b _ _}h _ Z{i _}e=>by
rcases i with _|i;.cases e;exact⟨b,rfl,h⟩
exact Z e) h
theorem F2.take(h:F2 R l r):∀n:Nat,F2 R (l.take n) (r.take n):=F2.rec (motive:=fun l r _=>∀n:Nat,F2 R (l.take n) (r.take n)) (fun n=>by rw[xy,xy];exact .nil) (fun h _ Z n=>by
rcases n with _|n;.exact .nil
exact .cons h (Z n)) h
theorem F2.drop(h:F2 R l r):∀n:Nat,F2 R (l.drop n) (r.drop n):=F2.rec (motive:=fun l r _=>∀n:Nat,F2 R (l.drop n) (r.drop n)) (fun n=>by rw[xx,xx];exact .nil) (fun h Z X n=>by
rcases n with _|n;.exact .cons h Z
exact X n) h
theorem F2.set(Z:R a b)(h:F2 R l r):∀n:Nat,F2 R (l.set n a) (r.set n b):=F2.rec (motive:=fun l r _=>∀n:Nat,F2 R (l.set n a) (r.set n b)) (fun _=>.nil) (fun h X U n=>by
rcases n with _|n;.exact .cons Z X
exact .cons h (U n)) h
end
noncomputable abbrev Gm:=bu->Option iG
noncomputable abbrev Mp:=List (bu×bu)
noncomputable abbrev rD(xs:Array aH)(n:Nat):Obj:={cls:=.type "tuple",dict:=I,data:=.seq xs n,slots:=#[]}
noncomputable abbrev lZ(xs:Array aH)(n:Nat):Obj:={cls:=.type "list",dict:=I,data:=.seq xs n,slots:=#[]}
inductive VR(G:Gm)(m:Mp):aa->aH->Prop where|none:VR G m .none .none|bool{b:Bool}:VR G m (.bool b) (.bool b)|int{i:Int}{t:Tok}:VR G m (.int i) (.int i t)|str{s:bh}{t:Tok}:VR G m (.str s) (.str s t)|ab{l:List aa}{a:bu}{xs:Array aH}{n:Nat}(h:G a=D (rD xs n))(hs:F2 (VR G m) l xs.toList):VR G m (.ab l) (.ref a)|ref{i:Nat}{p:bu×bu}(h:m[i]?=D p):VR G m (.ref i) (.ref p.1)
noncomputable abbrev eJ(G:Gm)(m:Mp):=F2 (VR G m)
section
variable{h h':ln}
@[elab_as_elim]theorem VR.nE{motive:aH->Prop}(h:VR G m .none v)(k:motive .none):motive v:=by cases(h);exact k
@[elab_as_elim]theorem VR.bE{motive:aH->Prop}(h:VR G m (.bool b) v)(k:motive (.bool b)):motive v:=by cases(h);exact k
@[elab_as_elim]theorem VR.iE{motive:aH->Prop}(h:VR G m (.int i) v)(k:∀t,motive (.int i t)):motive v:=by cases(h);exact k _
@[elab_as_elim]theorem VR.sE{motive:aH->Prop}(h:VR G m (.str i) v)(k:∀t,motive (.str i t)):motive v:=by cases(h);exact k _
@[elab_as_elim]theorem VR.tE{motive:aH->Prop}(h:VR G m (.ab l) v)(k:∀a xs n,G a=D (rD xs n)->F2 (VR G m) l xs.toList->motive (.ref a)):motive v:=by cases(h)with|ab a b=>exact k _ _ _ a b
theorem VR.IG(X:∀a xs n,G a=D (rD xs n)->Z a=D (rD xs n))(U:∀(i:Nat)p,m[i]?=D p->m'[i]?=D p)(h:VR G m d v):VR Z m' d v:=VR.rec (motive_1:=fun d v _=>VR Z m' d v) (motive_2:=fun l vs _=>eJ Z m' l vs) .none .bool .int .str (fun h _ J=>.ab (X _ _ _ h) J) (fun h=>.ref (U _ _ h)) .nil (fun _ _ a b=>.cons a b) h
theorem VR.aq(H:∀a o,G a=D o->Q a=D o)(O:∀(i:Nat)p,m[i]?=D p->m'[i]?=D p)(h:VR G m d v):VR Q m' d v:=h.IG (fun a _ _=>H a _) O
theorem VR.pure(Z:∀a o,G a=D o->h.get? a=D o)(X:VR G m d v):∀{n:Nat},cf n d=Y->VR h.get? [] d v:=VR.rec (motive_1:=fun d v _=>∀{n:Nat},cf n d=Y->VR h.get? [] d v) (motive_2:=fun l vs _=>∀{n:Nat},gs n l=Y->eJ h.get? [] l vs) (fun _=>.none) (fun _=>.bool) (fun _=>.int) (fun _=>.str) (fun h _ U=>@fun n q=>by
rcases n with _|n;.cases q
exact .ab (Z _ _ h) (U q)) (fun _=>@fun n q=>by cases n<;>cases q) (fun _=>.nil) (fun _ _ a b=>@fun n q=>.cons (a (bL q)) (b (bR q))) X
theorem eJ.pure(U:∀a o,G a=D o->h.get? a=D o)(J:eJ G m l vs)(q:gs n l=Y):eJ h.get? [] l vs:=by induction J with|nil=>exact .nil|cons a _ H=>exact .cons (a.pure U (bL q)) (H (bR q))
theorem VR.inj(a:VR h.get? [] x v):∀{n k:Nat}{y:aa},fi n x=Y->fi k y=Y->VR h.get? [] y v->x=y:=VR.rec (motive_1:=fun x v _=>∀{n k:Nat}{y:aa},fi n x=Y->fi k y=Y->VR h.get? [] y v->x=y) (motive_2:=fun l vs _=>∀{n k:Nat}{l':List aa},kF n l=Y->kF k l'=Y->eJ h.get? [] l' vs->l=l') (@fun n _ _ q _ _=>by cases n<;>cases q) (@fun _ n _ _ q _ _=>by cases n<;>cases q) (fun _ _ b=>by cases b;rfl) (fun _ _ b=>by cases b;rfl) (fun J _ H=>@fun n k _ q Z b=>by cases b with|ref e=>cases e|ab X U=>
rcases n with _|n;.cases q
rcases k with _|k;.cases Z
cases J.symm.trans X;rw[H q Z U]) (fun e=>by cases e) (fun _ _ b=>by cases b;rfl) (fun _ _ Q O=>@fun _ _ _ q Z b=>by cases b with|cons b bs=>rw[Q (bL q) (bL Z) b,O (bR q) (bR Z) bs]) a
theorem VR.Ul{o:iG}(Z:h.get? d=D o)(X:o.data=.dict es H)(U:Heap.SameBut d h h')(J:VR h.get? [] x v):VR h'.get? [] x v:=J.IG (fun a xs n e=>(U.2 a fun z=>by rw[z,Z]at e;clear Z;cases e;cases X).trans e) fun _ _ e=>e
end
mutual noncomputable def rE(w:qk):aa->Int|.int i=>hashInt i|.str s=>hashStr w s|.ab l=>reduceHash (Zl (AB w l))|.none=>0|.bool _=>0|.ref _=>0 noncomputable def AB(w:qk):List aa->List Int|[]=>[]|d::r=>rE w d::AB w r end
mutual noncomputable def tP:aa->Nat|.ab l=>tQ l+1|.int _=>1|.str _=>1|.none=>1|.bool _=>1|.ref _=>1 noncomputable def tQ:List aa->Nat|[]=>0|d::r=>tP d+tQ r end
section
variable{s:cJ}
theorem Um(hv:eJ s.heap.get? [] l vs)(items:∀(d:aa)(v:aH),d∈l->VR s.heap.get? [] d v->∀(k:Nat)(Q':Int->cJ->Prop),Q' (rE w d) {s with toks:=s.toks+k+tP d}->wpAny (model prog w) A (pyHash v) Q' E {s with toks:=s.toks+k}):∀{b:Array Int}{k:Nat}{Q:Array Int->cJ->Prop},(∀b',b'.toList=b.toList++AB w l->Q b' {s with toks:=s.toks+k+tQ l})->wpAny (model prog w) A (forIn vs b fun x r=>do let h<-pyHash x;pure PUnit.unit;pure (mu (r.push h))) Q E {s with toks:=s.toks+k}:=by induction hv with|nil=>exact fun{b k Q}h=>aX (h b (bO _).symm)|@cons d v l vs h1 _ ih=>intro b k Q h;rw[BS];refine aA (aA (items d v aW h1 k _ (aA (aX (aX ?_)))));rw[eL];refine ih (fun d v hm=>items d v (cI _ hm)) fun b' hb=>?_;rw[show s.toks+(k+tP d)+tQ l=s.toks+k+tQ (d::l)from by show _=_+(_+_);rw[<-eL,<-eL]];exact(h b' (by rw[hb,Lb,dy];rfl))
theorem IH:∀{l:List aa},kF n l=Y->d∈l->fi n d=Y|x::r,h,Z=>(ce.mp Z).elim (fun e=>e▸bL h) (IH (bR h))
theorem Un:∀(n:Nat){A:mw}{E:aH->cJ->Prop}{s:cJ}{d:aa}{v:aH}{Q:Int->cJ->Prop},A.units+n<cLine->fi n d=Y->VR s.heap.get? [] d v->Q (rE w d) {s with toks:=s.toks+tP d}->wpAny (model J w) A (pyHash v) Q E s:=by intro n;induction n with
|zero=>intro A E s d v Q U X Z h;induction Z using VR.casesOn with|int=>exact Zm h|str=>exact Zn h|_=>cases X
|succ n O=>intro A E s d v Q U X Z h;induction Z using VR.casesOn with|int=>exact Zm h|str=>exact Zn h|@ab l a xs _ H C=>refine pyHash_slot (T:="tuple") ⟨_,H,rfl⟩ F.slot_tuple_hash F.entry_tuple_hash (F.args_tuple_hash_1 _) (beq_builtin_none _) (.inr (da 0xa96c0a0021ad001 rfl U)) ?_;show wpAny _ _ (Zo (.ref a)>>=_) _ _ s;refine aA (wpAny_tupleItemsOf H rfl (aA ?_));rw[Zp.symm];refine Um (k:=0) C (fun d v M Z k K h'=>O (s:={s with toks:=s.toks+k}) (by rw[Around.in1_units];exact da 0xb16a0a0021b54b400001 rfl U) (IH X M) Z h') fun b L=>?_;show wpAny _ _ (retInt (Zl b.toList)) _ _ _;rw[L];exact aA (wpAny_mkInt (aX ⟨_,_,rfl,h⟩))|_=>cases X
theorem Uo:∀(n m:Nat){A:mw}{E:aH->cJ->Prop}{s:cJ}{d:aa}{v:aH}{Q:Bool->cJ->Prop},n<=m->fi n d=Y->VR s.heap.get? [] d v->Q Y s->wpAny (model prog w) A (eqIsQuiet m v) Q E s:=by intro n;induction n with
|zero=>intro m A E s d v Q hu hk hv h;induction hv using VR.casesOn with|int=>rw[BU _ rfl];exact aX h|str=>rw[BU _ rfl];exact aX h|_=>cases hk
|succ n ih=>intro m A E s d v Q hu hk hv h;induction hv using VR.casesOn with|int=>rw[BU _ rfl];exact aX h|str=>rw[BU _ rfl];exact aX h|@ab l a xs _ ho hs=>
  rcases m with _|m;.exact ae hu (qe n)
  have hT:s.TypeIs (.ref a) "tuple":=⟨_,ho,rfl⟩;unfold eqIsQuiet;refine aA (Ld hT F.slot_tuple_eq.lookup ?_);show wpAny _ _ (isInstance (.ref a) (.type "tuple")>>=_) _ _ s;refine aA (wpAny_isInstance hT isSubtype_tuple_tuple ?_);rw[am (fun q=>nomatch q:¬(!Y)=Y)];refine aA (Le ho rfl (aA ?_));show wpAny _ _ (forIn xs _ _) _ _ s;rw[Zp.symm];refine wpAny_forIn_list _ (fun rest r s'=>r.1=I/\s'=s/\∃left,eJ s.heap.get? [] left rest/\kF n left=Y) _ ?_ ?_ _ _ ⟨rfl,rfl,l,hs,hk⟩;.clear h ho hs hT;rintro v rest r s'⟨hr,rfl,left,hl,II⟩;cases hl with|cons h1 h2=>refine aA (ih m (lf hu) (bL II) h1 ?_);rw[am (fun q=>nomatch q:¬(!Y)=Y)];exact aX ⟨rfl,rfl,_,h2,bR II⟩
  .clear ho hs hT;rintro⟨r1,r2⟩s'⟨hq,rfl,_⟩;obtain rfl:r1=none:=hq;exact aX h|_=>cases hk
end
end
section
theorem AC{u m a b c:Nat}(h:u+m<c)(h1:a<=m):u+min a b<c:=dM (eP (bj (uv a b) h1) u) h
theorem IJ(h:u+50<c)(h1:b<=40):u+1+min a b<c:=dM (by rw[eL];exact eP (eP (bj (jT a b) (bj h1 (cm rfl:40<=49))) 1) u) h
open PySem.W PySem.Calls PyProof.Rows
mutual noncomputable def ga:aa->PyData|.none=>.none|.bool b=>.bool b|.int i=>.int i|.str s=>.str s|.ab l=>.tuple (fI l)|.ref _=>.none noncomputable def fI:List aa->List PyData|[]=>[]|d::r=>ga d::fI r end
theorem AD{P:Nat->aa->Prop}{Ps:Nat->List aa->Prop}(X:∀n,P n .none)(hi:∀n i,P n (.int i))(U:∀n s,mc s=Y->P n (.str s))(J:∀n l,gs n l=Y->Ps n l->P (n+1) (.ab l))(H:∀n,Ps n [])(Q:∀n d l,cf n d=Y->P n d->Ps n l->Ps n (d::l)):∀n,(∀d,cf n d=Y->P n d)/\∀l,gs n l=Y->Ps n l:=by
 have key:∀n,(∀d,cf n d=Y->P n d)->∀l,gs n l=Y->Ps n l:=fun n h l=>by induction l with|nil=>exact fun _=>H n|cons d r Z=>exact fun q=>Q n d r (bL q) (h d (bL q)) (Z (bR q))
 intro n
 induction n with|zero=>
 have h:∀d,cf 0 d=Y->P 0 d:=fun d q=>by induction d using aa.casesOn with|none=>exact X 0|int i=>exact hi 0 i|str s=>exact U 0 s q|_=>cases q
 exact⟨h,key 0 h⟩|succ n Z=>
 have h:∀d,cf (n+1) d=Y->P (n+1) d:=fun d q=>by induction d using aa.casesOn with|none=>exact X _|int i=>exact hi _ i|str s=>exact U _ s q|ab l=>exact J n l q (Z.2 l q)|_=>cases q
 exact⟨h,key _ h⟩
theorem AE[BEq Z][LawfulBEq Z][DecidableEq Z](a b:Z):(a==b)=decide (a=b):=by
 by_cases e:a=b;.rw[aN e,e,beq_self_eq_true]
 .rw[bS e];exact gl.mpr e
theorem kl(n:Nat):(∀d,cf n d=Y->(ga d).canLay0=Y/\(ga d).depth<=n)/\∀l,gs n l=Y->Lf (fI l)=Y/\BV (fI l)<=n:=AD (P:=fun n d=>(ga d).canLay0=Y/\(ga d).depth<=n) (Ps:=fun n l=>Lf (fI l)=Y/\BV (fI l)<=n) (fun n=>⟨rfl,bQ n⟩) (fun n _=>⟨rfl,bQ n⟩) (fun n _ q=>⟨q,bQ n⟩) (fun n l _ ih=>⟨ih.1,by show BV (fI l)+1<=n+1;exact mi ih.2⟩) (fun n=>⟨rfl,bQ n⟩) (fun n d l _ h1 h2=>⟨by show((ga d).canLay0&&Lf (fI l))=Y;rw[h1.1,h2.1];rfl,by show max (ga d).depth (BV (fI l))<=n;exact BQ.mpr ⟨h1.2,h2.2⟩⟩) n
theorem oI{h:ln}(n:Nat):(∀d,cf n d=Y->∀v,VR h.get? [] d v->∃as,Reads h v (ga d) as)/\∀l,gs n l=Y->∀vs,eJ h.get? [] l vs->∃as,ReadsAll h vs (fI l) as:=AD (P:=fun n d=>∀v,VR h.get? [] d v->∃as,Reads h v (ga d) as) (Ps:=fun n l=>∀vs,eJ h.get? [] l vs->∃as,ReadsAll h vs (fI l) as) (fun _ v Z=>by refine VR.nE Z ?_;exact⟨_,.none⟩) (fun _ i v Z=>by refine VR.iE Z fun _=>?_;exact⟨_,.int i _⟩) (fun _ i _ v Z=>by refine VR.sE Z fun _=>?_;exact⟨_,.str i _⟩) (fun n l _ X v Z=>by refine VR.tE Z fun _ _ _ U J=>?_;exact(X _ J).elim fun as h=>⟨as,.tuple U rfl rfl h⟩) (fun _ vs Z=>by cases Z;exact⟨_,.nil⟩) (fun n d l _ H Q vs Z=>by cases Z with|cons a b=>exact(H _ a).elim fun as O=>(Q _ b).elim fun bs E=>⟨_,.cons O E⟩) n
theorem wF(n:Nat):(∀a,cf n a=Y->∀k b,cf k b=Y->xC (ga a) (ga b)=decide (a=b))/\∀a,gs n a=Y->∀k b,gs k b=Y->Lg (fI a) (fI b)=decide (a=b):=by
 have X:∀{p:Prop}{i:Decidable p},¬p->aj=@decide p i:=fun h=>(bS h).symm;refine AD (P:=fun n a=>∀k b,cf k b=Y->xC (ga a) (ga b)=decide (a=b)) (Ps:=fun n a=>∀k b,gs k b=Y->Lg (fI a) (fI b)=decide (a=b)) ?_ ?_ ?_ ?_ ?_ ?_ n;.intro _ k b Z;induction b using aa.casesOn with|none=>rfl|bool=>cases Z|ref=>cases Z|_=>exact X nofun
 .intro _ i k b Z;induction b using aa.casesOn with|int j=>exact iF.mpr ⟨fun e=>aI _ e,aa.int.inj⟩|bool=>cases Z|ref=>cases Z|_=>exact X nofun
 .intro _ i _ k b Z;induction b using aa.casesOn with|str j=>exact(AE i j).trans (iF.mpr ⟨fun e=>aI _ e,aa.str.inj⟩)|bool=>cases Z|ref=>cases Z|_=>exact X nofun
 .intro n l _ U k b Z;induction b using aa.casesOn with|ab j=>
 rcases k with _|k;.cases Z
 exact(U k j Z).trans (iF.mpr ⟨fun e=>aI _ e,aa.ab.inj⟩)|bool=>cases Z|ref=>cases Z|_=>exact X nofun
 .intro _ k b _;induction b using eQ with|nil=>rfl|cons=>exact X nofun
 .intro n d l _ J H k b Z;induction b using eQ with|nil=>exact X nofun|cons e r=>show(xC (ga d) (ga e)&&Lg (fI l) (fI r))=_;rw[J k e (bL Z),H k r (bR Z),<-Bool.decide_and];exact iF.mpr ⟨fun q=>by rw[q.1,q.2],fun q=>by clear Z;cases q;exact⟨rfl,rfl⟩⟩
theorem wG(n:Nat):∀d,fi n d=Y->cf n d=true:=by induction n with
|zero=>intro d q;cases d<;>first|exact q|rfl|cases q
|succ n U=>
have Z:∀l,kF n l=Y->gs n l=true:=fun l=>by induction l with|nil=>exact fun _=>rfl|cons d r X=>exact fun q=>by show(cf n d&&gs n r)=Y;rw[U d (bL q),X (bR q)];rfl
intro d q;cases d<;>first|exact q|rfl|exact Z _ q|cases q
section
theorem Up{Q:Bool->cJ->Prop}(C:A.units+n<cLine)(X:cf n x=Y)(U:cf n y=Y)(J:VR s.heap.get? [] x a)(H:VR s.heap.get? [] y b)(h:Q (decide (x=y)) s):wpAny (model Z w) A (eqBool a b) Q E s:=by obtain⟨as,O⟩:=(oI n).1 _ X _ J;obtain⟨bs,rb⟩:=(oI n).1 _ U _ H;exact SeqAt.eqBoolOverData Z w A E s a b _ _ as bs Q O rb ((kl n).1 _ X).1 ((kl n).1 _ U).1 (AC ‹_› ((kl n).1 _ X).2) ((wF n).1 _ X n _ U▸h)
theorem Uq{Q:aH->cJ->Prop}(ne:Bool)(hu:A.units+n<cLine)(hx:cf n x=Y)(hy:cf n y=Y)(ha:VR s.heap.get? [] x a)(hb:VR s.heap.get? [] y b)(h:Q (.bool (cond ne (!decide (x=y)) (decide (x=y)))) s):wpAny (model prog w) A (oZ (cond ne .NotEq .Eq) a b) Q E s:=by
 obtain⟨as,ra⟩:=(oI n).1 _ hx _ ha;obtain⟨bs,rb⟩:=(oI n).1 _ hy _ hb;have l1:=(kl n).1 _ hx;have hm:A.units+min (ga x).depth (ga y).depth<cLine:=AC ‹_› l1.2;rw[<-(wF n).1 _ hx n _ hy]at h;rcases ne with _|_;.exact Zq ra rb l1.1 ((kl n).1 _ hy).1 hm h
 exact Zr ra rb l1.1 ((kl n).1 _ hy).1 hm h
end
noncomputable def Ur(prog:Program)(w:qk):HeapKind prog w (List aa)where is h l a:=fi 6 (.ab l)=Y/\VR h.get? [] (.ab l) (.ref a);hash l:=rE w (.ab l);draws l:=tP (.ab l);room A:=A.units+10<cLine;inj:=fun hx hy=>aa.ab.inj (hx.2.inj (n:=6) (k:=6) hx.1 hy.1 hy.2);keeps:=fun hx ho hd hs=>⟨hx.1,hx.2.Ul ho hd hs⟩;pyHash:=fun hu hk h=>Un 6 (aC 0xaba80086aaa0001 rfl hu) hk.1 hk.2 h;eqBool:=fun hu hx hy h=>Up (n:=6) (aC 0xaba80086aaa0001 rfl hu) (wG 6 _ hx.1) (wG 6 _ hy.1) hx.2 hy.2 (by rw[iF.mpr ⟨aa.ab.inj,aI aa.ab⟩];exact h);quiet:=fun hk h=>Uo 6 8 (by decide) hk.1 hk.2 h
end
section
open PySem.W PySem.Calls PyProof.Rows
structure Wx where
prog:Program
w:qk
K:Frag
N:rA
gc:Nat->bu
kZ:Nat->bu
AF:∀i j x,N.nm i=D x->N.nm j=D x->i=j
structure Cf where
G:Gm
m:Mp
s:cJ
noncomputable abbrev Cf.hp(y:Cf)(h:ln)(t:Nat):Cf:=⟨y.G,y.m,{y.s with heap:=h,toks:=t}⟩
abbrev Cf.ak(y:Cf)(d:aa)(v:aH):Prop:=VR y.G y.m d v
abbrev Cf.Vs(y:Cf)(d:List aa)(v:List aH):Prop:=eJ y.G y.m d v
section
variable(X:Wx)(G:Gm)(m:Mp)(h:ln)
abbrev FR(p:Nat×aa)(e:nN):Prop:=(∃x t,X.N.nm p.1=D x/\e.key=.str x t)/\VR G m p.2 e.val
abbrev DR(p:aa×aa)(e:nN):Prop:=(eG p.1=Y/\e.hash=rE X.w p.1)/\VR G m p.1 e.key/\VR G m p.2 e.val
inductive OR:AO->bu×bu->Prop where|list{xs:List aa}{p:bu×bu}{vs:Array aH}{n:Nat}(h2:p.2=p.1)(ho:h.get? p.1=D (lZ vs n))(hv:eJ G m xs vs.toList):OR (.list xs) p|dict{es:List (aa×aa)}{p:bu×bu}{o:iG}{dF:Array nN}{ep:Nat}(h2:p.2=p.1)(nd:(es.map (·.1)).Nodup)(ho:h.get? p.1=D o)(hc:o.ExactDict)(hd:o.data=.dict dF ep)(hv:F2 (DR X G m) es dF.toList):OR (.dict es) p|bl{c:Nat}{fs:List (Nat×aa)}{p:bu×bu}{es:List nN}{n:Nat}(h2:p.2≠p.1)(ho:h.get? p.1=D (instObj (X.gc c) p.2))(nd:(fs.map (·.1)).Nodup)(hd:h.get? p.2=D (dictOf es n))(hv:F2 (FR X G m) fs es):OR (.bl c fs) p
end
section
variable{o:AO}{p:bu×bu}
theorem OR.aq(J:∀a o,G a=D o->E a=D o)(H:∀(i:Nat)p,m[i]?=D p->m'[i]?=D p)(Q:h'.get? p.1=h.get? p.1)(C:h'.get? p.2=h.get? p.2)(x:OR X G m h o p):OR X E m' h' o p:=by induction x using OR.casesOn with|list e Z U=>exact .list e (Q.trans Z) (U.aq (·.aq J H))|dict e nd Z M O U=>exact .dict e nd (Q.trans Z) M O (U.aq fun q=>⟨q.1,q.2.1.aq J H,q.2.2.aq J H⟩)|bl e Z nd O U=>exact .bl e (Q.trans Z) nd (C.trans O) (U.aq fun q=>⟨q.1,q.2.aq J H⟩)
theorem OR.gf(x:OR X G m h o p):(h.get? p.1).isSome=Y/\(h.get? p.2).isSome=true:=by induction x using OR.casesOn with|list e Z U=>rw[e,Z];exact⟨rfl,rfl⟩|dict e nd Z H J U=>rw[e,Z];exact⟨rfl,rfl⟩|bl e Z nd J U=>rw[Z,J];exact⟨rfl,rfl⟩
end
structure HR(X:Wx)(σ:AH)(y:Cf):Prop where
sub:∀a o,y.G a=D o->y.s.heap.get? a=D o
base:∀a o,X.K.lookup a=D o->y.G a=D o
len:y.m.length=σ.length
apart:∀(i j:Nat)p q,y.m[i]?=D p->y.m[j]?=D q->i≠j->p.1≠q.1/\p.1≠q.2/\p.2≠q.1/\p.2≠q.2
out:∀(i:Nat)p,y.m[i]?=D p->y.G p.1=I/\y.G p.2=I
cells:∀(i:Nat)p o,y.m[i]?=D p->σ[i]?=D o->OR X y.G y.m y.s.heap o p
structure cG(P:bu->Prop)(y z:Cf):Prop where
fr:z.s=⟨z.s.heap,y.s.gens,y.s.drawn,z.s.toks,y.s.os⟩g:∀a o,y.G a=D o->z.G a=D o
gn:∀a o,z.G a=D o->y.G a=D o\/y.s.heap.get? a=I
mm:∀(i:Nat)p,y.m[i]?=D p->z.m[i]?=D p
mn:∀(i:Nat)p,z.m[i]?=D p->y.m[i]?=D p\/(y.s.heap.get? p.1=I/\y.s.heap.get? p.2=I)keep:∀a o,y.s.heap.get? a=D o->¬P a->(∀(i:Nat)p,i≠0->y.m[i]?=D p->a≠p.1/\a≠p.2)->z.s.heap.get? a=D o
gf:∀a,y.s.heap.get? a≠I->z.s.heap.get? a≠I
abbrev IK(_:bu):Prop:=False
noncomputable abbrev bZ:=cG IK
section
theorem nn{o:Option Z}(e:o=D v):o≠none:=fun q=>by rw[e]at q;cases q
theorem cG.iU(x:cG P y z)(Z:z.s.heap.get? a=I):y.s.heap.get? a=none:=un.mp fun q=>x.gf a q Z
theorem cG.trans(x:cG P y z)(x':cG P z u):cG P y u where
fr:=by rw[x'.fr,x.fr]
g a o e:=x'.g a o (x.g a o e);gn a o e:=(x'.gn a o e).elim (x.gn a o) fun q=>.inr (x.iU q);mm i p e:=x'.mm i p (x.mm i p e);mn i p e:=(x'.mn i p e).elim (x.mn i p) fun q=>.inr ⟨x.iU q.1,x.iU q.2⟩;keep a o e hp hm:=x'.keep a o (x.keep a o e hp hm) hp fun i p hi q=>(x.mn i p q).elim (hm i p hi) fun r=>⟨fun z=>nn e (z▸r.1),fun z=>nn e (z▸r.2)⟩;gf a e:=x'.gf a (x.gf a e)
theorem cG.Us(k:∀a,P a->J a)(x:cG P y z):cG J y z:={x with keep:=fun a o e H Q=>x.keep a o e (fun q=>H (k a q)) Q}
theorem cG.heap(Z:∀a o,y.s.heap.get? a=D o->¬P a->h'.get? a=D o)(U:∀a,P a->y.s.heap.get? a≠I->h'.get? a≠I):cG P y (y.hp h' t):=⟨rfl,fun _ _ e=>e,fun _ _ e=>.inl e,fun _ _ e=>e,fun _ _ e=>.inl e,fun a o e J _=>Z a o e J,fun a e=>by
rcases q:y.s.heap.get? a with _|o;.exact ae q e
exact(R? (P a)).elim (fun p=>U a p e) fun p=>nn (Z a o q p)⟩
theorem bZ.more(Z:∀a o,y.s.heap.get? a=D o->h'.get? a=D o):cG P y (y.hp h' t):=⟨rfl,fun _ _ e=>e,fun _ _ e=>.inl e,fun _ _ e=>e,fun _ _ e=>.inl e,fun a o e _ _=>Z a o e,fun a e q=>by
rcases r:y.s.heap.get? a with _|o;.exact e r
exact nn (Z a o r) q⟩
theorem bZ.tk:cG P y (y.hp y.s.heap t):=bZ.more fun _ _ e=>e
theorem bZ.refl:cG P y y:=bZ.tk (t:=y.s.toks)
theorem cG.l0(x:cG P y z)(B:bu->Prop)(hk:∀a o,z.s.heap.get? a=D o->¬B a->h'.get? a=D o)(hB:∀a,B a->y.s.heap.get? a=I):cG P y (z.hp h' t)where
fr:=(aI (fun q:cJ=>Shared.mk h' q.gens q.drawn t q.os) x.fr:);g:=x.g;gn:=x.gn;mm:=x.mm;mn:=x.mn;keep a o e hp hm:=hk a o (x.keep a o e hp hm) fun q=>nn e (hB a q);gf a e q:=by
 rcases r:z.s.heap.get? a with _|o;.exact x.gf a e r
 exact nn (hk a o r fun q=>e (hB a q)) q
end
section
variable{t i:Nat}{o:AO}{p:bu×bu}
theorem VR.ext(Z:y.ak d v)(x:cG P y z):z.ak d v:=Z.aq x.g x.mm
theorem eJ.ext(Z:y.Vs l vs)(x:cG P y z):z.Vs l vs:=F2.aq (fun h=>h.ext x) Z
theorem HR.hX(S:HR X σ y):X.K.In y.s.heap:=fun a o e=>S.sub a o (S.base a o e)
theorem HR.ref(S:HR X σ y)(e:σ[i]?=D o)(U:y.ak (.ref i) v):∃p,y.m[i]?=D p/\v=.ref p.1/\OR X y.G y.m y.s.heap o p:=by cases U with|ref Z=>exact⟨_,Z,rfl,S.cells i _ o Z e⟩
theorem HR.gf(S:HR X σ y)(e:y.m[i]?=D p):y.s.heap.get? p.1≠I/\y.s.heap.get? p.2≠none:=by have c:=(S.cells i p _ e (dL (by rw[S.len.symm];exact(bp.mp e).1))).gf;exact⟨fun q=>(by rw[q]at c;cases c.1),fun q=>(by rw[q]at c;cases c.2)⟩
theorem k3(h:ln):h.get? h.objs.size=none:=by
 rcases e:h.get? h.objs.size with _|o;.rfl
 exact ae (r9 e) (oW _)
theorem HR.Ut(S:HR X σ y)(e:y.s.heap.get? a=I):y.G a=none:=by
 rcases q:y.G a with _|o;.rfl
 exact ae e (nn (S.sub a o q))
def cq(y:Cf)(a:bu):Prop:=y.G a=I/\∀(i:Nat)p,y.m[i]?=D p->a≠p.1/\a≠p.2
theorem cq.new(S:HR X σ y)(Z:y.s.heap.get? a=I):cq y a:=⟨S.Ut Z,fun i p e=>⟨fun w=>(S.gf e).1 (w▸Z),fun w=>(S.gf e).2 (w▸Z)⟩⟩
theorem cq.ext{o:iG}(T:cq y a)(x:cG P y z)(U:y.s.heap.get? a=D o)(H:¬P a):cq z a/\z.s.heap.get? a=D o:=by
 refine⟨⟨?_,fun i p e=>(x.mn i p e).elim (T.2 i p) fun q=>⟨fun w=>nn U (w▸q.1),fun w=>nn U (w▸q.2)⟩⟩,x.keep _ _ U H fun i p _=>T.2 i p⟩;rcases q:z.G a with _|o';.rfl
 exact(x.gn _ _ q).elim (fun z=>by rw[T.1]at z;cases z) fun z=>ae z (nn U)
theorem HR.l0(S:HR X σ y)(B:bu->Prop)(hk:∀a o,y.s.heap.get? a=D o->¬B a->h'.get? a=D o)(hB:∀a,B a->cq y a):HR X σ (y.hp h' t)where
sub a o e:=hk a o (S.sub a o e) fun q=>nn e (hB a q).1;base:=S.base;len:=S.len;apart:=S.apart;out:=S.out;cells i p o e1 e2:=by
 have key:∀a,y.s.heap.get? a≠I->¬B a->h'.get? a=y.s.heap.get? a:=fun a n b=>by
  rcases q:y.s.heap.get? a with _|o;.exact ae q n
  exact hk a o q b
 exact(S.cells i p o e1 e2).aq (fun _ _ z=>z) (fun _ _ z=>z) (key _ (S.gf e1).1 fun z=>((hB _ z).2 i p e1).1 rfl) (key _ (S.gf e1).2 fun z=>((hB _ z).2 i p e1).2 rfl)
theorem HR.more(S:HR X σ y)(Z:∀a o,y.s.heap.get? a=D o->h'.get? a=D o):HR X σ (y.hp h' t):=S.l0 IK (fun a o e _=>Z a o e) fun _ q=>q.elim
theorem HR.tk(S:HR X σ y):HR X σ (y.hp y.s.heap t):=S.more fun _ _ e=>e
theorem HR.iA(S:HR X σ y)(T:cq y a)(Q:∀b o,b≠a->y.s.heap.get? b=D o->h'.get? b=D o):HR X σ (y.hp h' t):=S.l0 (·=a) (fun b o e n=>Q b o n e) fun _ e=>e▸T
noncomputable def Gm.iR(G:Gm)(a:bu)(o:iG):Gm:=fun b=>if b=a then D o else G b
noncomputable abbrev Cf.im(y:Cf)(o:iG)(t:Nat):Cf:=⟨y.G.iR y.s.heap.objs.size o,y.m,{y.s with heap:=y.s.heap.push o,toks:=t}⟩
theorem HR.Uu(S:HR X σ y){o:iG}(H:o.isFreed=aj):HR X σ (y.im o t)/\bZ y (y.im o t):=by
 have U:∀a,y.s.heap.get? a≠I->a≠y.s.heap.objs.size:=fun a q e=>q (e▸k3 _);have sub:∀a o',y.G a=D o'->y.G.iR y.s.heap.objs.size o a=D o':=fun a o' e=>(am (U a (nn (S.sub a o' e)))).trans e;have Z:∀a o',y.s.heap.get? a=D o'->(y.s.heap.push o).get? a=D o':=fun a o' e=>gp _ e;have S1:HR X σ (y.hp (y.s.heap.push o) t):=S.more Z;have Q:bZ y (y.hp (y.s.heap.push o) t):=.more Z;refine⟨{S1 with sub:=fun a o' e=>?_,base:=fun a o' e=>sub a o' (S.base a o' e),out:=fun i p e=>?_,cells:=fun i p o' e1 e2=>(S1.cells i p o' e1 e2).aq sub (fun _ _ z=>z) rfl rfl},{Q with g:=sub,gn:=fun a o' e=>?_}⟩
 .by_cases q:a=y.s.heap.objs.size;.subst q;cases(af rfl:y.G.iR y.s.heap.objs.size o _=D o).symm.trans e;exact kw _ H
  .exact Z _ _ (S.sub a o' ((am q).symm.trans e))
 .exact⟨(am (U _ (S.gf e).1)).trans (S.out i p e).1,(am (U _ (S.gf e).2)).trans (S.out i p e).2⟩
 .by_cases q:a=y.s.heap.objs.size;.exact .inr (q▸k3 _)
  .exact .inl ((am q).symm.trans e)
noncomputable abbrev Cf.cl(y:Cf)(p:bu×bu)(h:ln)(t:Nat):Cf:=⟨y.G,y.m++[p],{y.s with heap:=h,toks:=t}⟩
theorem rF(e:(m++[p])[i]?=D q):m[i]?=D q\/(i=m.length/\q=p):=by
 rcases qf i m.length with z|z;.rw[ib z]at e;exact .inl e
 .rw[jM z]at e;rcases k:i-m.length with _|n;.rw[k]at e;cases e;exact .inr ⟨fx (Nat.sub_eq_zero_iff_le.mp k) z,rfl⟩
  rw[k]at e;cases e
theorem HR.cell(S:HR X σ y)(O:cq y p.1)(E:cq y p.2)(C:∀a o,y.s.heap.get? a=D o->h'.get? a=D o)(c:OR X y.G (y.m++[p]) h' o p):HR X (σ++[o]) (y.cl p h' t)/\(∀(i:Nat)q,y.m[i]?=D q->(y.m++[p])[i]?=D q)/\(y.cl p h' t).ak (.ref σ.length) (.ref p.1):=by
 have S1:HR X σ (y.hp h' t):=S.more C;have Z:∀(i:Nat)q,y.m[i]?=D q->(y.m++[p])[i]?=D q:=fun i q e=>(ib (bp.mp e).1).trans e;refine⟨⟨S1.sub,S1.base,by rw[aU,aU,S.len];rfl,fun i j q r e1 e2 U=>?_,fun i q e=>?_,fun i q o' e1 e2=>?_⟩,Z,.ref (by rw[S.len.symm,jM (aE _),jN];rfl)⟩
 .clear c Z;rcases rF e1 with J|⟨J,rfl⟩<;>rcases rF e2 with H|⟨H,rfl⟩;.exact S.apart i j q r J H U
  .have t1:=O.2 i q J;have Q:=E.2 i q J;exact⟨g8 t1.1,g8 Q.1,g8 t1.2,g8 Q.2⟩
  .have t1:=O.2 j r H;have Q:=E.2 j r H;exact⟨t1.1,t1.2,Q.1,Q.2⟩
  .exact ae (J.trans H.symm) U
 .clear c Z;rcases rF e with z|⟨z,rfl⟩;.exact S.out i q z
  .exact⟨O.1,E.1⟩
 .clear O E;rcases rF e1 with z|⟨rfl,rfl⟩;.rw[ib (by rw[S.len.symm];exact(bp.mp z).1)]at e2;exact(S1.cells i q o' z e2).aq (fun _ _ y=>y) Z rfl rfl
  .rw[S.len,jM (aE _),jN]at e2;cases e2;exact c
theorem cG.cl(x:cG P z y)(J:z.s.heap.get? p.1=I)(H:z.s.heap.get? p.2=I)(Q:∀a o,y.s.heap.get? a=D o->h'.get? a=D o):cG P z (y.cl p h' t):=let O:cG P z (y.hp h' t):=x.trans (bZ.more Q);{O with mm:=fun i q e=>(ib (bp.mp (x.mm i q e)).1).trans (x.mm i q e),mn:=fun i q e=>(rF e).elim (x.mn i q) fun e=>.inr (e.2▸⟨J,H⟩)}
theorem HR.Uv(S:HR X σ y)(J:i≠0)(Z:y.m[i]?=D p)(H:∀a o,y.s.heap.get? a=D o->a≠p.1->a≠p.2->h'.get? a=D o)(c:OR X y.G y.m h' o p):HR X (σ.set i o) (y.hp h' t)/\bZ y (y.hp h' t):=by
 refine⟨⟨fun a o' e=>H a o' (S.sub a o' e) (fun z=>nn e (z▸(S.out i p Z).1)) fun z=>nn e (z▸(S.out i p Z).2),S.base,by rw[oX];exact S.len,S.apart,S.out,fun j q o' e1 e2=>?_⟩,⟨rfl,fun _ _ e=>e,fun _ _ e=>.inl e,fun _ _ e=>e,fun _ _ e=>.inl e,fun a o' e _ E=>H a o' e (E i p J Z).1 (E i p J Z).2,fun a e q=>?_⟩⟩
 .by_cases U:i=j;.subst U;cases Z.symm.trans e1;rw[ul (by rw[S.len.symm];exact(bp.mp Z).1)]at e2;cases e2;exact c
  .rw[rU U]at e2;have key:∀a,y.s.heap.get? a≠I->a≠p.1->a≠p.2->h'.get? a=y.s.heap.get? a:=fun a n b1 b2=>by
    rcases q:y.s.heap.get? a with _|o;.exact ae q n
    exact H a o q b1 b2
   have Q:=S.apart j i q p e1 Z (g8 U);exact(S.cells j q o' e1 e2).aq (fun _ _ y=>y) (fun _ _ y=>y) (key _ (S.gf e1).1 Q.1 Q.2.1) (key _ (S.gf e1).2 Q.2.2.1 Q.2.2.2)
 .have O:=c.gf;by_cases C:a=p.1;.rw[C.symm,q]at O;cases O.1
  .by_cases M:a=p.2;.rw[M.symm,q]at O;cases O.2
   .rcases r:y.s.heap.get? a with _|o';.exact e r
    exact nn (H a o' r C M) q
end
section
variable(X:Wx)(y:Cf)
abbrev PV(σ:AH)(d:aa)(Q:aH->cJ->Prop):Prop:=∀z v,bZ y z->HR X σ z->z.ak d v->Q v z.s
abbrev PU(σ:AH)(Q:cJ->Prop):Prop:=∀z,bZ y z->HR X σ z->Q z.s
abbrev k4(k:Po)(Q:aH->cJ->Prop):Prop:=∀d σ z v,k d σ->bZ y z->HR X σ z->z.ak d v->Q v z.s
end
section
theorem PV.here(q:PV X y σ d Q)(S:HR X σ y)(Z:y.ak d v)(t:Nat):Q v {y.s with toks:=t}:=q (y.hp y.s.heap t) v .tk S.tk Z
theorem k4.at(q:k4 X y k Q)(h:k d σ)(x:bZ y z):PV X z σ d Q:=fun u v Z S U=>q d σ u v h (x.trans Z) S U
theorem k4.ext(q:k4 X y k Q)(x:bZ y z):k4 X z k Q:=fun d σ u v h Z S U=>q d σ u v h (x.trans Z) S U
theorem gO.out{o:Option Z}{p:Z->Prop}(h:gO o p):∃v,o=D v/\p v:=by induction o using cN with|none=>exact h.elim|some v=>exact⟨v,rfl,h⟩
theorem gP.out{o:Option (Z×AH)}{p:Z->AH->Prop}(h:gP o p):∃v σ,o=D (v,σ)/\p v σ:=by induction o using cN with|none=>exact h.elim|some v=>exact⟨v.1,v.2,rfl,h⟩
theorem HR.tR{o:AO}{p:bu×bu}(S:HR X σ y)(Z:i≠0)(J:y.m[i]?=D p)(H:∀a o,y.s.heap.get? a=D o->a≠p.1->a≠p.2->h'.get? a=D o)(c:OR X y.G y.m h' o p)(k:PU X y (σ.set i o) Q):Q {y.s with heap:=h',toks:=t}:=let U:=S.Uv (t:=t) Z J H c;k (y.hp h' t) U.2 U.1
end
end
section
open PySem.W PySem.Calls PyProof.Rows
section
variable{c:Cf}
theorem tS(h:small i=Y):-(2:Int)^63<=i/\i<2^63/\i.natAbs<2^60:=by exact⟨uA (by decide+kernel) (my (xP.mp h).1),rQ (xP.mp h).2 (by decide+kernel),by induction i using Int.casesOn with|ofNat n=>exact cm h|negSucc n=>exact cm h⟩
theorem Uw(h:(small i||small j)=Y):IntMulOk i j:=by
 have key:∀i:Int,small i=Y->S? i<=64:=fun i hi=>by
  have Z:=(tS hi).2.2;unfold Builtin.Int.intBits;split;.decide
  .have:i.natAbs.log2<60:=by
    rcases YO i.natAbs with z|z;.rw[z];decide
    .exact(Nat.log2_lt (jl z)).mpr Z
   exact ax 0xf041a042200825a0000 rfl this
 exact(rW.mp h).elim (fun h=>IntMulOk.of_left (key i h)) fun h=>IntMulOk.of_right (key j h)
theorem wH:sizeLine=16777216:=rfl
theorem jH(h:n<av):n<=sizeLine:=by unfold av at h;rw[wH];exact ax 0x5408600000050d000 rfl h
theorem cc{p:Prop}{i:Decidable p}{o:Option Z}(h:(if p then o else I)=D r):p/\o=D r:=by
 by_cases q:p;.exact⟨q,(af q).symm.trans h⟩
 .cases(am q).symm.trans h
theorem AG(h:n<av):(n:Int)<2^63:=Int.lt_of_le_of_lt (nA.mpr (jH h)) (by decide+kernel)
theorem cA{p:Prop}{i:Decidable p}(h:decide p=Y):p:=cK h
theorem Ux(e:qA op i j=D z)(q:∀t t',Q (.int z t) {s with toks:=t'}):wpAny (model prog w) A (binaryOp (wA op) (.int i t) (.int j u)) Q E s:=by induction op using iY.casesOn with|add=>cases e;exact T? (q _ _)|sub=>cases e;exact U? (q _ _)|mul=>obtain⟨h,e⟩:=cc e;cases e;exact V' (q _ _) (Uw h)|fdiv=>obtain⟨h,e⟩:=cc e;cases e;have h1:0<j:=cA (bL h);exact V? (Zs h1) (by rw[Zt _ (my h1)];exact q _ _) (.inl (PyProof.noPylong_small (cw.mp (by rw[Zu (my h1)];exact rQ (cA (bR h)) (by decide)))))|mod=>obtain⟨h,e⟩:=cc e;cases e;exact W? (Zs h) (by rw[Int.fmod_eq_emod_of_nonneg _ (my h)];exact q _ _)|band=>cases e;exact X' (q _ _)|bor=>cases e;exact X? (q _ _)|bxor=>cases e;exact Y' (q _ _)|shl=>obtain⟨h,e⟩:=cc e;cases e;have h3:=(tS (bR h)).2.2;exact Y? (cA (bL (bL h))) (my (rQ (cA (bR (bL h))) (by decide))) (gY h3 (by decide+kernel)) (q _ _)|shr=>obtain⟨h,e⟩:=cc e;cases e;exact Z' (cA (bL h)) (by rw[Zt _ (my (Int.pow_pos (by decide)))];exact q _ _)
theorem PV.ab(k:PV X c σ (.ab l) Q)(S:HR X σ c)(hz:c.Vs l zs.toList)(t:Nat):Q (.ref c.s.heap.objs.size) {c.s with heap:=c.s.heap.push {cls:=.type "tuple",data:=.seq zs n},toks:=t}:=have⟨Z,e⟩:=S.Uu (o:={cls:=.type "tuple",data:=.seq zs n}) (t:=t) rfl;k _ _ e Z (.ab (af rfl) (eJ.ext hz e))
theorem wJ{xs:Array aH}(h:F2 R l xs.toList):xs.isEmpty=l.isEmpty:=by obtain⟨r⟩:=xs;cases h<;>rfl
theorem fJ{xs:Array aH}(h:F2 R l xs.toList):xs.size=l.length:=h.length
theorem Uy(S:HR X σ c)(K:c.ak (.ab x) a)(g:c.ak (.ab y) b)(O:x.length+y.length<av)(k:PV X c σ (.ab (x++y)) Q):wpAny (model X.prog X.w) A (binaryOp .Add a b) Q E c.s:=by
 refine VR.tE K fun p xs n M J=>?_;refine VR.tE g fun q ys L U Z=>?_;have o1:=S.sub _ _ M;have o2:=S.sub _ _ U;by_cases H:xs.isEmpty=Y;.clear O;cases nK.mp ((wJ J).symm.trans H);exact Zv (T:="tuple") ⟨_,o1,rfl⟩ ⟨_,o2,rfl⟩ Zw Zx Zy Zz (ZA _ _) (AutoSeq1.tuple___add___tuple_tuple_0 p xs n q ys L H) ⟨o1,o2,k.here S (.ab U Z) _⟩
 .by_cases C:ys.isEmpty=Y;.clear O;cases nK.mp ((wJ Z).symm.trans C);rw[bO]at k;exact Zv (T:="tuple") ⟨_,o1,rfl⟩ ⟨_,o2,rfl⟩ Zw Zx Zy Zz (ZA _ _) (AutoSeq1.tuple___add___tuple_tuple_1 p xs n q ys L H C) ⟨o1,o2,k.here S (.ab M J) _⟩
  .exact P.add_tuple o1 o2 H C (PV.ab k S (by rw[ZB];exact J.append Z) _) (by rw[fJ J,fJ Z];exact jH O)
theorem Uz(S:HR X σ c)(e:lB op σ x y=D (d,Z))(U:c.ak x a)(J:c.ak y b)(k:PV X c Z d Q):wpAny (model X.prog X.w) A (binaryOp (wA op) a b) Q E c.s:=by induction x using aa.casesOn with
|int i=>induction y using aa.casesOn with|int j=>obtain⟨z,q,H⟩:=qm.mp e;clear e;cases H;refine VR.iE U fun _=>?_;refine VR.iE J fun _=>?_;exact Ux q fun t t'=>k.here S .int t'|_=>exact nS e
|ab l=>induction y using aa.casesOn with
 |ab l'=>have e:(if(op.uL&&decide (l.length+l'.length<av))=Y then D (aa.ab (l++l'),σ)else I)=D (d,Z):=e;obtain⟨h,e⟩:=cc e;cases e;induction op using iY.casesOn with|add=>exact Uy S U J (cA (bR h)) k|_=>exact nB (bL h)
 |_=>exact nS e
|str s=>induction y using aa.casesOn with
 |str s'=>have e:(if(op.uL&&decide (s.cps.size+s'.cps.size<1000))=Y then D (aa.str (s++s'),σ)else I)=D (d,Z):=e;obtain⟨h,e⟩:=cc e;cases e;refine VR.sE U fun _=>?_;refine VR.sE J fun _=>?_;induction op using iY.casesOn with|add=>exact Z? (fun t' O=>k.here S .str _) (by have h:_+_<1000:=cA (bR h);show _+_<=sizeLine;exact bj (li h) (cm rfl))|_=>exact nB (bL h)
 |_=>exact nS e
|_=>exact nS e
theorem wK(S:HR X σ c)(e:lA σ x=D r)(O:c.ak x a)(k:PU X c σ (Q r)):wpAny (model X.prog X.w) A (truthy a) Q E c.s:=by have U:∀t,Q r {c.s with toks:=t}:=fun t=>k (c.hp c.s.heap t) .tk S.tk;induction O using VR.casesOn with|none=>clear k;cases e;exact aa0 (U c.s.toks)|bool=>cases e;exact Lh (U c.s.toks)|int=>clear k;cases e;exact P.truthy_int (by rw[show∀i:Int,(i !=0)=decide (i≠0)from fun i=>by rw[bne,AE];exact decide_not.symm];exact U _)|str=>exact nS e|ab H J=>obtain⟨h,e⟩:=cc e;clear k;cases e;refine ab0 ⟨_,S.sub _ _ H,rfl,_,rfl⟩ (by rw[fJ J];exact AG h) ?_;rw[wJ J];exact U _|@ref i p M=>
change(match σ[i]? with|some (.list xs)=>if xs.length<av then D (!xs.isEmpty)else I|_=>I)=_ at e;rcases q:σ[i]? with _|o;.exact nS (q▸e)
have C:=S.cells i p o M q;rw[q]at e;induction C using OR.casesOn with|list L H J=>obtain⟨h,e⟩:=cc e;clear k;cases e;refine wpAny_truthy_list ⟨_,H,rfl,_,rfl⟩ (by rw[fJ J];exact AG h) ?_;rw[wJ J];exact U _|_=>exact nS e
theorem HR.pure(S:HR X σ c)(Z:cf n x=Y)(U:c.ak x a):VR c.s.heap.get? [] x a:=U.pure S.sub Z
theorem l3:∀{xs:List aa},xs.all (cf n)=Y->gs n xs=true:=by intro xs;induction xs with|nil=>intro _;exact rfl|cons d r Z=>intro h;have h:(cf n d&&r.all (cf n))=true:=h;show(cf n d&&gs n r)=Y;rw[bL h,Z (bR h)];rfl
theorem jI(S:HR X σ c)(Z:σ[i]?=D (.list xs))(U:c.ak (.ref i) a):∃p vs n,c.m[i]?=D p/\a=.ref p.1/\p.2=p.1/\c.s.heap.get? p.1=D (lZ vs n)/\c.Vs xs vs.toList:=by refine cps fun P J=>?_;obtain⟨p,H,e,C⟩:=S.ref Z U;refine J ?_;cases C with|list Q O E=>exact⟨p,_,_,H,e,Q,O,E⟩
theorem AI(S:HR X σ c)(U:σ[i]?=D (.list xs))(J:c.ak (.ref i) a)(Z:xs.all cg=Y):∃as,Reads c.s.heap a (.list (fI xs)) as:=by refine cps fun P H=>?_;obtain⟨p,vs,n,_,rfl,_,Q,O⟩:=jI S U J;refine H ?_;exact((oI 40).2 _ (l3 Z) _ (eJ.pure S.sub O (l3 Z))).elim fun as h=>⟨_,.list Q rfl rfl h⟩
theorem IL(ne:Bool)(hu:A.units+50<cLine)(S:HR X σ c)(e:hH σ x y=D r)(ha:c.ak x a)(hb:c.ak y b)(k:PV X c σ (.bool (cond ne (!r) r)) Q):wpAny (model X.prog X.w) A (oZ (cond ne .NotEq .Eq) a b) Q E c.s:=by
 have nf:cg x=Y->cg y=Y->D (decide (x=y))=D r->wpAny (model X.prog X.w) A (oZ (cond ne .NotEq .Eq) a b) Q E c.s:=fun h1 h2 e=>by cases e;exact Uq (n:=40) ne (aC 0x2a190834004350a041a0001 rfl hu) h1 h2 (S.pure h1 ha) (S.pure h2 hb) (k.here S .bool c.s.toks)
 cases x with
|int i=>cases y with|int j=>exact nf rfl rfl (e▸aI D (iF.mpr ⟨aa.int.inj,aI aa.int⟩))|none=>exact nf rfl rfl (e▸aI D (bS nofun))|str s=>have e:(if cg (.str s)=Y then D aj else I)=D r:=e;obtain⟨h,e⟩:=cc e;exact nf rfl h (e▸aI D (bS nofun))|ab s=>have e:(if cg (.ab s)=Y then D aj else I)=D r:=e;obtain⟨h,e⟩:=cc e;exact nf rfl h (e▸aI D (bS nofun))|_=>exact nS e
 |bool i=>cases y with
  |bool j=>clear nf;cases e;cases ha;cases hb;cases ne with|false=>exact ac0 (k.here S .bool c.s.toks)|true=>exact ad0 (k.here S .bool c.s.toks)
  |_=>exact nS e
 |ref i=>cases y with
  |ref j=>change(match σ[i]? with|some (.list xs)=>(match σ[j]? with|some (.list ys)=>if xs.all cg&&ys.all cg then D (decide (xs=ys))else I|_=>I)|_=>I)=_ at e;cases q:σ[i]? with|none=>rw[q]at e;cases e|some o=>cases q':σ[j]? with|none=>rw[q,q']at e;clear q;cases o<;>cases e|some o'=>rw[q,q']at e;cases o with
   |list xs=>cases o' with
    |list ys=>
     obtain⟨h,e⟩:=cc e;clear nf;cases e;obtain⟨as,r1⟩:=AI S q ha (bL h);obtain⟨bs,r2⟩:=AI S q' hb (bR h);have l1:=(kl 40).2 _ (l3 (bL h));have l2:=(kl 40).2 _ (l3 (bR h));have hm:A.units+min (ZC (fI xs)).depth (ZC (fI ys)).depth<cLine:=by exact AC ‹_› (bj (mi l1.2) (cm rfl))
     rw[<-(wF 40).2 _ (l3 (bL h)) 40 _ (l3 (bR h))]at k;cases ne with|false=>exact Zq r1 r2 l1.1 l2.1 hm (k.here S .bool c.s.toks)|true=>exact Zr r1 r2 l1.1 l2.1 hm (k.here S .bool c.s.toks)
    |_=>exact nS e
   |_=>exact nS e
  |_=>exact nS e
 |none=>have e:(if(cg .none&&cg y)=Y then D (decide (aa.none=y))else I)=D r:=e;exact(cc e).elim fun h e=>nf (bL h) (bR h) e|str i=>have e:(if(cg (.str i)&&cg y)=Y then D (decide (aa.str i=y))else I)=D r:=e;exact(cc e).elim fun h e=>nf (bL h) (bR h) e|ab i=>have e:(if(cg (.ab i)&&cg y)=Y then D (decide (aa.ab i=y))else I)=D r:=e;exact(cc e).elim fun h e=>nf (bL h) (bR h) e
theorem wL{R:Prop}(e:sj f x y=D r)(Z:c.ak x a)(X:c.ak y b)(h:∀i j t u,f i j=r->a=.int i t->b=.int j u->R):R:=by induction Z using VR.casesOn with
|int=>induction X using VR.casesOn with|int=>exact h _ _ _ _ (b9 e) rfl rfl|_=>exact nS e
|_=>exact nS e
theorem AJ(H:A.units+50<cLine)(S:HR X σ c)(e:nV op σ x y=D r)(Z:c.ak x a)(U:c.ak y b)(k:PV X c σ (.bool r) Q):wpAny (model X.prog X.w) A (oZ (IE op) a b) Q E c.s:=by
 have J:∀t,Q (.bool r) {c.s with toks:=t}:=fun t=>k.here S .bool t
 induction op using qx.casesOn with|eq=>exact IL aj H S e Z U k|ne=>
 change(match hH σ x y with|some c=>D (!c)|none=>I)=_ at e;rcases q:hH σ x y with _|z;.rw[q]at e;cases e
 rw[q]at e;clear J;cases e;exact IL Y H S q Z U k|lt=>exact wL e Z U fun i j t u e e1 e2=>by clear Z U k;subst e e1 e2;exact P.lt_int (J c.s.toks)|le=>exact wL e Z U fun i j t u e e1 e2=>by clear Z U k;subst e e1 e2;exact P.le_int (J c.s.toks)|gt=>exact wL e Z U fun i j t u e e1 e2=>by clear Z U k;subst e e1 e2;exact P.gt_int (J c.s.toks)|ge=>exact wL e Z U fun i j t u e e1 e2=>by clear Z U k;subst e e1 e2;exact P.ge_int (J c.s.toks)
end
end
section
open PySem.W PySem.Calls PyProof.Rows
section
variable{p:bu×bu}{i:Nat}
noncomputable abbrev dk(X:Wx):=Ur X.prog X.w
noncomputable abbrev ik(X:Wx):=intKind X.prog X.w
theorem HR.tT(S:HR X σ c)(Z:(X.K.lookup mz).isSome=Y)(U:c.m[i]?=D p):(p.1==mz)=false:=gl.mpr fun z=>by obtain⟨o,J⟩:=BK.mp Z;exact nn (S.base _ _ J) (z▸(S.out i p U).1)
abbrev Hr(G:Gm)(m:Mp)(p:aa×aa)(x:List aa×bu×aH):Prop:=(p.1=.ab x.1/\eG p.1=Y)/\VR G m p.1 (.ref x.2.1)/\VR G m p.2 x.2.2
abbrev Ir(G:Gm)(m:Mp)(p:aa×aa)(x:Int×aH):Prop:=p.1=.int x.1/\VR G m p.2 x.2
theorem F2.jv{R:aa×aa->J->Prop}{g:aw->aa}(Z:∀a b,g a=g b->a=b)(X:∀{p x},R p x->p.1=g (f x))(h:F2 R es xs):(es.map (·.1)).Nodup↔(xs.map f).Nodup:=by
 have e:es.map (·.1)=(xs.map f).map g:=by induction h with|nil=>rfl|cons h _ U=>rw[ii,ii,ii,U.symm,X h]
 rw[e];exact⟨fun q=>q.of_map g fun a b h e=>h (aI g e),fun q=>q.map g fun a b h e=>h (Z a b e)⟩
theorem AK(a b:List aa)(h:aa.ab a=aa.ab b):a=b:=aa.ab.inj h
theorem IM(a b:Int)(h:aa.int a=aa.int b):a=b:=aa.int.inj h
theorem Hr.of(h:F2 (DR X G m) es dF)(Z:es.all (fun p=>ci p.1==2)=Y):∃xs,F2 (Hr G m) es xs/\dF=xs.map (BW (dk X)):=by induction h with|nil=>exact⟨[],.nil,rfl⟩|@cons p e _ _ h _ U=>obtain⟨J,H,Q⟩:=U (bR Z);obtain⟨k,d⟩:=p;obtain⟨O,ek,ev⟩:=e;obtain⟨⟨E,C⟩,M,L⟩:=h;induction k using aa.casesOn with
|ab l=>cases M with|@ab _ a _ _ K A=>exact⟨(l,a,ev)::J,.cons ⟨⟨rfl,E⟩,.ab K A,L⟩ H,by rw[ii,Q.symm,show O=rE X.w (.ab l)from C];rfl⟩
|_=>exact nB (bL Z)
theorem Hr.rg(h:F2 (Hr G m) es xs):F2 (DR X G m) es (xs.map (BW (dk X))):=by induction h with|nil=>exact .nil|@cons p x _ _ h _ Z=>exact .cons ⟨⟨h.1.2,by rw[h.1.1];rfl⟩,h.2⟩ Z
theorem IN:ca ((Z,d)::r) k=if Z=k then D d else ca r k:=rfl
theorem Hr.at(h:F2 (Hr G m) es xs):(ca es (.ab l)=I/\atKey xs l=I)\/∃d p,ca es (.ab l)=D d/\atKey xs l=D p/\VR G m d p.2:=by induction h with|nil=>exact .inl ⟨rfl,rfl⟩|@cons p x _ _ h _ Z=>
obtain⟨k,d⟩:=p;obtain⟨l',U,J⟩:=x;obtain⟨⟨rfl,H⟩,X⟩:(k=.ab l'/\_)/\_:=h;unfold atKey at Z⊢;rw[IN,xD];by_cases e:l'=l;.rw[af (aI aa.ab e),show decide (l'=l)=Y from aN e];exact .inr ⟨_,_,rfl,rfl,X.2⟩
.rw[am (fun z=>e (aa.ab.inj z)),show decide (l'=l)=aj from bS e];exact Z
theorem Ir.at(h:F2 (Ir G m) es xs):(ca es (.int j)=I/\valueAt xs j=I)\/∃d v,ca es (.int j)=D d/\valueAt xs j=D v/\VR G m d v:=by induction h with|nil=>exact .inl ⟨rfl,rfl⟩|@cons p x _ _ h _ X=>
obtain⟨k,d⟩:=p;obtain⟨Z,J⟩:=x;obtain⟨rfl,U⟩:k=.int Z/\_:=h;unfold valueAt at X⊢;rw[IN,xD];by_cases e:Z=j;.rw[af (aI aa.int e),show decide (Z=j)=Y from aN e];exact .inr ⟨_,_,rfl,rfl,U⟩
.rw[am (fun z=>e (aa.int.inj z)),show decide (Z=j)=aj from bS e];exact X
theorem IO:eR ((Z,X)::r) k d=if Z=k then(Z,d)::r else(Z,X)::eR r k d:=rfl
theorem Hr.iR(H:eG (.ab l)=Y)(Q:VR G m (.ab l) (.ref a))(O:VR G m d v)(h:F2 (Hr G m) es xs):(xs.map (·.1)).Nodup->F2 (Hr G m) (eR es (.ab l) d) (storedH xs l a v):=by induction h with|nil=>exact fun _=>.ag ⟨⟨rfl,H⟩,Q,O⟩|@cons p x r Z h L E=>
  intro X;have X:=fh.mp X;obtain⟨k,A⟩:=p;obtain⟨l',U,J⟩:=x;obtain⟨⟨rfl,C⟩,M,K⟩:(k=.ab l'/\_)/\_/\_:=h;rw[IO];by_cases e:l'=l;.clear H Q E;subst e;rw[storedH_old (p:=(U,J)) (by unfold atKey;rw[xD,aN rfl];rfl),af rfl,ii,map_putAt_of_not_mem Z l' v X.1,putAt,af rfl];exact .cons ⟨⟨rfl,C⟩,M,O⟩ L
  .rw[am (fun z=>e (aa.ab.inj z))];have e2:storedH ((l',U,J)::Z) l a v=(l',U,J)::storedH Z l a v:=by
    unfold storedH;rw[show atKey ((l',U,J)::Z) l=atKey Z l from by unfold atKey;rw[xD,show decide (l'=l)=aj from bS e]];rcases(atKey Z l).isSome with _|_;.rfl
    rw[af rfl,af rfl,ii,putAt,am e]
   rw[e2];exact .cons ⟨⟨rfl,C⟩,M,K⟩ (E X.2)
theorem Ir.iR(J:VR G m d v)(h:F2 (Ir G m) es xs):(xs.map (·.1)).Nodup->F2 (Ir G m) (eR es (.int j) d) (stored xs j v):=by induction h with|nil=>exact fun _=>.ag ⟨rfl,J⟩|@cons p x r H h O Z=>
  intro X;have X:=fh.mp X;obtain⟨k,E⟩:=p;obtain⟨U,C⟩:=x;obtain⟨rfl,Q⟩:k=.int U/\_:=h;rw[IO];unfold stored at Z⊢;rw[ZD];by_cases e:U=j;.clear Z;subst e;rw[af rfl,af (by rw[aN rfl];rfl),ii,af rfl,map_store_of_not_mem H U v X.1];exact .cons ⟨rfl,J⟩ O
  .rw[am (fun z=>e (aa.int.inj z)),show decide (U=j)=aj from bS e,KK];have Z:=Z X.2;rcases q:H.any (fun kv=>decide (kv.1=j))with _|_;.rw[q,am oS]at Z;rw[am oS];exact .cons ⟨rfl,Q⟩ Z
   rw[q,af rfl]at Z;rw[af rfl,ii,am e];exact .cons ⟨rfl,Q⟩ Z
theorem Hr.UA(h:F2 (Hr G m) es xs):∀{j:Nat}{p:bu×aH},(xs.map (·.1)).Nodup->xs[j]?=D (l,p)->F2 (Hr G m) (o7 es (.ab l)) (xs.eraseIdx j):=by induction h with|nil=>exact fun{j p}_ Z=>nS Z|@cons p x r C h Q O=>
intro j q X Z;have X:=fh.mp X;obtain⟨k,E⟩:=p;obtain⟨l',M,L⟩:=x;have h':=h;obtain⟨⟨rfl,U⟩,J,H⟩:(k=.ab l'/\_)/\_/\_:=h;show F2 _ (if aa.ab l'=.ab l then r else(.ab l',E)::o7 r (.ab l)) _;rcases j with _|j;.clear X h' U J H;cases Z;rw[af rfl];exact Q
rw[am fun z=>by clear h' U J H;cases z;exact X.1 (gZ.mpr ⟨_,jQ Z,rfl⟩)];exact .cons h' (O X.2 Z)
theorem Ir.of(h:F2 (DR X G m) es dF)(U:es.all (fun p=>ci p.1==1)=Y):∃xs,F2 (Ir G m) es xs/\Pairs (ik X) dF xs/\∀e∈dF,∃k,(ik X).is k e.key=Y/\e.hash=(ik X).hash k:=by induction h with|nil=>exact⟨[],.nil,.nil,fun e J=>nomatch J⟩|@cons p e _ _ h _ H=>obtain⟨Q,O,E,C⟩:=H (bR U);obtain⟨k,d⟩:=p;obtain⟨g,ek,ev⟩:=e;obtain⟨⟨j,M⟩,L,K⟩:=h;induction k using aa.casesOn with
|int i=>cases L with|@int _ t=>have hi:(ik X).is i (.int i t)=true:=aN rfl;exact⟨(i,ev)::Q,.cons ⟨rfl,K⟩ O,.cons hi rfl E,fun A Z=>(ce.mp Z).elim (fun z=>z▸⟨i,hi,M⟩) (C A)⟩
|_=>exact nB (bL U)
theorem Ir.rg(h:F2 (Ir G m) es xs):∀{dF:List nN},Pairs (ik X) dF xs->(∀e∈dF,∃k,(ik X).is k e.key=Y/\e.hash=(ik X).hash k)->F2 (DR X G m) es dF:=by induction h with|nil=>intro dF J _;cases J;exact .nil|@cons p x _ _ h _ C=>intro dF J Q;obtain⟨k,d⟩:=p;obtain⟨rfl,M⟩:k=.int x.1/\_:=h;cases J with|@cons e _ es _ L K A=>refine cps fun P g=>?_;obtain⟨t,O⟩:=Li L;obtain⟨u,E,j⟩:=Q e aW;obtain⟨t',Z⟩:=Li E;refine g ?_;have U:=O;rw[Z]at U;clear E Z;cases U;exact .cons ⟨⟨rfl,j⟩,by rw[O];exact .int,by rw[K];exact M⟩ (C A fun r H=>Q r (cI _ H))
theorem tU(h:dd es k=Y)(Z:(ci k==2)=Y):∃l,k=.ab l/\eG (.ab l)=Y/\(es.all fun p=>ci p.1==2)=true:=by induction k using aa.casesOn with|ab l=>exact⟨l,rfl,bL (bL h),bR h⟩|_=>exact nB Z
theorem AL(h:dd es k=Y)(Z:(ci k==1)=Y):∃i,k=.int i/\(es.all fun p=>ci p.1==1)=true:=by induction k using aa.casesOn with|int l=>exact⟨l,rfl,bR h⟩|_=>exact nB Z
theorem AM(S:HR X σ c)(Z:σ[i]?=D (.dict es))(U:c.ak (.ref i) a):∃p o dF J,c.m[i]?=D p/\a=.ref p.1/\p.2=p.1/\(es.map (·.1)).Nodup/\c.s.heap.get? p.1=D o/\o.ExactDict/\o.data=.dict dF J/\F2 (DR X c.G c.m) es dF.toList:=by refine cps fun P H=>?_;obtain⟨p,Q,e,C⟩:=S.ref Z U;refine H ?_;cases C with|dict O nd E M L K=>exact⟨p,_,_,_,Q,e,O,nd,E,M,L,K⟩
theorem tV(S:HR X σ c)(Z:σ[i]?=D (.dict es))(H:c.ak (.ref i) a)(Q:(es.all fun q=>ci q.1==2)=Y):∃p xs,(c.m[i]?=D p/\a=.ref p.1/\p.2=p.1)/\F2 (Hr c.G c.m) es xs/\c.s.heap.DictOfH (dk X) p.1 xs:=by
 refine cps fun P O=>?_;obtain⟨p,o,dF,E,C,e,J,nd,M,L,K,A⟩:=AM S Z H;obtain⟨xs,U,g⟩:=Hr.of A Q;refine O ?_;refine⟨p,xs,⟨C,e,J⟩,U,o,dF,E,M,L,K,g,fun x Z=>?_,(F2.jv AK (fun h=>h.1.1) U).mp nd⟩;have:∀{es:List (aa×aa)}{xs:List (List aa×bu×aH)},F2 (Hr c.G c.m) es xs->∀x∈xs,(dk X).is c.s.heap x.1 x.2.1:=fun h=>by induction h with|nil=>exact fun x Z=>nomatch Z|cons h _ j=>exact fun x Z=>(ce.mp Z).elim (fun e=>e▸(by obtain⟨⟨d,U⟩,J,_⟩:=h;rw[d]at U J;exact⟨U,S.pure (wG 6 _ U) J⟩)) (j x)
 exact this U x Z
theorem tW(S:HR X σ c)(Z:eG (.ab l)=Y)(U:c.ak (.ab l) v):∃a,v=.ref a/\(dk X).is c.s.heap l a/\c.ak (.ab l) (.ref a):=by have h:=S.pure (wG 6 _ Z) U;cases U with|ab J H=>exact⟨_,rfl,⟨Z,h⟩,.ab J H⟩
theorem wM(S:HR X σ c)(U:σ[i]?=D (.dict es))(J:c.ak (.ref i) a)(H:(es.all fun q=>ci q.1==1)=Y):∃p xs,(c.m[i]?=D p/\a=.ref p.1/\p.2=p.1)/\F2 (Ir c.G c.m) es xs/\c.s.heap.DictOf (ik X) p.1 xs:=by refine cps fun P Q=>?_;obtain⟨p,o,dF,O,E,e,C,nd,M,L,K,A⟩:=AM S U J;obtain⟨xs,Z,g,j⟩:=Ir.of A H;refine Q ?_;exact⟨p,xs,⟨E,e,C⟩,Z,o,dF,O,M,L,K,fun e d=>j e (ZE.mpr d),g,(F2.jv IM (fun h=>h.1) Z).mp nd⟩
theorem UB(U:A.units+50<cLine)(S:HR X σ c)(J:σ[i]?=D (.dict es))(H:(es.all fun q=>ci q.1==2)=Y)(O:eG (.ab l)=Y)(Z:ca es (.ab l)=D d)(C:c.ak (.ref i) a)(M:c.ak (.ab l) b)(k:PV X c σ d Q):wpAny (model X.prog X.w) A (getItem a b) Q E c.s:=by
 refine cps fun P L=>?_;obtain⟨p,xs,⟨r,rfl,_⟩,K,g⟩:=tV S J C H;obtain⟨a,rfl,j,_⟩:=tW S O M;refine L ?_;rcases Hr.at (l:=l) K with⟨q,_⟩|⟨u,q,e1,e2,e3⟩;.exact nS (q.symm.trans Z)
 .cases Z.symm.trans e1;exact wpAny_getItem_heap (knd:=dk X) (show A.units+1+10<cLine by exact aC 0x150c841a0021ab8b400001 rfl U) j g e2 (k.here S e3 _)
theorem UC(Z:A.units+50<cLine)(U:(X.K.lookup mz).isSome=Y)(S:HR X σ c)(J:σ[i]?=D (.dict es))(H:(es.all fun q=>ci q.1==2)=Y)(O:eG (.ab l)=Y)(C:c.ak (.ref i) a)(M:c.ak (.ab l) b)(k:PV X c σ (.bool (ca es (.ab l)).isSome) Q):wpAny (model X.prog X.w) A (oZ .In b a) Q E c.s:=by
 refine cps fun P L=>?_;obtain⟨p,xs,⟨g,rfl,_⟩,j,d⟩:=tV S J C H;obtain⟨a,rfl,r,_⟩:=tW S O M;refine L ?_;have u:(ca es (.ab l)).isSome=(atKey xs l).isSome:=by rcases Hr.at (l:=l) j with⟨e1,e2⟩|⟨v,q,e1,e2,e3⟩<;>rw[e1,e2]<;>rfl
 rw[u]at k;exact wpAny_in_heap (knd:=dk X) (show A.units+1+10<cLine by exact aC 0x150c841a0021ab8b400001 rfl Z) r (S.tT U g) d (k.here S .bool _)
theorem UD(Z:(X.K.lookup mz).isSome=Y)(S:HR X σ c)(U:σ[i]?=D (.dict es))(J:(es.all fun q=>ci q.1==1)=Y)(H:c.ak (.ref i) a)(O:c.ak (.int j) b)(k:PV X c σ (.bool (ca es (.int j)).isSome) Q):wpAny (model X.prog X.w) A (oZ .In b a) Q E c.s:=by
 obtain⟨p,xs,⟨C,rfl,_⟩,M,L⟩:=wM S U H J;refine VR.iE O fun _=>?_;have g:(ca es (.int j)).isSome=(valueAt xs j).isSome:=by rcases Ir.at (j:=j) M with⟨e1,e2⟩|⟨d,q,e1,e2,e3⟩<;>rw[e1,e2]<;>rfl
 rw[g]at k;exact wpAny_in_of (knd:=ik X) (k:=j) (aN rfl) (S.tT Z C) L.mapOf (k.here S .bool _)
theorem UE{Q:Unit->cJ->Prop}(L:A.units+50<cLine)(S:HR X σ c)(U:i≠0)(K:σ[i]?=D (.dict es))(g:(es.all fun q=>ci q.1==2)=Y)(O:eG (.ab l)=Y)(hz:es.length<av)(j:c.ak (.ref i) a)(r:c.ak (.ab l) b)(u:c.ak d v)(k:PU X c (σ.set i (.dict (eR es (.ab l) d))) (Q ())):wpAny (model X.prog X.w) A (setItem a b v) Q E c.s:=by refine cps fun P J=>?_;obtain⟨p,xs,⟨m,rfl,f⟩,C,M⟩:=tV S K j g;obtain⟨a,rfl,y,z⟩:=tW S O r;refine J ?_;have Z:=Hr.iR O z u C ((by obtain⟨_,_,_,_,_,_,_,_,q⟩:=M;exact q));refine wpAny_setItem_heap (knd:=dk X) (show A.units+1+10<cLine by exact aC 0x150c841a0021ab8b400001 rfl L) y M (fun h' H t=>?_) (by rw[C.length];exact jH hz);refine cps fun P J=>?_;obtain⟨o,dF,x,g1,g2,g3,g4,g5,g6⟩:=H;refine J ?_;exact S.tR U (h':=h') m (fun b o e n n2=>(t.2 b n).trans e) (.dict f ((F2.jv AK (fun h=>h.1.1) Z).mpr g6) g1 g2 g3 (by rw[g4];exact Hr.rg Z)) k
theorem UF{Q:Unit->cJ->Prop}(S:HR X σ c)(U:i≠0)(J:σ[i]?=D (.dict es))(L:(es.all fun q=>ci q.1==1)=Y)(hz:es.length<av)(K:c.ak (.ref i) a)(g:c.ak (.int j) b)(r:c.ak d v)(k:PU X c (σ.set i (.dict (eR es (.int j) d))) (Q ())):wpAny (model X.prog X.w) A (setItem a b v) Q E c.s:=by refine cps fun P H=>?_;obtain⟨p,xs,⟨u,rfl,m⟩,C,M⟩:=wM S J K L;refine H ?_;refine VR.iE g fun _=>?_;have Z:=Ir.iR (j:=j) r C ((by obtain⟨_,_,_,_,_,_,_,_,q⟩:=M;exact q));refine wpAny_setItem_pairs (knd:=ik X) (k:=j) (aN rfl) M (fun h' O f=>?_) (by rw[C.length];exact jH hz);refine cps fun P H=>?_;obtain⟨o,dF,z,g1,g2,g3,g4,g5,g6⟩:=O;refine H ?_;exact S.tR U (h':=h') u (fun b o e y t=>(f.2 b y).trans e) (.dict m ((F2.jv IM (fun h=>h.1) Z).mpr g6) g1 g2 g3 (Ir.rg Z g5 fun e J=>g4 e (ZE.mp J))) k
theorem AN(f:Z->X):∀(l:List Z)(j:Nat),(l.eraseIdx j).map f=(l.map f).eraseIdx j|[],j=>rfl|x::r,0=>rfl|x::r,j+1=>aI (f x::·) (AN f r j)
theorem UG{Q:Unit->cJ->Prop}(hu:A.units+50<cLine)(S:HR X σ c)(UH:i≠0)(he:σ[i]?=D (.dict es))(hk:(es.all fun q=>ci q.1==2)=Y)(ho:eG (.ab l)=Y)(hz:es.length<av)(hl:(ca es (.ab l)).isSome=Y)(ha:c.ak (.ref i) a)(hb:c.ak (.ab l) b)(k:PU X c (σ.set i (.dict (o7 es (.ab l)))) (Q ())):wpAny (model X.prog X.w) A (delItem a b) Q E c.s:=by
 refine cps fun P hP=>?_;obtain⟨p,xs,⟨hp,rfl,h0⟩,h1,h2⟩:=tV S he ha hk;obtain⟨a,rfl,h3,_⟩:=tW S ho hb;refine hP ?_;have hT:=h2.typeIs;refine cps fun P hP=>?_;obtain⟨o,dF,ep,g1,g2,g3,g4,g5,g6⟩:=h2;refine hP ?_;refine ZF hT (by decide) ZG (sd ZG hT PySem.F.entry_dict_delitem ?_ (PySem.F.args_dict_delitem_2 _ _));unfold Builtin.«dict.__delitem__»;refine aA ?_;unfold Builtin.Dict.dictSlotArgs;refine aA (wpAny_notOrdered_dict hT ?_);show wpAny _ _ (pure (Lj p.1,Lj a)) _ _ _;refine aX ?_;show wpAny _ _ (ae0 p.1 (.ref a)>>=_) _ _ _;refine aA ?_;unfold Builtin.Dict.takeOut;try with_reducible refine mA ?_
 have IP:(dk X).room A.in1:=show A.units+1+10<cLine by exact aC 0x150c841a0021ab8b400001 rfl hu
 refine aA ((dk X).pyHash IP h3 (aA (wpAny_dictFind_heap (s:={c.s with toks:=c.s.toks+(dk X).draws l}) IP h3 g1 g3 g4 g5 g6 ?_ ?_)))
 .intro UI;rcases Hr.at (l:=l) h1 with⟨e1,_⟩|⟨d',q,_,e2,_⟩;.rw[e1]at hl;exact nB hl
  .exact nS ((atKey_none_of_get UI).symm.trans e2)
 .intro j pv hj;refine aA (wpAny_dictEntries (s:={c.s with toks:=c.s.toks+(dk X).draws l}) g1 g3 ?_);have IQ:dF[j]?=D (BW (dk X) (l,pv)):=by rw[entry_at g4,hj];rfl
  rw[IQ];have rG:dF.size<=sizeLine:=by rw[ZH g4,h1.length];exact jH hz
  have mU:j<dF.size:=(ZI.mp IQ).1;have IR:(dF.eraseIdxIfInBounds j).toList=(xs.eraseIdx j).map (BW (dk X)):=by rw[AN,g4.symm,ZJ,dif_pos mU,ZK]
  refine aA (wpAny_updateDictKeys (hz:=rG) (s:={c.s with toks:=c.s.toks+(dk X).draws l}) g1 g3 (aX (aA (wpAny_letGo (aX ⟨_,rfl,?_⟩)))) (by rw[mB.symm,IR,aJ];exact lj (bj (List.length_eraseIdx_le _ _) (gF (ZH g4).symm))));have UJ:=Lk (ZL fun x=>x.eraseIdxIfInBounds j) g1 (Obj.isFreed_of_dict (ZM g3 _));have IS:=Hr.UA h1 g6 hj;exact S.tR UH (h':=c.s.heap.update p.1 (ZL fun x=>x.eraseIdxIfInBounds j)) hp (fun b o e n1 n2=>(Ll _ _ (g8 n1)).trans e) (.dict h0 ((F2.jv AK (fun h=>h.1.1) IS).mpr (by rw[AN];exact g6.sublist (List.eraseIdx_sublist _ _))) UJ (g2.mapDictKeys _) (ZM g3 _) (by rw[IR];exact Hr.rg IS)) k
end
end
section
open PySem.W PySem.Calls PyProof.Rows
section
variable{X:Wx}{c:Cf}{xs:Array aH}
theorem HR.newList(S:HR X σ c){aa:bu}{out:Array aH}(U:∀b o,c.s.heap.get? b=D o->h'.get? b=D o)(Z:c.s.heap.get? aa=I)(J:h'.get? aa=D (lZ out n))(H:c.Vs l out.toList)(k:PV X c (σ++[.list l]) (.ref σ.length) Q):Q (.ref aa) {c.s with heap:=h',toks:=t}:=have T:=cq.new S Z;have⟨O,E,v⟩:=S.cell (p:=(aa,aa)) (t:=t) T T U (.list rfl J (F2.aq (·.aq (fun _ _ z=>z) fun i q e=>(ib (bp.mp e).1).trans e) H));k _ _ (bZ.refl.cl Z Z U) O v
theorem UK(Z:∀{i v},R (.int i) v->∃t,v=.int i t):∀{l:List aa}{ns:List Int}{vs:List aH},ju l=D ns->F2 R l vs->xE vs ns:=fun e h=>F2.rec (motive:=fun l vs _=>∀ns,ju l=D ns->xE vs ns) (fun ns e=>by cases e;exact .nil) (fun{x _ _ _}h _ U ns e=>by induction x using aa.casesOn with|int i=>obtain⟨q,J,rfl⟩:=qm.mp e;obtain⟨t,rfl⟩:=Z h;exact .cons i t (U _ J)|_=>exact nS e) h _ e
theorem UL:∀{vs:List aH}{ns:List Int},xE vs ns->c.Vs (ns.map .int) vs:=fun h=>IntsAre.rec (motive:=fun vs ns _=>c.Vs (ns.map .int) vs) .nil (fun n t _ _ _ Z=>.cons .int Z) h
theorem UM(h:c.ak (.int i) v):∃t,v=.int i t:=by refine VR.iE h fun _=>?_;exact⟨_,rfl⟩
theorem IT(x:Int):∀l:List Int,(nW x l).Perm (x::l):=by intro l;induction l with|nil=>exact .refl _|cons y r Z=>
show(if x<=y then x::y::r else y::nW x r).Perm _;split;.exact .refl _
.exact((Z).cons y).trans (.swap x y r)
theorem UN:∀l:List Int,(jW l).Perm l:=by intro l;induction l with|nil=>exact .refl _|cons x r Z=>exact(IT x _).trans ((Z).cons x)
theorem UO(x:Int):∀l:List Int,l.Pairwise (·<=·)->(nW x l).Pairwise (·<=·):=by intro l;induction l with|nil=>intro _;exact List.pairwise_singleton _ _|cons y r U=>
intro h;have Z:=Lm.mp h;show(if x<=y then x::y::r else y::nW x r).Pairwise _;split;.rename_i q;exact Lm.mpr ⟨fun z hz=>(ce.mp hz).elim (fun e=>e▸q) fun hz=>uA q (Z.1 z hz),h⟩
.rename_i q;exact Lm.mpr ⟨fun z hz=>(ce.mp ((IT x r).mem_iff.mp hz)).elim (fun e=>e▸my (cY.mp q)) (Z.1 z),U Z.2⟩
theorem UP:∀l:List Int,(jW l).Pairwise (·<=·):=by intro l;induction l with|nil=>exact .nil|cons x r Z=>exact UO x _ (Z)
theorem UQ(Z:l'.Perm l)(U:l'.Pairwise (·<=·)):l'=jW l:=(Z.trans (UN l).symm).eq_of_pairwise (fun x y _ _ J H=>BH J H) U (UP l)
theorem UR:∀{vs:List aH}{ns:List Int},vs.length=ns.length->(∀(j:Nat)v,vs[j]?=D v->∃i t,ns[j]?=D i/\v=.int i t)->xE vs ns:=by intro vs;induction vs with
|nil=>
intro ns e h;rcases ns with _|⟨i,r⟩;.exact .nil
.cases e|cons v U Z=>
intro ns e h;rcases ns with _|⟨i,r⟩;.cases e
obtain⟨J,t,e1,e2⟩:=h 0 v rfl;cases e1;cases e2;exact .cons _ _ (Z (Zc e) fun j v e=>h (j+1) v e)
theorem US:∀{es:List (aa×aa)}{l:List Int},ju (es.map (·.1))=D l->(es.all fun q=>ci q.1==1)=Y/\∀{xs:List (Int×aH)}{G m},F2 (Ir G m) es xs->xs.map (·.1)=l:=by intro es;induction es with|nil=>intro l e;cases e;exact⟨rfl,fun h=>by cases h;rfl⟩|cons U r Z=>obtain⟨k,d⟩:=U;intro l e;induction k using aa.casesOn with|int i=>obtain⟨q,J,rfl⟩:=qm.mp e;have Z:=Z J;exact⟨Z.1,fun h=>by cases h with|cons h H=>rw[ii,Z.2 H,aa.int.inj h.1]⟩|_=>exact nS e
theorem UT{l:List Int}{Q:aH->cJ->Prop}(hh:A.handled=I)(hm:(X.K.lookup mz).isSome=Y)(S:HR X σ c)(he:σ[i]?=D (.dict es))(hi:ju (es.map (·.1))=D l)(hl:l.length<60)(ha:c.ak (.ref i) a)(k:PV X c (σ++[.list ((jW l).map .int)]) (.ref σ.length) Q):wpAny (model X.prog X.w) A (call (.builtin "sorted") [a]) Q E c.s:=by
 refine cps fun P hP=>?_;obtain⟨hk,wN⟩:=US hi;obtain⟨p,xs,⟨hp,rfl,_⟩,h1,h2⟩:=wM S he ha hk;obtain⟨ep,h3⟩:=h2.dictAt;refine hP ?_;have hx:=wN h1;have hn:xs.length=l.length:=by rw[hx.symm,aJ]
 refine call_function_entry kind_sorted plain_sorted entry_sorted (args_sorted1 _) ?_;unfold Builtin.«sorted»;refine aA (m:=checkCount "sorted" 1 1 _) (aX ?_);refine aA (kdu_collect (A:=A.in1) (kdl_dict (knd:=ik X) (S.tT hm hp)) hh h3 (by rw[hn,wH];exact ax 0x1e083408600000050d000 rfl hl) fun h' tk dN oi IU=>?_);have je:dN.toList.length=l.length:=by rw[mB,IU.1,hn]
 have hI:xE dN.toList l:=UR je fun j v e=>by obtain⟨k',x,e1,e2⟩:=IU.2 j v (by rw[<-BX];exact e);obtain⟨t,e3⟩:=Li e2;exact⟨k',t,by rw[hx.symm,gm,e1];rfl,e3⟩
 refine aA (wpAny_newList ?_ (by rw[je,wH];exact ax 0x1e083408600000050d000 rfl hl));have AP:(h'.push (seqObj "list" dN.toList.toArray 0)).get? h'.objs.size=D (seqObj "list" dN.toList.toArray 0):=kw _ rfl;refine aA (mA (sd slot_list_sort ⟨_,AP,rfl⟩ entry_list_sort (list_sort_tree (s:={c.s with heap:=h'.push (seqObj "list" dN.toList.toArray 0),toks:=tk}) AP hI (by rw[je];exact ax 0x3c10681088020d001 rfl hl) fun out J? a1 a2 a3=>⟨_,rfl,?_⟩) (args_list_sort _)));refine aX ⟨_,rfl,?_⟩;obtain⟨e,UU⟩:=sortedHeap_at (vs:=dN.toList) (out:=out) AP;refine S.newList (l:=(jW l).map .int) (fun b o q=>?_) (un.mp fun q=>?_) UU (by rw[<-UQ a2 a3];exact UL a1) k;.have mU:b<h'.objs.size:=r9 (oi _ _ q);rw[sortedHeap_old (lb mU) (by rw[size_push'];exact ZN mU),Heap.get?_push_ne _ _ _ (lb mU)];exact oi _ _ q
 .rcases r:c.s.heap.get? h'.objs.size with _|o;.exact q r
  exact nS ((k3 h').symm.trans (oi _ _ r))
theorem IV(h:lD l i=D d):-(2^63:Int)<=i/\i<2^63/\∃j,seqIndex? i l.length=D j/\l[j]?=D d/\(0<=i->j=i.toNat)/\(i<0->0<=i+l.length/\j=(i+l.length).toNat):=by
 refine cps fun P Q=>?_;obtain⟨O,h⟩:=cc (p:=(small i&&decide (l.length<av))=Y) h;refine Q ?_;have J:=tS (bL O);refine⟨J.1,J.2.1,?_⟩;unfold seqIndex?;by_cases Z:0<=i;.rw[af Z]at h;have U:=(bp.mp h).1;refine⟨i.toNat,?_,h,fun _=>rfl,fun z=>ae z (ig.mpr Z)⟩;rw[am (ig.mpr Z)];exact af (by rw[aN Z,aN ((Ln Z).mp U)];rfl)
 .rw[am Z]at h;obtain⟨H,h⟩:=cc h;have U:=(bp.mp h).1;refine⟨(i+l.length).toNat,?_,h,fun z=>ae z Z,fun _=>⟨H,rfl⟩⟩;rw[af (cY.mp Z)];exact af (by rw[aN H,aN (Kv (Int.add_lt_add_right (cY.mp Z) _) (ZO (ZP _)))];rfl)
theorem getL{j:Nat}(h:c.Vs l xs.toList)(e:l[j]?=D d):∃v,xs[j]?=D v/\c.ak d v:=by rw[<-BX];exact h.ir e
theorem UV{Q:aH->cJ->Prop}(t:A.units+50<cLine)(S:HR X σ c)(e:cZ σ x y=D d)(H:c.ak x a)(O:c.ak y b)(k:PV X c σ d Q):wpAny (model X.prog X.w) A (getItem a b) Q E c.s:=by induction x using aa.casesOn with
|ab l=>induction y using aa.casesOn with|int i=>cases O;refine VR.tE H fun _ _ _ C J=>?_;obtain⟨U,L,j,e1,e2,_⟩:=IV e;obtain⟨v,e3,K⟩:=getL J e2;exact P.getItem_tuple (S.sub _ _ C) U L (by rw[fJ J];exact e1) e3 (k.here S K _)|_=>exact nS e
|str s=>induction y using aa.casesOn with
 |int i=>
 refine VR.iE O fun _=>?_;refine VR.sE H fun _=>?_;obtain⟨m,e⟩:=cc (p:=(decide (0<=i)&&small i)=Y) e;have Z:0<=i:=cA (bL m);have U:=tS (bR m);obtain⟨h,e1,e'⟩:=qm.mp e;clear e;cases e';have g:=(ZI.mp e1).1;refine P.getItem_str (c:=h) (by rw[bS (ig.mpr U.1),bS (cY.mpr U.2.1)];rfl) ?_ (k.here S .str _);have:seqIndex? i s.length=D i.toNat:=by unfold seqIndex? Str.length;rw[am (ig.mpr Z)];exact af (by rw[aN Z,aN ((Ln Z).mp g)];rfl)
 rw[this];exact e1|_=>exact nS e
|ref i=>
 change(match σ[i]? with|some (.list xs)=>(match y with|.int k=>lD xs k|_=>I)|some (.dict es)=>if(dd es y&&ci y==2)=Y then ca es y else I|_=>I)=_ at e;rcases q:σ[i]? with _|o;.exact nS (q▸e)
 rw[q]at e;induction o using AO.casesOn with
 |list ys=>induction y using aa.casesOn with|int j=>
 obtain⟨p,vs,n,hp,rfl,_,C,J⟩:=jI S q H;refine VR.iE O fun _=>?_;refine cps fun P hP=>?_;obtain⟨U,L,u,e1,e2,e3,K⟩:=IV e;obtain⟨v,r,f⟩:=getL J e2;refine hP ?_;rcases Int.lt_or_le j 0 with Z|Z;.clear e1 e2 e3;obtain⟨z1,rfl⟩:=K Z;have:=fJ J;exact wpAny_getItem_list_neg ⟨_,C,rfl,n,rfl⟩ Z (Int.le_of_sub_nonneg (by rw[Zd,this];exact z1)) U (by rw[this];exact r) (k.here S f _)
 .rw[e3 Z]at r;exact wpAny_getItem_list ⟨_,C,rfl,n,rfl⟩ Z L r (k.here S f c.s.toks)|_=>exact nS e
 |dict es=>obtain⟨z,e⟩:=cc e;obtain⟨l,rfl,h1,h2⟩:=tU (bL z) (bR z);exact UB t S q h2 h1 e H O k|_=>exact nS e
|_=>exact nS e
theorem IW{n uM j:Nat}(e:bound n uM x=D j)(hv:c.ak x v):∃q:Option Int,BY v q/\j=(match q with|none=>uM|some i=>if i<0 then(i+n).toNat else min i.toNat n):=by induction hv using VR.casesOn with|none=>cases e;exact⟨I,.none,rfl⟩|@int i t=>obtain⟨_,e⟩:=cc (p:=small i=Y) e;cases e;exact⟨D i,.int _ t,rfl⟩|_=>exact nS e
theorem AQ{i n:Int}(h:i<0):i+n<=n:=uA (Int.add_le_add_right (my h) n) (ZO (ZP n))
theorem oJ(i:Int)(n:Nat):max 0 (min (if i<0 then i+n else i) (n:Int))=((if i<0 then(i+n).toNat else min i.toNat n:Nat):Int)/\(if i<0 then(i+n).toNat else min i.toNat n)<=n:=by
 by_cases h:i<0;.rw[af h,af h,Lq (AQ h)];exact⟨(ZQ _ _).trans (Int.ofNat_toNat _).symm,Int.toNat_le.mpr (AQ h)⟩
 .rw[am h,am h];obtain⟨k,rfl⟩:=ZR (ig.mp h);refine⟨(ZS (ZT.mpr ⟨hZ k,hZ n⟩)).trans ?_,jT _ _⟩;show min (k:Int) n=((min k n:Nat):Int);rcases Nat.le_total k n with q|q;.rw[mj q,Lq (nA.mpr q)]
  .rw[rY q,Int.min_eq_right (nA.mpr q)]
theorem IX{lo hi:Option Int}{n p q:Nat}(h1:p=(match lo with|none=>0|some i=>if i<0 then(i+n).toNat else min i.toNat n))(h2:q=(match hi with|none=>n|some i=>if i<0 then(i+n).toNat else min i.toNat n)):BZ lo hi I n=((p:Int),(q:Int),1)/\p<=n/\q<=n:=by
 unfold sliceBounds;simp only[Option.getD_none,show(1:Int)>0 from by decide,if_true];subst h1 h2;rcases lo with _|i;.induction hi using cN with|none=>exact⟨rfl,bQ _,aE _⟩|some i=>dsimp only;rw[(oJ i n).1];exact⟨rfl,bQ _,(oJ i n).2⟩
 induction hi using cN with|none=>dsimp only;rw[(oJ i n).1];exact⟨rfl,(oJ i n).2,aE _⟩|some j=>dsimp only;rw[(oJ i n).1,(oJ j n).1];exact⟨rfl,(oJ i n).2,(oJ j n).2⟩
theorem UW(l:List U)(p:Nat):∀m:Nat,(iV m).filterMap (fun j=>l[p+j]?)=(l.drop p).take m:=by intro m;induction m with|zero=>exact rfl|succ m Z=>rw[Zj,List.filterMap_append,Z,K9,Za,Lr];cases l[p+m]?<;>rfl
theorem IY(l:List Z)(p q:Nat):((iV (q-p)).map (p+·)).filterMap (l[·]?)=(l.take q).drop p:=by rw[ZU,List.drop_take];exact UW l p (q-p)
theorem IZ{lo hi:aa}{vl vu:aH}(e:dT l lo hi=D r)(hl:c.ak lo vl)(hh:c.ak hi vu)(h:c.Vs l xs.toList):∃ql qu,BY vl ql/\BY vu qu/\l.length<av/\c.Vs r (slicePick xs ql qu I).toList/\∃p q:Nat,BZ ql qu I xs.size=((p:Int),(q:Int),1)/\p<=xs.size/\q<=xs.size/\r=(l.take q).drop p:=by
 obtain⟨hz,e⟩:=cc (p:=l.length<av) e;rcases e1:bound l.length 0 lo with _|p;.rw[e1]at e;exact nS e
 rcases e2:bound l.length l.length hi with _|q;.rw[e1,e2]at e;exact nS e
 rw[e1,e2]at e;cases e;refine cps fun P hP=>?_;obtain⟨ql,q1,q2⟩:=IW e1 hl;obtain⟨qu,q3,q4⟩:=IW e2 hh;refine hP ?_;have b:=IX q2 q4;rw[<-fJ h]at b;refine⟨ql,qu,q1,q3,hz,?_,p,q,b.1,b.2.1,b.2.2,rfl⟩;unfold slicePick;rw[b.1];dsimp only;rw[sliceRange_one,show(fun x:Nat=>xs[x]?)=fun x=>xs.toList[x]? from funext fun x=>(BX).symm,IY];exact(F2.take h q).drop p
theorem UX{xs:List aa}{lo hi:aa}(S:HR X σ c)(he:σ[i]?=D (.list xs))(e:dT xs lo hi=D r)(ha:c.ak (.ref i) a)(hl:c.ak lo vl)(hh:c.ak hi vu)(hs:c.s.heap.IsSliceOf sl vl vu .none)(k:PV X c (σ++[.list r]) (.ref σ.length) Q):wpAny (model X.prog X.w) A (getItem a (.ref sl)) Q E c.s:=by refine cps fun P hP=>?_;obtain⟨p,vs,n,hp,rfl,_,ho,hr⟩:=jI S he ha;obtain⟨ql,qu,q1,q2,hz,q3,_⟩:=IZ e hl hh hr;refine hP ?_;exact wpAny_getItem_list_slice ⟨_,ho,rfl,n,rfl⟩ hs q1 q2 .none (fun z=>nomatch z) (S.newList (fun b o q=>gp _ q) (k3 _) (kw _ rfl) q3 k) (by rw[fJ hr];exact jH hz)
theorem I7(Z:BY v q)(h:Q q s):wpAny (model X.prog X.w) A (af0 v) Q E s:=by induction Z using IsPart.casesOn with|none=>exact ZV h|int i t=>exact slicePart_int h
theorem UY(lo hi:Option Int)(n:Nat):ZW lo hi 1 n=((BZ lo hi I n).1,(BZ lo hi I n).2.1):=by
 unfold Builtin.Slice.sliceAdjust sliceBounds;have h1:¬((1:Int)<0):=by decide
 simp only[Option.getD_none,show(1:Int)>0 from by decide,h1,if_true,if_false];have key:∀v:Int,(if v<0 then max (v+(n:Int)) 0 else min v n)=max 0 (min (if v<0 then v+n else v) (n:Int)):=fun v=>by
  by_cases h:v<0;.rw[af h,af h,Lq (AQ h)];exact ZQ _ _
  .rw[am h,am h];exact(ZS (ZT.mpr ⟨ig.mp h,hZ n⟩)).symm
 cases lo<;>cases hi<;>simp only[key]
theorem UZ{lo hi:aa}(S:HR X σ c)(e:dT l lo hi=D r)(ha:c.ak (.ab l) a)(hl:c.ak lo vl)(hh:c.ak hi vu)(hs:c.s.heap.IsSliceOf sl vl vu .none)(k:PV X c σ (.ab r) Q):wpAny (model X.prog X.w) A (getItem a (.ref sl)) Q E c.s:=by
 refine VR.tE ha fun p xs n ho hr=>?_;refine cps fun P hP=>?_;obtain⟨ql,qu,q1,q2,hz,q3,u,w,hb,hu,hw,rfl⟩:=IZ e hl hh hr;obtain⟨os,ng,tX,qb⟩:=id hs;refine hP ?_;have ht:IsTup c.s.heap p xs:=⟨_,S.sub _ _ ho,rfl,n,rfl⟩;have AR:=UY ql qu xs.size;rw[hb]at AR;have I8:Ls (u:Int) (w:Int) 1=w-u:=by
  unfold Builtin.Slice.slicePlaces;rw[af (by decide),Int.ediv_one,Int.sub_add_cancel];by_cases h:(u:Int)<w;.rw[af h];exact Int.toNat_sub w u
  .rw[am h];exact(xA (nA.mp (ig.mp h))).symm
 unfold getItem;try with_reducible refine mA ?_
 first|refine aA (aX ?_)|skip
 refine aA (ZX ht.typeIs (by decide) ?_);refine aA (ZY (name:=Kx "__getitem__") ht.typeIs Lu (sd Lu ht.typeIs entry_tuple_getitem ?_ (args_tuple_getitem _ _)));show wpAny _ _ (Zo (.ref p)>>=_) _ _ _;refine aA (tupleItemsOf_ ht (aA (Lv ⟨os,ng,tX⟩ ?_)));rw[af (by decide)];refine aA (m:=ag0 (.ref sl) (pure (xs.size:Int))) ?_;unfold Builtin.Slice.sliceApplied Builtin.Slice.sliceFields;refine aA (aA (uB ng qb (x:=vl) rfl (aA (uB ng qb (x:=vu) rfl (aA (uB ng qb (x:=.none) rfl (aX (aA (ZV ?_)))))))));show wpAny _ _ (if((1:Int)==0)=Y then _ else _) _ _ _;rw[am (by decide)];refine aA (I7 q1 (aA (I7 q2 (aA (aX ?_)))));show wpAny _ _ (match ZW ql qu 1 (xs.size:Int)with|(lo,hi)=>pure (lo,(1:Int),Ls lo hi 1)) _ _ _;rw[AR];show wpAny _ _ (pure ((u:Int),(1:Int),Ls (u:Int) (w:Int) 1)) _ _ _;rw[I8];refine aX ?_;dsimp only;have I9:((iV (w-u)).filterMap fun(k:Nat)=>xs[((u:Int)+(k:Int)*1).toNat]?).toArray.toList=(xs.toList.take w).drop u:=by
  have e1:(fun(k:Nat)=>xs[((u:Int)+(k:Int)*1).toNat]?)=(fun x=>xs.toList[x]?)∘fun x=>u+x:=funext fun j=>by show _=xs.toList[u+j]?;rw[Int.mul_one,BX];rfl
  rw[e1,ZU.symm,IY xs.toList u w]
 by_cases pU:((u:Int)==0&&(1:Int)==1&&(w-u)==xs.size)=Y
 .rw[af pU];have U0:u=0:=dr (aV.mp (bL (bL pU)));have U1:l.length<=w:=by rw[<-fJ hr,(aV.mp (bR pU)).symm];exact qi _ _
  clear hb hu e q3 AR I8 I9 pU;subst U0;rw[ux,uz U1]at k;refine aA (m:=ah0 (.ref p)) ?_;unfold Builtin.Tuple.tupleIsExact;refine aA (Lv ht.typeIs (aX ?_));rw[af (by rfl)];exact aA (wpAny_rule (aA (aX (aX ⟨_,rfl,aX (k.here S (.ab ho hr) _)⟩))))
 .rw[am pU];have fp:=fun t=>PV.ab k S (zs:=((iV (w-u)).filterMap fun(k:Nat)=>xs[((u:Int)+(k:Int)*1).toNat]?).toArray) (n:=0) (by rw[I9];exact(F2.take hr w).drop u) t;have rG:sizeOk (.seq ((iV (w-u)).filterMap fun(k:Nat)=>xs[((u:Int)+(k:Int)*1).toNat]?).toArray):=by show _<=sizeLine;rw[Lw];refine bj (ZZ _ _) ?_;rw[K7];exact bj (qi w u) (bj hw (by rw[fJ hr];exact jH hz))
  first|exact aA (m:=B0 _) (xF (aX ⟨_,rfl,aX (fp _)⟩) rG)|exact aA (m:=B0 _) (xF (aA (aX (aX ⟨_,rfl,aX (fp _)⟩))) rG)|exact aA (aA (m:=B0 _) (xF (aX (aX ⟨_,rfl,aX (fp _)⟩)) rG))|exact aA (aA (m:=B0 _) (xF (aX ⟨_,rfl,aX (fp _)⟩) rG))
end
end
section
open PySem.W PySem.Calls PyProof.Rows
section
variable{c:Cf}
theorem Ja(X:cg x=Y):∀{l:List aa},l.all cg=Y->(fI l).any (fun y=>xC y (ga x))=l.contains x:=by intro l;induction l with|nil=>intro _;exact rfl|cons d r U=>intro Z;show(xC (ga d) (ga x)||(fI r).any _)=_;rw[U (bR Z),(wF 40).1 _ (bL Z) 40 _ X,List.contains_cons,AE];exact aI (·||_) (iF.mpr ⟨By,By⟩)
theorem Jb(g:A.units+50<cLine)(L:(X.K.lookup mz).isSome=Y)(S:HR X σ c)(e:io σ x y=D q)(J:c.ak x a)(H:c.ak y b)(k:PV X c σ (.bool q) Q):wpAny (model X.prog X.w) A (oZ .In a b) Q E c.s:=by induction y using aa.casesOn with
|ab l=>obtain⟨h,e⟩:=cc (p:=(cg x&&l.all cg)=Y) e;cases e;refine VR.tE H fun _ _ _ d r=>?_;obtain⟨as,rc⟩:=(oI 40).2 _ (l3 (bR h)) _ (eJ.pure S.sub r (l3 (bR h)));obtain⟨bs,O⟩:=(oI 40).1 _ (bL h) _ (S.pure (bL h) J);have Z:=(kl 40).1 _ (bL h);rw[<-Ja (bL h) (bR h)]at k;exact SeqAt.in_tuple_reads (.tuple (S.sub _ _ d) rfl rfl rc) O ((kl 40).2 _ (l3 (bR h))).1 Z.1 (IJ ‹_› Z.2) (k.here S .bool c.s.toks)|ref i=>
 change(match σ[i]? with|some (.list xs)=>if(cg x&&xs.all cg)=Y then D (xs.contains x)else I|some (.dict es)=>if dd es x=Y then D (ca es x).isSome else I|_=>I)=_ at e;rcases U:σ[i]? with _|o;.exact nS (U▸e)
 rw[U]at e;induction o using AO.casesOn with
 |list xs=>obtain⟨h,e⟩:=cc e;cases e;obtain⟨as,rc⟩:=AI S U H (bR h);obtain⟨bs,O⟩:=(oI 40).1 _ (bL h) _ (S.pure (bL h) J);have Z:=(kl 40).1 _ (bL h);rw[<-Ja (bL h) (bR h)]at k;exact SeqAt.in_list_reads rc O ((kl 40).2 _ (l3 (bR h))).1 Z.1 (IJ ‹_› Z.2) (k.here S .bool c.s.toks)|dict es=>obtain⟨C,e⟩:=cc e;cases e;induction x using aa.casesOn with|int j=>obtain⟨_,e,M⟩:=AL C rfl;cases e;exact UD L S U M H J k|ab l=>obtain⟨_,e,u,M⟩:=tU C rfl;cases e;exact UC g L S U M u H J k|_=>exact nB (bR (bL C))
 |_=>exact nS e
|_=>exact nS e
theorem U2(hu:A.units+50<cLine)(hm:(X.K.lookup mz).isSome=Y)(S:HR X σ c)(e:io σ x y=D q)(ha:c.ak x a)(hb:c.ak y b)(k:PV X c σ (.bool (!q)) Q):wpAny (model X.prog X.w) A (oZ .NotIn a b) Q E c.s:=by
 have h3:wpAny (model X.prog X.w) A (contains b a>>=fun z=>pure (Z0 z)) (fun v s'=>∀z,v=.bool z->Q (.bool (!z)) s') E c.s:=Jb hu hm S e ha hb fun z v x' S' hv u hz=>by subst hz;cases hv;exact k z _ x' S' .bool
 show wpAny _ A (contains b a>>=fun z=>pure (Z0 (!z))) Q E c.s;intro oL p wO;have h4:=h3 oL p wO;rw[Lx]at h4⊢;exact B1 _ oL _ (fun z p' s' h'=>h' z rfl) (fun _ _ _ h'=>h') p c.s h4
theorem U3(Z:c.ak x a):(a==.none)=decide (x=.none):=by cases Z<;>rfl
theorem U4(S:HR X σ c)(J:c.ak x a)(k:PV X c σ (.bool (decide (x=.none)==q)) Q):wpAny (model X.prog X.w) A (oZ (cond q .Is .IsNot) a .none) Q E c.s:=by
 rw[<-U3 J]at k;rcases q with _|_;.exact isnot_none_gen (by rw[beq_false]at k;exact k.here S .bool c.s.toks)
 exact is_none_gen (by rw[beq_true]at k;exact k.here S .bool c.s.toks)
noncomputable def AS(b:Bi):Value:=match b with|.len=>.builtin "len"|.max=>.builtin "max"|.min=>.builtin "min"|.sorted=>.builtin "sorted"|.tuple=>.type "tuple"|.str=>.type "str"
theorem U5:∀(l:List Int)(m:Int),lE m l<=m/\∀x∈l,lE m l<=x:=by intro l;induction l with|nil=>intro m;exact⟨fS _,fun x X=>nomatch X⟩|cons y r Z=>
intro m;show lE (if y<m then y else m) r<=m/\∀x∈y::r,lE (if y<m then y else m) r<=x;have Z:=Z (if y<m then y else m);have U:(if y<m then y else m)<=m/\(if y<m then y else m)<=y:=by
 by_cases h:y<m;.rw[af h];exact⟨my h,fS _⟩
 .rw[am h];exact⟨fS _,ig.mp h⟩
exact⟨uA Z.1 U.1,fun x X=>(ce.mp X).elim (fun e=>by rw[e];exact uA Z.1 U.2) (Z.2 x)⟩
theorem U6:∀(l:List Int)(m:Int),lE m l∈m::l:=by intro l;induction l with|nil=>intro m;exact aW|cons y r Z=>
  intro m;show lE (if y<m then y else m) r∈m::y::r;rcases ce.mp (Z (if y<m then y else m))with h|h
  .rw[h];split;.exact cI _ aW
   .exact aW
  .exact cI _ (cI _ h)
theorem U7{P:Int->Prop}(Z:0<=i)(X:i<10)(h:∀n:Nat,n<10->P (n:Int)):P i:=by have:=h i.toNat ((Ln Z).mpr X);rwa[lk Z]at this
theorem U8:∀n:Nat,n<10->(toString (n:Int):bh)=⟨#[48+n]⟩:=by decide+kernel
theorem U9(u:A.handled=I)(S:HR X σ c)(m:σ[i]?=D (.list l))(hi:ju l=D (j::r))(O:c.ak (.ref i) a)(k:PV X c σ (.int (lE j r)) Q):wpAny (model X.prog X.w) A (call (.builtin "min") [a]) Q E c.s:=by
 refine cps fun P f=>?_;obtain⟨p,vs,n,x,rfl,_,y,z⟩:=jI S m O;refine f ?_;have M:=UK (R:=c.ak) UM hi z;obtain⟨Z,L⟩:=M.allInts.items;have U:(j::r)=Z.toList.map (·.1):=by rw[<-M.numsOf,<-nums_intItems,<-L]
 have J:r.length+1=Z.size:=(aI rV U).trans ((aJ ..).trans mB);have q:c.s.heap.IsList p.1 (intItems Z):=by rw[L.symm];exact⟨_,y,rfl,n,rfl⟩
 refine min_intList u q (aC 709906590732289 rfl J) fun v h' b h K=>?_;obtain⟨t,rfl⟩:=intItems_at h;obtain⟨g1,g2⟩:=argBest_lt (numAt Z) (Z.size-1);have H:numAt Z (argBest (fun i j=>decide (numAt Z i<numAt Z j)) (Z.size-1))∈(j::r):=by rw[U,numAt_eq];exact getD_mem (by rw[aJ,mB,J.symm];exact BG (J▸g1:_<=r.length+1-1))
 have C:∀a∈(j::r),numAt Z (argBest (fun i j=>decide (numAt Z i<numAt Z j)) (Z.size-1))<=a:=fun a O=>by rw[U]at O;obtain⟨j,g,rfl⟩:=mem_getD O;rw[aJ,mB]at g;rw[<-numAt_eq];exact g2 j (Nat.le_sub_one_of_lt g)
 have d:=U5 r j;rw[show lE j r=_ from BH ((ce.mp H).elim (fun e=>e▸d.1) (d.2 _)) (C _ (U6 r j))]at k;exact k (c.hp h' b) _ (.more K) (S.more K) .int
theorem wP{Z:Type}{f:aa->Option Z}{r:Z}(X:c.Vs as vs)(e:(nX as).bind f=D r):∃x a,vs=[a]/\c.ak x a/\f x=D r:=by induction X using F2.casesOn with|nil=>exact nS e|cons h U=>induction U using F2.casesOn with|nil=>exact⟨_,_,rfl,h,e⟩|cons=>exact nS e
theorem Va{Z:Type}{f:Int×Int->Z}{r:Z}(h:c.ak x a)(h':c.ak y b)(e:(o8 [x,y]).map f=D r):∃i j t u,a=.int i t/\b=.int j u/\f (i,j)=r:=by induction h using VR.casesOn with
|int=>induction h' using VR.casesOn with|int=>exact⟨_,_,_,_,rfl,rfl,b9 e⟩|_=>exact nS e
|_=>exact nS e
theorem Jc{U:Type}{as:List aa}{vs:List aH}{f:Int×Int->U}{r:U}(J:c.Vs as vs)(e:(o8 as).map f=D r):∃i j t u,vs=[.int i t,.int j u]/\f (i,j)=r:=by
 have H:∀{x y z:aa}{l:List aa},o8 (x::y::z::l)=none:=fun{x y z l}=>by cases x<;>first|rfl|(cases y<;>rfl)
 have Z:∀{x:aa},o8 [x]=none:=fun{x}=>by cases x<;>rfl
 induction J using F2.casesOn with|nil=>exact nS e|cons h X=>induction X using F2.casesOn with|nil=>rw[Z]at e;exact nS e|cons h' X=>induction X using F2.casesOn with|nil=>obtain⟨i,j,t,u,rfl,rfl,e⟩:=Va h h' e;exact⟨i,j,t,u,rfl,e⟩|cons=>rw[H]at e;exact nS e
theorem AT{Z:Type}{f:List aa->Option Z}{r:Z}(e:(nY σ x).bind f=D r):∃i xs,x=.ref i/\σ[i]?=D (.list xs)/\f xs=D r:=by induction x using aa.casesOn with
|ref i=>
 change(match σ[i]? with|some (.list xs)=>D xs|_=>I:Option (List aa)).bind f=_ at e;rcases q:σ[i]? with _|o;.rw[q]at e;exact nS e
 rw[q]at e;induction o using AO.casesOn with|list xs=>exact⟨i,xs,rfl,q,e⟩|_=>exact nS e
|_=>exact nS e
theorem Jd(xs:List aa):(if xs.length<av then D (aa.int xs.length)else I)=D d->(xs.length:Int)<2^63/\d=.int xs.length:=fun e=>by obtain⟨hz,e⟩:=cc e;cases e;exact⟨AG hz,rfl⟩
theorem Vb(S:HR X σ c)(e:xQ σ x=D d)(J:c.ak x a)(k:PV X c σ d Q):wpAny (model X.prog X.w) A (call (.builtin "len") [a]) Q E c.s:=by induction J using VR.casesOn with
|ab Z U=>refine cps fun P H=>?_;obtain⟨h,rfl⟩:=Jd _ e;refine H ?_;rw[<-fJ U]at h k;exact len_tuple ⟨_,S.sub _ _ Z,rfl,_,rfl⟩ h (k.here S .int _)|@ref i p O=>
 change(match σ[i]? with|some (.list xs)=>if xs.length<av then D (aa.int xs.length)else I|_=>I)=_ at e;rcases q:σ[i]? with _|o;.rw[q]at e;exact nS e
 have C:=S.cells i p o O q;rw[q]at e;induction C using OR.casesOn with|list M Z U=>obtain⟨h,rfl⟩:=Jd _ e;rw[<-fJ U]at h k;exact call_len_list ⟨_,Z,rfl,_,rfl⟩ h (k.here S .int _)|_=>exact nS e
|_=>exact nS e
theorem Vc(U:A.handled=I)(J:(X.K.lookup mz).isSome=Y)(S:HR X σ c)(e:qC σ x=D (d,Z))(H:c.ak x a)(k:PV X c Z d Q):wpAny (model X.prog X.w) A (call (.builtin "sorted") [a]) Q E c.s:=by induction x using aa.casesOn with
|ref i=>
 change(match σ[i]? with|some (.dict es)=>(ju (es.map (fun p:aa×aa=>p.1))).bind fun l=>if l.length<60 then D (aa.ref σ.length,σ++[AO.list ((jW l).map .int)])else I|_=>I)=_ at e;rcases q:σ[i]? with _|o;.rw[q]at e;exact nS e
 rw[q]at e;induction o using AO.casesOn with|dict es=>refine cps fun P O=>?_;obtain⟨l,hi,e⟩:=Z1.mp e;obtain⟨hz,e⟩:=cc e;refine O ?_;cases e;exact UT U J S q hi hz H k|_=>exact nS e
|_=>exact nS e
theorem Vd(S:HR X σ c)(e:xS σ x=D d)(J:c.ak x a)(k:PV X c σ d Q):wpAny (model X.prog X.w) A (call (.type "tuple") [a]) Q E c.s:=by induction x using aa.casesOn with|ab l=>cases e;refine VR.tE J fun _ _ _ Z U=>?_;exact call_tuple_same ⟨_,S.sub _ _ Z,rfl,_,rfl⟩ (k.here S (.ab Z U) c.s.toks)|ref i=>obtain⟨_,xs,O,C,e⟩:=AT e;cases O;obtain⟨hz,e⟩:=cc (p:=xs.length<av) e;cases e;refine cps fun P M=>?_;obtain⟨p,L,n,j,rfl,_,Z,U⟩:=jI S C J;refine M ?_;exact call_tuple_list ⟨_,Z,rfl,n,rfl⟩ (fun h' H=>PV.ab (c:=c.hp h' c.s.toks) (fun z v K g=>k z v ((bZ.more H).trans K) g) (S.more H) U _) (by rw[fJ U];exact jH hz)|_=>exact nS e
theorem Ve(S:HR X σ c)(e:xT x=D d)(ha:c.ak x a)(k:PV X c σ d Q):wpAny (model X.prog X.w) A (call (.type "str") [a]) Q E c.s:=by induction ha using VR.casesOn with|@int i t=>obtain⟨hz,e⟩:=cc (p:=(decide (0<=i)&&decide (i<10))=Y) e;cases e;have h0:0<=i:=cA (bL hz);have h1:i<10:=cA (bR hz);refine PySem.P.str_of_int (dM (Nat.log2_le_self _) (cw.mp (by rw[Zu h0];exact rQ h1 (by decide)))) ?_;rw[show(toString i:bh)=⟨#[48+i.toNat]⟩from U7 (P:=fun i=>(toString i:bh)=⟨#[48+i.toNat]⟩) h0 h1 U8];exact k.here S .str _|_=>exact nS e
theorem Je{o:Option X}(e:o.map f=D (d,Z)):∃z,o=D z/\f z=(d,Z):=qm.mp e
theorem Vf{vs:List aH}{Q:aH->cJ->Prop}(H:A.handled=I)(S:HR X σ c)(e:iI .min σ as=D (d,U))(O:c.Vs as vs)(k:PV X c U d Q):wpAny (model X.prog X.w) A (call (.builtin "min") vs) Q E c.s:=by
 have C:(o8 as).map (fun p=>(aa.int (if p.2<p.1 then p.2 else p.1),σ))=D (d,U)->wpAny (model X.prog X.w) A (call (.builtin "min") vs) Q E c.s:=fun e=>by refine cps fun P J=>?_;obtain⟨i,j,t,u,rfl,e⟩:=Jc O e;refine J ?_;cases e;exact min_two_ints H fun h' K M=>k (c.hp h' K) _ (.more M) (S.more M) (by split<;>exact .int)
 induction O using F2.casesOn with|nil=>exact nS e|cons h L=>induction L using F2.casesOn with|cons h' L=>exact C e|nil=>
 obtain⟨z,Z,g⟩:=Je e;clear e C;cases g;refine cps fun P J=>?_;obtain⟨i,xs,rfl,v,Z⟩:=AT Z;obtain⟨q,hi,Z⟩:=Z1.mp Z;refine J ?_;rcases q with _|⟨j,r⟩;.exact nS Z
 obtain⟨_,Z⟩:=cc (p:=r.length<av) Z;cases Z;exact U9 H S v hi h k
theorem Vg{as:List aa}{Q:aH->cJ->Prop}(H:A.handled=I)(C:(X.K.lookup mz).isSome=Y)(S:HR X σ c)(e:iI f σ as=D (d,au))(J:c.Vs as vs)(k:PV X c au d Q):wpAny (model X.prog X.w) A (call (AS f) vs) Q E c.s:=by
 have Z:∀{g:AH->aa->Option aa},(nX as).bind (fun x=>(g σ x).map fun d=>(d,σ))=D (d,au)->∃x a,vs=[a]/\c.ak x a/\g σ x=D d/\σ=au:=fun e=>by obtain⟨x,a,e1,U,e⟩:=wP J e;obtain⟨z,M,L⟩:=Je e;clear k e;cases L;exact⟨x,a,e1,U,M,rfl⟩
 induction f using Bi.casesOn with|len=>clear J;obtain⟨x,a,rfl,U,e2,rfl⟩:=Z (g:=xQ) e;exact Vb S e2 U k|max=>clear Z;obtain⟨i,j,t,u,rfl,e⟩:=Jc J e;cases e;exact max_two_ints H fun h' r O=>k (c.hp h' r) _ (.more O) (S.more O) (by split<;>exact .int)|min=>exact Vf H S e J k|sorted=>clear Z;obtain⟨x,a,rfl,U,e⟩:=wP J e;exact Vc H C S e U k|tuple=>clear J;obtain⟨x,a,rfl,U,e2,rfl⟩:=Z (g:=xS) e;exact Vd S e2 U k|str=>clear J;obtain⟨x,a,rfl,U,e2,rfl⟩:=Z (g:=fun _=>xT) e;exact Ve S e2 U k
end
end
section
open PySem.W PySem.Calls PyProof.Rows
structure oM(X:Wx):Prop where
rH:(X.K.lookup mz).isSome=Y
gu:∀c f x,WD.gu c f=Y->X.N.nm f=D x->(plainGet X.K (X.gc c) x=Y/\hasDictIn X.K (X.gc c)=Y)/\(∃ao,findIn X.K (.ref (X.gc c)) x=D ao/\noGet X.K ao=Y)/\findIn X.K (.ref (X.gc c)) "__setattr__"=D (D (.builtin "object.__setattr__"))/\plainOver X.K (X.gc c)=Y/\takerIn X.K (X.gc c) x=D I
nZ:∀c k f x,WD.nZ c k=D f->X.N.nm k=D x->plainGet X.K (X.gc c) x=Y/\findIn X.K (.ref (X.gc c)) x=D (D (.ref (X.kZ f)))/\typeIn X.K (.ref (X.kZ f))=D (.type "function")
section
variable{p:bu×bu}
theorem Vh:jV ((Z,d)::fs) f=if Z=f then D d else jV fs f:=rfl
theorem Jf{e:nN}(Z:e.key=.str y t)(h:y≠n):e.key.isStr n=false:=by rw[Z];exact gl.mpr h
theorem isStr{e:nN}(Z:e.key=.str n t):e.key.isStr n=true:=by rw[Z];exact beq_self_eq_true n
theorem FR.Jg(h:F2 (FR X G m) fs es):es.any (·.refKey)=false:=by induction h with|nil=>rfl|cons h _ Z=>obtain⟨⟨x,t,_,U⟩,_⟩:=h;rw[ZD,Z,xu];unfold ai0;rw[U]
theorem FR.getL(Z:X.N.nm f=D n)(h:F2 (FR X G m) fs es):(jV fs f=I/\Z2 n es=D I)\/∃d v,jV fs f=D d/\Z2 n es=D (D v)/\VR G m d v:=by unfold PySem.W.getL;rw[FR.Jg h];induction h with|nil=>exact .inl ⟨rfl,rfl⟩|@cons p e _ _ h _ U=>
obtain⟨⟨y,t,J,H⟩,Q⟩:=h;obtain⟨O,d⟩:=p;rw[Vh,xD];by_cases q:O=f;.clear U;subst q;cases Z.symm.trans J;rw[af rfl,isStr H];exact .inr ⟨d,_,rfl,rfl,Q⟩
.rw[am q,Jf H fun z=>q (X.AF _ _ _ J (z▸Z))];exact U
theorem FR.iR(Z:X.N.nm f=D n)(H:VR G m d v)(h:F2 (FR X G m) fs es):F2 (FR X G m) (iH fs f d) (putL n E (.str n t) v es):=by induction h with|nil=>exact .ag ⟨⟨n,t,Z,rfl⟩,H⟩|@cons p e r K h C Q=>
have h':=h;obtain⟨⟨y,t',O,J⟩,M⟩:=h;clear M;obtain⟨U,L⟩:=p;show F2 _ (if U=f then(U,d)::r else(U,L)::iH r f d) (if e.key.isStr n=Y then _ else _);by_cases q:U=f;.clear Q;subst q;cases Z.symm.trans O;rw[af rfl,af (isStr J)];exact .cons ⟨⟨n,t',Z,J⟩,H⟩ C
.rw[am q,Jf J fun z=>q (X.AF _ _ _ O (z▸Z))];exact .cons h' Q
theorem Vi(n:bh)(Z:Int)(k v:aH):∀es:List nN,(putL n Z k v es).length<=es.length+1:=by intro es;induction es with|nil=>exact aE 1|cons e r X=>
show(if e.key.isStr n=Y then _ else _:List nN).length<=_;split;.exact dh _
.exact mi (X)
theorem Vj:∀{fs:List (Nat×aa)},g∈(iH fs f d).map (·.1)->g∈fs.map (·.1)\/g=f:=by intro fs;induction fs with|nil=>intro h;exact .inr (ba.mp h)|cons X r U=>
obtain⟨Z,J⟩:=X;intro h;change g∈(if Z=f then(Z,d)::r else(Z,J)::iH r f d).map (·.1)at h;by_cases q:Z=f;.rw[af q]at h;exact .inl h
.rw[am q]at h;exact(ce.mp h).elim (fun e=>.inl (e▸aW)) fun h=>(U h).imp_left (cI _)
theorem Vk:∀{fs:List (Nat×aa)},(fs.map (·.1)).Nodup->((iH fs f d).map (·.1)).Nodup:=by intro fs;induction fs with|nil=>intro _;exact fh.mpr ⟨bK,jP⟩|cons X r U=>
obtain⟨Z,J⟩:=X;intro h;have h':=fh.mp h;show((if Z=f then(Z,d)::r else(Z,J)::iH r f d).map (·.1)).Nodup;by_cases q:Z=f;.rw[af q];exact h
.rw[am q];exact fh.mpr ⟨fun z=>(Vj z).elim h'.1 q,U h'.2⟩
theorem AU(S:HR X σ c)(J:σ[i]?=D (.bl cl fs))(H:c.ak (.ref i) a):∃p es n,(c.m[i]?=D p/\a=.ref p.1/\p.2≠p.1)/\c.s.heap.get? p.2=D (dictOf es n)/\F2 (FR X c.G c.m) fs es/\(fs.map (·.1)).Nodup/\c.s.heap.get? p.1=D (instObj (X.gc cl) p.2)/\InstAt c.s.heap p.1 (instObj (X.gc cl) p.2) (X.gc cl) (D (dictOf es n)):=by refine cps fun P Q=>?_;obtain⟨p,O,e,C⟩:=S.ref J H;refine Q ?_;cases C with|bl E Z nd U M=>exact⟨p,_,_,⟨O,e,E⟩,U,M,nd,Z,Z,rfl,rfl,U⟩
theorem Jh(T:oM X)(S:HR X σ c)(e:eU WD σ x f=D d)(Z:X.N.nm f=D n)(H:c.ak x a)(k:PV X c σ d Q):wpAny (model X.prog X.w) A (getAttr a n U) Q E c.s:=by induction x using aa.casesOn with
|ref i=>
 change(match σ[i]? with|some (.bl c fs)=>if WD.gu c f=Y then jV fs f else I|_=>I)=_ at e;rcases q:σ[i]? with _|o;.rw[q]at e;exact nS e
 rw[q]at e;induction o using AO.casesOn with|bl cl fs=>
 refine cps fun P O=>?_;obtain⟨C,e⟩:=cc e;obtain⟨p,es,j,⟨r,rfl,u⟩,m,M,_,_,al⟩:=AU S q H;obtain⟨⟨t1,L⟩,⟨J,K,g⟩,_⟩:=T.gu cl f n C Z;refine O ?_;rcases FR.getL Z M with⟨z,_⟩|⟨y,v,g1,g2,g3⟩;.exact nS (z.symm.trans e)
 .cases g1.symm.trans e;exact get_value S.hX al (Ly t1).1 (findObj_own L K g (by rw[lookIn_dict];exact g2)) (by clear k e g2 g1;cases g3<;>rfl) (k.here S g3 _)|_=>exact nS e
|_=>exact nS e
theorem Ji(T:oM X)(S:HR X σ c)(e:o9 WD σ x f d=D H)(m:X.N.nm f=D n)(l:c.ak x a)(h:c.ak d v)(k:PU X c H (Q ())):wpAny (model X.prog X.w) A (setAttr a n v) Q E c.s:=by induction x using aa.casesOn with
|ref i=>
 change(match σ[i]? with|some (.bl c fs)=>if(WD.gu c f&&decide (fs.length<500)&&i !=0)=Y then D (σ.set i (.bl c (iH fs f d)))else I|_=>I)=_ at e;rcases q:σ[i]? with _|o;.rw[q]at e;exact nS e
 rw[q]at e;induction o using AO.casesOn with|bl cl fs=>
 obtain⟨C,e⟩:=cc e;cases e;have hz:fs.length<500:=cA (bR (bL C));refine cps fun P hP=>?_;obtain⟨p,es,y,⟨hp,rfl,z⟩,H,M,L,U,al⟩:=AU S q l;obtain⟨⟨t1,t2⟩,_,t5,t6,t7⟩:=T.gu cl f n (bL (bL C)) m;refine hP ?_;have hX:=S.hX;refine set_plain hX al t5 ?_;refine osa_open (s:={c.s with toks:=c.s.toks+1}) hX al t6 t7 fun b=>?_;obtain⟨cd,hc,K⟩:=any_some t2;refine aA (aX (aA (aA (Z3 U (aA ((looks_clsIn hX hc).here (s:={c.s with toks:=c.s.toks+1}) ?_))))));rw[K];refine aX (a:=D p.2) (aA (aX (aA ?_)));unfold nsSet;refine aA (aA (wpAny_askSetting (aX (aA (wpAny_mkText (aA (Z3 H ?_)))))));have g:Z4 n es.toArray=false:=by rw[aRefKeyMayBeTheName_at,<-Array.any_toList (as:=es.toArray) (p:=fun e:nN=>e.refKey),FR.Jg M,uy]
 show wpAny _ _ (if Z4 n es.toArray=Y then _ else _) _ _ _;rw[g];have J:Lz n (xG X.w.params n) (.str n (c.s.toks+1)) v (dictOf es y)=dictOf (putL n (xG X.w.params n) (.str n (c.s.toks+1)) v es) (putN n es y):=putName_dict ..;have Z:=Lk (Lz n (xG X.w.params n) (.str n (c.s.toks+1)) v) H (by rw[J];rfl);rw[J]at Z;have j:=Vi n (xG X.w.params n) (.str n (c.s.toks+1)) v es;refine wpAny_updatePart H ?_;refine aA (wpAny_lookBehind Z (pastItsLine_dict (by rw[Lw];exact bj j (mi (by rw[M.length];exact bj (li hz) (cm rfl))))) (aX ?_));have t:∀b o,c.s.heap.get? b=D o->b≠p.2->(c.s.heap.update p.2 (Lz n (xG X.w.params n) (.str n (c.s.toks+1)) v)).get? b=D o:=fun b o e hb=>(Ll _ _ (g8 hb)).trans e;exact S.tR (fy.mp (bR C)) hp (fun b o e n1 n2=>t b o e n2) (.bl z (t _ _ U (g8 z)) (Vk L) Z (FR.iR m h M)) k|_=>exact nS e
|_=>exact nS e
noncomputable def nh(k:Nat):Str:=match k with|0=>"append"|1=>"extend"|2=>"pop"|_=>"get"
noncomputable def AV(k:Nat):String:=match k with|0=>"list.append"|1=>"list.extend"|2=>"list.pop"|_=>"dict.get"
theorem Vl(S:HR X σ c)(J:σ[i]?=D (.list xs))(H:c.ak (.ref i) a)(O:k<3)(h:Q (.builtin (AV k),[a]) c.s):wpAny (model X.prog X.w) A (getMethod a (nh k) pl) Q E c.s:=by
 obtain⟨p,vs,n,C,rfl,_,U,M⟩:=jI S J H;have Z:c.s.TypeIs (.ref p.1) "list":=⟨_,U,rfl⟩;have nd:∀q,Lj p.1=.ref q->∃o,c.s.heap.get? q=D o/\o.dict=none:=fun q e=>by cases e;exact⟨_,U,rfl⟩
 rcases k with _|_|_|k;.exact B2 Z LA Z5 (by kernel_rfl) nd h
 .exact B2 Z LA Z6 (by kernel_rfl) nd h
 .exact B2 Z LA Z7 PySem.F.type_list_pop nd h
 .exact ae O (aB 0xe52968000005 rfl)
theorem Vm(S:HR X σ c)(J:σ[i]?=D (.dict es))(H:c.ak (.ref i) a)(h:Q (.builtin "dict.get",[a]) c.s):wpAny (model X.prog X.w) A (getMethod a "get" pl) Q E c.s:=by refine cps fun P O=>?_;obtain⟨p,o,dF,C,M,rfl,_,L,Z,U,K,g⟩:=AM S J H;refine O ?_;exact B2 ⟨o,Z,U.1⟩ PySem.F.plainAttrs_dict LB (by kernel_rfl) (fun q e=>by cases e;exact⟨_,Z,U.2.1⟩) h
theorem tY(S:HR X σ c)(Z:i≠0)(f:Array aH->Array aH)(U:c.m[i]?=D p)(J:p.2=p.1)(H:c.s.heap.get? p.1=D (lZ xs n))(O:c.Vs l (f xs).toList)(k:PU X c (σ.set i (.list l)) Q):Q {c.s with heap:=c.s.heap.update p.1 (LC f),toks:=t}:=S.tR Z U (fun b o e E C=>(Ll _ _ (g8 E)).trans e) (.list J ((Lk _ H rfl).trans (aI D (show LC f (lZ xs n)=lZ (f xs) (if(f xs).size==xs.size then n else n+1)from rfl))) O) k
theorem Vn(S:HR X σ c)(J:σ[i]?=D (.list xs))(H:c.ak (.ref i) a)(O:c.ak d b)(h:(decide (xs.length<av)&&i !=0)=Y)(k:PV X c (σ.set i (.list (xs++[d]))) .none Q):wpAny (model X.prog X.w) A (call (.builtin "list.append") [a,b]) Q E c.s:=by refine cps fun P C=>?_;obtain⟨p,ys,n,M,rfl,L,Z,U⟩:=jI S J H;refine C ?_;exact LD Z5 ⟨_,Z,rfl⟩ entry_list_append (args_list_append _ _) (PySem.list_append p.1 ys n b (by rw[fJ U];exact jH (cA (bL h)))) ⟨Z,tY S (fy.mp (bR h)) (·.push b) M L Z (by rw[Lb];exact U.append (.ag O)) fun z K g=>k z _ K g .none⟩
theorem Vp(S:HR X σ c)(K:σ[i]?=D (.list xs))(g:σ[j]?=D (.list ys))(d:c.ak (.ref i) a)(r:c.ak (.ref j) b)(h:(decide (xs.length+ys.length<av)&&i !=j&&i !=0)=Y)(k:PV X c (σ.set i (.list (xs++ys))) .none Q):wpAny (model X.prog X.w) A (call (.builtin "list.extend") [a,b]) Q E c.s:=by refine cps fun P u=>?_;obtain⟨p,C,n,v,rfl,m,J,M⟩:=jI S K d;obtain⟨f,Z,y,t,rfl,q,H,U⟩:=jI S g r;refine u ?_;have hz:=jH (cA (bL (bL h)));have O:=fJ M;have L:=fJ U;refine LD Z6 ⟨_,J,rfl⟩ PySem.F.entry_list_extend (PySem.F.args_list_extend_2 _ _) (AutoSeq1.list_extend_list_list_0 p.1 C n f.1 Z y ?_ (n9 0x2d408ab7b0020ad000 rfl hz O) (mK 0x31508af408ad8b80202d815a0000 rfl hz O L)) ⟨J,H,tY S (fy.mp (bR h)) (·++Z) v m J (by rw[ZB];exact M.append U) fun z l e=>k z _ l e .none⟩;have:aj0 (C.size+Z.size)=false:=bS (mK 0xc5822bd422a62e0082d505005 rfl hz O L);rw[this,uy];exact oS
theorem Vq(S:HR X σ c)(K:σ[i]?=D (.list xs))(g:c.ak (.ref i) a)(O:xs.getLast?=D d)(h:(decide (xs.length<av)&&i !=0)=Y)(k:PV X c (σ.set i (.list xs.dropLast)) d Q):wpAny (model X.prog X.w) A (call (.builtin "list.pop") [a]) Q E c.s:=by
 refine cps fun P j=>?_;obtain⟨p,U,n,r,rfl,u,C,J⟩:=jI S K g;refine j ?_;have H:=fJ J;rw[List.getLast?_eq_getElem?]at O;have Z:=(bp.mp O).1;obtain⟨v,e1,e2⟩:=getL J O;rw[<-H]at e1;have M:c.Vs xs.dropLast (U.eraseIdxIfInBounds (U.size-1)).toList:=by rw[ZJ,dif_pos (by rw[H];exact Z),ZK,<-mB,List.eraseIdx_eq_dropLast (by rw[mB,H];exact rT (dM (bQ _) Z)),BO,BO,J.length];exact J.take _
 exact LD Z7 ⟨_,C,rfl⟩ PySem.F.entry_list_pop (PySem.F.args_list_pop_1 _) (ak0 p.1 U n v e1 (by rw[H];exact jH (cA (bL h)))) ⟨C,tY S (fy.mp (bR h)) (fun xs=>xs.eraseIdxIfInBounds (U.size-1)) r u C M fun z L m=>k z v L m (e2.ext L)⟩
theorem Vt(S:HR X σ c)(Z:σ[i]?=D (.list xs))(e:qD m i xs σ as=D (d,U))(J:c.ak (.ref i) a)(H:c.Vs as vs)(k:PV X c U d Q):m<3/\wpAny (model X.prog X.w) A (call (.builtin (AV m)) (a::vs)) Q E c.s:=by
 rcases m with _|_|_|m;.refine cps fun P C=>?_;obtain⟨x,b,rfl,O,e⟩:=wP H e;refine C ?_;obtain⟨h,e⟩:=cc e;cases e;exact⟨by decide,Vn S Z J O h k⟩
 .obtain⟨x,b,rfl,O,e⟩:=wP H e;induction x using aa.casesOn with
|ref j=>
  change(match σ[j]? with|some (.list ys)=>if(decide (xs.length+ys.length<av)&&i !=j&&i !=0)=Y then D (aa.none,σ.set i (.list (xs++ys)))else I|_=>I)=_ at e;rcases q:σ[j]? with _|o;.rw[q]at e;exact nS e
  rw[q]at e;induction o using AO.casesOn with|list ys=>obtain⟨h,e⟩:=cc e;cases e;exact⟨by decide,Vp S Z q J O h k⟩|_=>exact nS e
 |_=>exact nS e
 .induction H using F2.casesOn with|cons=>exact nS e|nil=>
  change(match xs.getLast? with|some v=>if(decide (xs.length<av)&&i !=0)=Y then D (v,σ.set i (.list xs.dropLast))else I|none=>I)=_ at e;rcases q:xs.getLast? with _|z;.rw[q]at e;exact nS e
  rw[q]at e;obtain⟨h,e⟩:=cc e;cases e;exact⟨by decide,Vq S Z J q h k⟩
 .exact nS e
theorem Vu(r:A.units+50<cLine)(T:oM X)(S:HR X σ c)(L:σ[i]?=D (.dict es))(e:uN m es σ as=D (d,U))(K:c.ak (.ref i) a)(u:c.Vs as vs)(k:PV X c U d Q):m=3/\wpAny (model X.prog X.w) A (call (.builtin (AV m)) (a::vs)) Q E c.s:=by
 rcases m with _|_|_|_|m;.exact nS e
 .exact nS e
 .exact nS e
 .refine⟨rfl,?_⟩;induction u using F2.casesOn with|nil=>exact nS e|cons g J=>induction J using F2.casesOn with
|nil=>
  obtain⟨Z,e⟩:=cc e;cases e;clear e;obtain⟨j,rfl,H⟩:=AL (bL Z) (bR Z);refine cps fun P O=>?_;obtain⟨p,xs,⟨C,rfl,_⟩,g1,g2⟩:=wM S L K H;refine O ?_;refine VR.iE g fun _=>?_;refine Z8 LB g2.typeIs Z9 (PySem.F.args_dict_get_2 _ _) (meets_dict_get (ik X) p.1 (k:=j) (aN rfl) (S.tT T.rH C)) ⟨_,g2.mapOf,?_⟩;rcases Ir.at (j:=j) g1 with⟨e1,e2⟩|⟨f,v,e1,e2,e3⟩;.rw[e1]at k;rw[e2];exact k.here S .none _
  .rw[e1]at k;rw[e2];exact k.here S e3 _|cons M J=>induction J using F2.casesOn with|cons=>exact nS e|nil=>
  obtain⟨Z,e⟩:=cc e;cases e;clear e;obtain⟨l,rfl,y,H⟩:=tU (bL Z) (bR Z);refine cps fun P O=>?_;obtain⟨p,xs,⟨C,rfl,_⟩,g1,g2⟩:=tV S L K H;obtain⟨z,rfl,g4,_⟩:=tW S y g;refine O ?_;refine Z8 LB g2.typeIs Z9 (PySem.F.args_dict_get_3 _ _ _) (meetsH_dict_get_default (dk X) p.1 z (S.tT T.rH C) _) ⟨show A.units+1+10<cLine by exact aC 0x150c841a0021ab8b400001 rfl r,l,xs,g4,g2,?_⟩;rcases Hr.at (l:=l) g1 with⟨e1,e2⟩|⟨f,v,e1,e2,e3⟩;.rw[e1]at k;rw[e2];exact k.here S M _
  .rw[e1]at k;rw[e2];exact k.here S e3 _
 .exact nS e
end
end
section
open PySem.W PySem.Calls PyProof.Rows
section
theorem Vv(S:HR X σ c)(he:σ[i]?=D (.list xs))(h:(decide (0<=j)&&small j&&decide (j.toNat<xs.length)&&decide (xs.length<av)&&i !=0)=Y)(ha:c.ak (.ref i) a)(hb:c.ak (.int j) b)(hv:c.ak d v)(k:PU X c (σ.set i (.list (xs.set j.toNat d))) (Q ())):wpAny (model X.prog X.w) A (setItem a b v) Q E c.s:=by
 obtain⟨p,us,n,hp,rfl,h2,ho,hr⟩:=jI S he ha;refine VR.iE hb fun t=>?_;have h0:0<=j:=cA (bL (bL (bL (bL h))));have s2:=(tS (bR (bL (bL (bL h))))).2.1;have hl:c.s.heap.IsList p.1 us:=⟨_,ho,rfl,n,rfl⟩;unfold setItem;try with_reducible refine mA ?_
 first|refine aA (aX ?_)|skip
 refine aA (ZX hl.typeIs (by decide) ?_);refine aA (ZY (name:=Kx "__setitem__") hl.typeIs a' (sd a' hl.typeIs entry_list_setitem ?_ (args_list_setitem _ _ _)));show wpAny _ _ (a? (.int j t)>>=_) _ _ _;refine aA (wpAny_listSubscript_int (fitsIndex_of h0 s2) ?_);clear s2;obtain⟨q,rfl⟩:=ZR h0;have hq:q<us.size:=by rw[fJ hr];exact(cA (bR (bL (bL h))))
 show wpAny _ _ ((seqItemAt p.1 q>>=fun r=>pure (r.map (q,·)))>>=_) _ _ _;refine aA (aA (wpAny_seqItemAt ho rfl (aX ?_)));rw[show us[q]?=D us[q]from Array.getElem?_eq_getElem hq];show wpAny _ _ (setSeqItemAt p.1 q v>>=_) _ _ _;have fp:∀{t},Q () {c.s with heap:=c.s.heap.update p.1 (LC (·.setIfInBounds q v)),toks:=t}:=fun{t}=>tY S (fy.mp (bR h)) (·.setIfInBounds q v) hp h2 ho (l:=xs.set q d) (by rw[Array.toList_setIfInBounds];exact F2.set hv hr q) k;refine aA (wpAny_setSeqItemAt ho rfl ?_);first|exact aA (aX (aX ⟨.none,rfl,aX fp⟩))|exact aX ⟨.none,rfl,aX fp⟩
noncomputable def wQ(Z U X:Int)(i:Nat):Bool:=if X>0 then Z<=i&&i<U&&(i-Z)%X==0 else U<i&&i<=Z&&(Z-i)%(-X)==0
theorem Vw(l:List Z)(p:Nat):(l.zipIdx.filterMap fun(x,k)=>if wQ (p:Int) (l.length:Int) 1 k then I else D x)=l.take p:=by
 have key:∀(l:List Z)(n N:Nat),n+l.length=N->((l.zipIdx n).filterMap fun(x,k)=>if wQ (p:Int) (N:Int) 1 k then I else D x)=l.take (p-n):=by intro l;induction l with|nil=>exact fun n N h=>xy.symm|cons a r X=>
  intro n N h;rw[iD]at h;have e:wQ (p:Int) (N:Int) 1 n=decide (p<=n):=by show((decide ((p:Int)<=n)&&decide ((n:Int)<N))&&((n:Int)-p)%1==0)=_;rw[Int.emod_one,aN (show(n:Int)<N by exact da 0xa96c0a0022ad009 rfl h),lh];exact(lh _).trans (iF.mpr nA)
  rw[List.zipIdx_cons,Lr];dsimp only;rw[e,X (n+1) N (da 0xb16a0a0022b54b400002 rfl h)];by_cases z:p<=n;.rw[aN z,af rfl,xA z,xA (lj z)];rfl
  .rw[bS z,am oS,mJ (YG z)];rfl
 exact key l 0 l.length (gj _)
theorem Vx(S:HR X σ c)(he:σ[i]?=D (.list xs))(h:(decide (0<=j)&&small j&&decide (xs.length<av)&&i !=0)=Y)(ha:c.ak (.ref i) a)(hb:c.ak (.int j) vl)(hs:c.s.heap.IsSliceOf sl vl .none .none)(k:PU X c (σ.set i (.list (xs.take j.toNat))) (Q ())):wpAny (model X.prog X.w) A (delItem a (.ref sl)) Q E c.s:=by refine cps fun P hP=>?_;obtain⟨p,us,n,hp,rfl,h2,ho,hr⟩:=jI S he ha;refine hP ?_;cases hb with|@int _ t=>
 have hz:=jH (cA (bR (bL h)));have hl:c.s.heap.IsList p.1 us:=⟨_,ho,rfl,n,rfl⟩;refine cps fun P hP=>?_;obtain⟨os,ng,tX,qb⟩:=id hs;refine hP ?_;have Jj:c.s.TypeIs (.ref sl) "slice":=⟨os,ng,tX⟩;have s1:=fJ hr;refine ZF hl.typeIs (by decide) b? (sd b? hl.typeIs PySem.F.entry_list_delitem ?_ (PySem.F.args_list_delitem_2 _ _));show wpAny _ _ (a? (.ref sl)>>=_) _ _ _;refine aA ?_;unfold Builtin.List.listSubscript?;refine aA (Ld Jj slice_no_index ?_);rw[af (by rfl)];refine aX ?_;show wpAny _ _ (typeOf (.ref sl)>>=_) _ _ _;refine aA (Lv Jj ?_);rw[am (by decide)];rw[listSliceParts_eq];refine aA (aA (uB ng qb (x:=.none) rfl (aA (LF .none ?_))));rw[am (by exact oS)];refine aA (uB ng qb (x:=.int j t) rfl (aA (LF (.int j t) ?_)));refine aA (uB ng qb (x:=.none) rfl (aA (LF .none (aX ?_))));refine aA (m:=al0 (.ref p.1)) ?_;unfold Builtin.List.listItems;refine aA (Le ho rfl (aX ?_));refine aA (wpAny_of_eq (sliceIndices_raw (D j) I I us.size (by simp)) ?_);rw[(IX (p:=min j.toNat us.size) (q:=us.size) (lo:=D j) (hi:=I) (am (ig.mpr (cA (bL (bL (bL h)))))).symm rfl).1];dsimp only;refine aA (wpAny_rule (aA ?_));refine listUpdate_at ho rfl ?_ (by rw[s1];exact hz) ?_
 .refine aA (wpAny_letGo (aX ⟨_,rfl,tY S (fy.mp (bR h)) (fun xs=>(xs.toList.zipIdx.filterMap fun(x,k)=>if wQ ((min j.toNat us.size:Nat):Int) (us.size:Int) 1 k then I else D x).toArray) hp h2 ho (l:=xs.take j.toNat) ?_ k⟩));show c.Vs _ (us.toList.zipIdx.filterMap _).toArray.toList;have e:=Vw us.toList (min j.toNat us.size);rw[mB]at e;rw[e];have:us.toList.take (min j.toNat us.size)=us.toList.take j.toNat:=by rw[mB.symm,c?.symm,rX]
  rw[this];exact F2.take hr _
 .rw[Lw];exact bj (ZZ _ _) (by rw[List.length_zipIdx,mB,s1];exact lj hz)
end
structure tZ(X:Wx):Prop where
mH:∀g x d,X.N.gn g=D x->WD.mH g=D d->∃v,nsIn X.K jr x=D (D v)/\VR (fun a=>X.K.lookup a) [] d v
fn:∀f x,X.N.fn f=D x->nsIn X.K jr x=D (D (.ref (X.kZ f)))/\keepIn X.K (.ref (X.kZ f))=Y
cn:∀c x,X.N.cn c=D x->nsIn X.K jr x=D (D (.ref (X.gc c)))/\keepIn X.K (.ref (X.gc c))=Y
bi:∀b,nsIn X.K jr (tN b)=D I/\nsIn X.K qo (tN b)=D (D (AS b))gq:nsIn X.K jr "range"=D I/\nsIn X.K qo "range"=D (D (.type "range"))aR:∀k,k<4->X.N.nm k=D (nh k)Jk:∀c k f,WD.nZ c k=D f->keepIn X.K (.ref (X.kZ f))=Y
Jl:∀c i,WD.uO c=D i->makesIn X.K (X.gc c)=Y/\(match i with|some f=>findIn X.K (.ref (X.gc c)) "__init__"=D (D (.ref (X.kZ f)))/\typeIn X.K (.ref (X.kZ f))=D (.type "function")|none=>findIn X.K (.ref (X.gc c)) "__init__"=D (D (.builtin "object.__init__")))
structure Bx where
X:Wx
C:jt
aa:Nat
U:Nat
noncomputable abbrev Bx.M(B:Bx):Model:=model B.X.prog B.X.w
def Rc(B:Bx)(A:mw):Prop:=A.handled=I/\A.depth+B.aa<=d?/\A.units+B.U<=cLine
def Rm(B:Bx)(A:mw):Prop:=A.handled=I/\A.depth+B.aa+5<=d?/\A.units+B.U+60<=cLine
theorem Rm.u(r:Rm B A):A.units+50<cLine:=by have:=r.2.2;exact da 0xa87820da80004150c841a0001 rfl this
theorem Rm.c(r:Rm B A):Rc B A:=⟨r.1,by have:=r.2.1;exact da 0x2c9ad000082d5a0000 rfl this,by have:=r.2.2;exact da 0x160f041ad000082d5a0000 rfl this⟩
def nj(Q:aH->cJ->Prop)(r:Result)(s':cJ):Prop:=match r with|.ok (.ret v)=>Q v s'|_=>False
def wR(B:Bx):Prop:=∀{f vs σ k},B.C f vs σ k->∀{A:mw}{y:Cf}{Z:List aH}{Q:aH->cJ->Prop},Rc B A->HR B.X σ y->y.Vs vs Z->k4 B.X y k Q->codeAny B.M A (.call (.ref (B.X.kZ f)) ⟨Z,[]⟩) (nj Q) y.s
theorem nj.call(h:codeAny M A (.call f ⟨Z,[]⟩) (nj Q) s):wpAny M A (call f Z) Q E s:=wpAny_call (e? h fun r s' z=>by rcases r with e|(v|_|_|_)<;>first|exact z|exact z.elim)
structure fc(B:Bx):Prop where
t1:tZ B.X
t2:oM B.X
call:wR B
st:∀{f vs σ k},B.C f vs σ k->∃d au,k d au
structure LR(c:Cn)(env:mE)(lc:Lc)(y:Cf):Prop where
scope:env.scope=c.scope
fn:c.scope.kind=.function
ai:env.globals=jr
blt:env.builtins=qo
len:lc.length=c.names.length
nodup:(c.names.filterMap id).Nodup
out:cq y env.locals
ns:∃mL,y.s.heap.Ns env.locals mL/\∀(i:Nat)x d,c.names[i]?=D (D x)->c.kd x=D .local->lc[i]?=D (D d)->∃v,mL x=D v/\y.ak d v
cell:∀x,c.kd x=D .cell->∃a,env.cells.lookup x=D a/\(cq y a/\a≠env.locals)/\∃q,y.s.heap.IsCell a q/\∀(i:Nat)d,c.names[i]?=D (D x)->lc[i]?=D (D d)->∃v,q=D v/\y.ak d v
apart:∀x y a,env.cells.lookup x=D a->env.cells.lookup y=D a->x=y
def wU(c:Cn)(env:mE)(x:bh)(a:bu):Prop:=(c.kd x=D .local/\a=env.locals)\/(c.kd x=D .cell/\env.cells.lookup x=D a)
def gh(c:Cn)(env:mE)(a:bu):Prop:=a=env.locals\/∃x,c.kd x=D .cell/\env.cells.lookup x=D a
section
variable{B:Bx}{c:Cn}
theorem LR.go(L:LR c env lc y)(Q:∀{d v},y.ak d v->z.ak d v)(X:∀{a o},gh c env a->cq y a->y.s.heap.get? a=D o->cq z a/\z.s.heap.get? a=D o):LR c env lc z:={L with
out:=(by obtain⟨_,⟨o,es,O,Z,r⟩,_⟩:=L.ns;exact(X (.inl rfl) L.out Z).1)
ns:=(by obtain⟨M,⟨o,es,O,Z,r⟩,U⟩:=L.ns;exact⟨M,⟨o,es,O,(X (.inl rfl) L.out Z).2,r⟩,fun i x d J H K=>(U i x d J H K).imp fun v q=>⟨q.1,Q q.2⟩⟩)
cell:=fun x E=>(by obtain⟨a,C,⟨T,A⟩,q,⟨o,Z,g⟩,U⟩:=L.cell x E;have n:=X (.inr ⟨x,E,C⟩) T Z;exact⟨a,C,⟨n.1,A⟩,q,⟨o,n.2,g⟩,fun i d J H=>(U i d J H).imp fun v q=>⟨q.1,Q q.2⟩⟩)}
theorem LR.ext(L:LR c env lc y)(x:bZ y z):LR c env lc z:=L.go (fun h=>h.ext x) fun _ T Z=>T.ext x Z id
theorem LR.iA(L:LR c env lc y)(Z:¬gh c env a)(X:∀b o,b≠a->y.s.heap.get? b=D o->h'.get? b=D o):LR c env lc (y.hp h' t):=L.go id fun U T J=>⟨T,X _ _ (fun z=>Z (z▸U)) J⟩
theorem wU.aQ(h:wU c env x a):gh c env a:=h.elim (fun h=>.inl h.2) fun h=>.inr ⟨x,h⟩
theorem LR.AW(L:LR c env lc y)(X:gh c env a):cq y a/\∃o,y.s.heap.get? a=D o/\((∃es U,o.data=.dict es U)\/∃q,o.data=.cell q):=by
 rcases X with rfl|⟨x,Q,O⟩;.refine cps fun P J=>?_;obtain⟨d,⟨o,es,U,X,E,r⟩,_⟩:=L.ns;refine J ?_;exact⟨L.out,o,X,.inl ⟨es,U,E⟩⟩
 .refine cps fun P J=>?_;obtain⟨b,C,M,q,⟨o,K,A⟩,_⟩:=L.cell x Q;refine J ?_;cases O.symm.trans C;exact⟨M.1,o,K,.inr ⟨q,A⟩⟩
theorem LR.iS{o:iG}(L:LR c env lc y)(e:y.s.heap.get? a=D o)(X:∀es Z,o.data≠.dict es Z)(U:∀q,o.data≠.cell q):¬gh c env a:=fun J=>by
 obtain⟨_,o',H,Q⟩:=L.AW J;cases e.symm.trans H;rcases Q with⟨es,Z,h⟩|⟨q,h⟩;.exact X _ _ h
 .exact U _ h
theorem Jm(h:c.rB x=Y):c.kd x=D .local\/c.kd x=D .cell:=(rW.mp h).imp aV.mp aV.mp
theorem Jn(L:LR c env lc y)(U:c.var i x=Y)(J:lc[i]?=D (D d))(k:∀v,y.ak d v->Q v y.s):wpAny B.M A (loadName env x) Q E y.s:=by
 have H:=aV.mp (bL U);have O:env.scope.kind=.function:=by rw[L.scope];exact L.fn
 rcases Jm (bL (bR U))with Z|Z;.obtain⟨r,C,X⟩:=L.ns;obtain⟨v,a,b⟩:=X i x d H Z J;exact wpAny_loadName_local O (by show env.scope.names.lookup x=_;rw[L.scope];exact Z) C a (k v b)
 .refine cps fun P K=>?_;obtain⟨a,g,_,q,j,X⟩:=L.cell x Z;obtain⟨v,rfl,b⟩:=X i d H J;refine K ?_;exact wpAny_loadName_cell O (by show env.scope.names.lookup x=_;rw[L.scope];exact Z) g j (k v b)
theorem t4(L:LR c env lc y)(S:HR B.X σ y)(U:c.rC x=Y)(Z:nsIn B.X.K jr x=D (D v)\/(nsIn B.X.K jr x=D I/\nsIn B.X.K qo x=D (D v)))(h:Q v y.s):wpAny B.M A (eval (.Name x pos) env) Q E y.s:=by
 refine Name_function_global (by rw[L.scope];exact L.fn) (by show env.scope.names.lookup x=_;rw[L.scope];exact aV.mp (bL U)) ?_ (gW (bR U));unfold loadGlobal;rw[L.ai,L.blt];rcases Z with Z|⟨Z,J⟩;.exact aA ((LG S.hX Z).here (aX h))
 .exact aA ((LG S.hX Z).here (aA ((LG S.hX J).here (aX h))))
theorem Vy:∀{l:List (Option bh)}{i j:Nat},(l.filterMap id).Nodup->l[i]?=D (D x)->l[j]?=D (D x)->i=j:=by intro l;induction l with|nil=>intro i j _ h _;exact nS h|cons o r H=>
intro i j U Z X;have Q:(r.filterMap id).Nodup:=by induction o using cN with|none=>exact U|some y=>exact(fh.mp U).2
have J:o=D x->∀{k:Nat},r[k]?≠D (D x):=fun e k q=>by clear Z X;subst e;exact(fh.mp U).1 (List.mem_filterMap.mpr ⟨D x,jQ q,rfl⟩)
rcases i with _|i;.induction j using nM with|zero=>rfl|succ j=>exact ae X (J (b9 Z))
induction j using nM with|zero=>exact ae Z (J (b9 X))|succ j=>exact aI (·+1) (H Q Z X)
theorem wV(L:LR c env lc y)(S:HR B.X σ y)(f:c.var i x=Y)(hi:i<lc.length)(hd:y.ak d v)(k:∀a h' t',wU c env x a->(∀b o,b≠a->y.s.heap.get? b=D o->h'.get? b=D o)->LR c env (lc.set i (D d)) (y.hp h' t')->HR B.X σ (y.hp h' t')->Q () {y.s with heap:=h',toks:=t'}):wpAny B.M A (storeName env x v) Q E y.s:=by
 have t:=aV.mp (bL f);have hk:env.scope.kind=.function:=by rw[L.scope];exact L.fn
 have O:∀(j:Nat)U,c.names[j]?=D (D x)->(lc.set i (D d))[j]?=D (D U)->U=d:=fun j U e1 e2=>by cases Vy L.nodup t e1;rw[ul hi]at e2;cases e2;rfl
 have Z:∀(j:Nat)y U,y≠x->c.names[j]?=D (D y)->(lc.set i (D d))[j]?=D (D U)->lc[j]?=D (D U):=fun j y U hy e1 e2=>by rwa[rU fun z=>hy (b9 (b9 ((z▸e1).symm.trans t)))]at e2
 rcases Jm (bL (bR f))with K|K
 .obtain⟨mL,hn,hr⟩:=L.ns;refine wpAny_storeName_local (by show env.scope.names.lookup x=_;rw[L.scope];exact K) hn (fun h' g hs=>?_) (by rw[hk];rfl);have J:∀b o,b≠env.locals->y.s.heap.get? b=D o->h'.get? b=D o:=fun b o nb e=>(hs.2 b nb).trans e;refine k env.locals h' _ (.inl ⟨K,rfl⟩) J {L with len:=by rw[oX];exact L.len,ns:=⟨_,g,fun j w U e1 e2 e3=>?_⟩,cell:=fun w hw=>?_} (S.iA L.out J)
  .by_cases H:w=x;.clear f k t Z K g;subst H;rw[O j U e1 e3];exact⟨v,af rfl,hd⟩
   .obtain⟨u,a1,a2⟩:=hr j w U e1 e2 (Z j w U H e1 e3);exact⟨u,(am H).trans a1,a2⟩
  .refine cps fun P n=>?_;obtain⟨b,hb,l,q,⟨o,h,m⟩,C⟩:=L.cell w hw;refine n ?_;exact⟨b,hb,l,q,⟨o,J _ _ l.2 h,m⟩,fun j U e1 e3=>C j U e1 (Z j w U (fun z=>by clear f k t O Z g;subst z;cases K.symm.trans hw) e1 e3)⟩
 .obtain⟨a,ha,l,q,hc,hr⟩:=L.cell x K;refine wpAny_storeName_cell hk (by show env.scope.names.lookup x=_;rw[L.scope];exact K) ha hc fun h' Vz hs=>?_;have J:∀b o,b≠a->y.s.heap.get? b=D o->h'.get? b=D o:=fun b o nb e=>(hs.2 b nb).trans e;refine k a h' y.s.toks (.inr ⟨K,ha⟩) J {L with len:=by rw[oX];exact L.len,ns:=?_,cell:=fun w hw=>?_} (S.iA l.1 J);.refine cps fun P n=>?_;obtain⟨mL,⟨o,es,ep,h,r⟩,C⟩:=L.ns;refine n ?_;exact⟨mL,⟨o,es,ep,J _ _ (g8 l.2) h,r⟩,fun j w U e1 e2 e3=>C j w U e1 e2 (Z j w U (fun z=>by clear f k t O Z ha hr;subst z;cases K.symm.trans e2) e1 e3)⟩
  .by_cases H:w=x;.clear f k t Z K hr;subst H;exact⟨a,ha,l,D v,Vz,fun j U e1 e3=>⟨v,rfl,by rw[O j U e1 e3];exact hd⟩⟩
   .refine cps fun P n=>?_;obtain⟨b,hb,VA,q',⟨o,h,m⟩,C⟩:=L.cell w hw;refine n ?_;exact⟨b,hb,VA,q',⟨o,J _ _ (fun z=>H (L.apart w x a (z▸hb) ha)) h,m⟩,fun j U e1 e3=>C j U e1 (Z j w U H e1 e3)⟩
end
end
section
open PySem.W PySem.Calls PyProof.Rows
structure Si(B:Bx)(A:mw)(c:Cn)(env:mE)(lc:Lc)(σ:AH)(y:Cf):Prop where
R:Rm B A
L:LR c env lc y
S:HR B.X σ y
section
variable(X:Wx)(y:Cf)
abbrev AX(k:Bool->AH->Prop)(Q:Bool->cJ->Prop):Prop:=∀b σ z,k b σ->bZ y z->HR X σ z->Q b z.s
abbrev VB(n:Nat)(k:List aa->AH->Prop)(Q:List aH->cJ->Prop):Prop:=∀Z σ z vs,k Z σ->bZ y z->HR X σ z->z.Vs Z vs->vs.length=n->Q vs z.s
end
section
variable(B:Bx)
abbrev bG(e:Ex):Prop:=∀{c x},bJ B.X.N e c x=Y->∀{A E env lc σ y k Q},wE WD B.C e lc σ k->Si B A c env lc σ y->k4 B.X y k Q->wpAny B.M A (eval x env) Q E y.s
abbrev k6(es:Es):Prop:=∀{c l},kY B.X.N es c l=Y->∀{pos A E env lc σ y k Q},lH WD B.C es lc σ k->Si B A c env lc σ y->VB B.X y l.length k Q->wpAny B.M A (spliced (backTo pos (starEach l env))) Q E y.s
abbrev hY(t:Te):Prop:=∀{c x},jj B.X.N t c x=Y->∀{A E env w lc σ y k Q},wT WD B.C t lc σ k->Si B A c env lc σ y->(aG 1 x=aj->aG 22 x=aj->w=eval x env)->AX B.X y k Q->wpAny B.M A (isTrue x env w) Q E y.s
end
section
variable{B:Bx}{y z:Cf}
theorem fw(h:aG n x=Y)(k:wpAny M A (eval (oF n x) env) Q E s):wpAny M A (eval x env) Q E s:=Iz (P:=fun x=>wpAny M A (eval x env) Q E s) h k
theorem wW(h:aG n x=Y)(k:wpAny M A (isTrue (oF n x) env w) Q E s):wpAny M A (isTrue x env w) Q E s:=Iz (P:=fun x=>wpAny M A (isTrue x env w) Q E s) h k
theorem Si.ext(Z:Si B A c env lc σ y)(x:bZ y z)(S:HR B.X U z):Si B A c env lc U z:=⟨Z.R,Z.L.ext x,S⟩
theorem VC:bG B (.lit d):=fun{c x}m{A E env lc σ y k Q}h Z kk=>by refine fw (bL m) ?_;have kk:∀{v t},y.ak d v->Q v {y.s with toks:=t}:=fun U=>kk d σ _ _ h .tk Z.S.tk U;show wpAny _ A (eval (.Constant (wu x) (kE x) (bP x)) env) Q E y.s;rw[cA (bL (bR m))];induction d using aa.casesOn with|none=>exact f? (kk .none)|bool=>exact wpAny_Constant_bool (kk .bool)|int=>exact wpAny_Constant_int (kk .int)|str=>exact wpAny_Constant_str (kk .str)|_=>exact nB (bR (bR m))
theorem wX{o:Option (Option aa)}{p:aa->Prop}(h:gL o p):∃d,o=D (D d)/\p d:=by
 rcases o with _|_|d;.exact h.elim
 .exact h.elim
 .exact⟨d,rfl,h⟩
theorem VD:bG B (.var i):=fun{c x}m{A E env lc σ y k Q}h Z kk=>by refine fw (bL m) ?_;obtain⟨d,U,h⟩:=wX h;exact wpAny_Name (Jn Z.L (bR m) U fun v J=>kk d σ y v h .refl Z.S J) (gW (bR (bR (bR m))))
theorem VR.VE(S:HR X σ y)(Z:VR (fun a=>X.K.lookup a) [] d v):y.ak d v:=Z.aq (G:=fun a=>X.K.lookup a) (m:=[]) S.base (fun i p e=>nS e)
theorem VF(T:tZ B.X):bG B (.ai g):=fun{c x}m{A E env lc σ y k Q}h Z kk=>by refine fw (bL m) ?_;refine cps fun P U=>?_;obtain⟨d,J,h⟩:=gO.out h;obtain⟨v,H,O⟩:=T.mH g _ d (aV.mp (bR (bR m))) J;refine U ?_;exact t4 Z.L Z.S (bL (bR m)) (.inl H) (kk d σ y v h .refl Z.S (O.VE Z.S))
theorem Jo(h:Ay v=Y):attributeBase v a env t=t:=by induction v using gH with
|Call f as ks p=>induction ks using eQ with|nil=>exact nB h|cons=>induction f using gH with|Name=>cases as<;>rfl|_=>rfl
|_=>rfl
theorem VG(T:oM B.X)(U:bG B e):bG B (.ao e f):=fun{c x}m{A E env lc σ y k Q}h Z kk=>by refine fw (bL m) (Attribute_any_ ?_ (by rw[arm_eval_Attribute,Jo (bR (bR (bR m)))]));exact U (bL (bR m)) h Z fun M J z L H O S1 C=>(gO.out H).elim fun d q=>Jh T S1 q.1 (aV.mp (bL (bR (bR m)))) C (kk.at q.2 O)
def Jp(σ:AH)(d:aa):Prop:=match d with|.ab _=>True|.str _=>True|.ref i=>(∃xs,σ[i]?=D (.list xs))\/∃es,σ[i]?=D (.dict es)|.none=>False|.bool _=>False|.int _=>False
theorem AY(S:HR B.X σ y)(hv:y.ak d v)(hd:Jp σ d):uC B.M y.s.heap (LH v) false:=by
 have go:∀{T:String}{id:String},y.s.TypeIs v T->typeLookup (.type T) "__getitem__"=pure (D (.builtin id))->(∀{s:cJ},(∀a o,y.s.heap.get? a=D o->s.heap.get? a=D o)->s.TypeIs v T)->uC B.M y.s.heap (LH v) false:=fun _ hl hk=>by rw[getitemInPython_of_ne (by clear hd hk;cases hv<;>simp)];intro A Q E s kk q;exact aA (Ld (hk kk) hl (aX q))
 induction hv using VR.casesOn with
|ab ho hs=>exact go ⟨_,S.sub _ _ ho,rfl⟩ Lu.lookup fun kk=>⟨_,kk _ _ (S.sub _ _ ho),rfl⟩|str=>exact go (T:="str") rfl PySem.F.slot_str_getitem.lookup fun kk=>rfl|ref hp=>
  rcases hd with⟨xs,hx⟩|⟨es,hx⟩;.cases S.cells _ _ _ hp hx with|list h2 ho hv=>exact go ⟨_,ho,rfl⟩ slot_list_getitem.lookup fun kk=>⟨_,kk _ _ ho,rfl⟩
  .cases S.cells _ _ _ hp hx with|dict h2 nd ho hc hd hv=>exact go ⟨_,ho,hc.1⟩ slot_dict_getitem.lookup fun kk=>⟨_,kk _ _ ho,hc.1⟩
 |_=>exact hd.elim
theorem VH(e:cZ σ x i=D d):Jp σ x:=by induction x using aa.casesOn with
|ab=>trivial|str=>trivial|ref j=>
 change(match σ[j]? with|some (.list xs)=>(match i with|.int k=>lD xs k|_=>I)|some (.dict es)=>if(dd es i&&ci i==2)=Y then ca es i else I|_=>I)=_ at e;rcases q:σ[j]? with _|o;.exact nS (q▸e)
 rw[q]at e;induction o using AO.casesOn with|list xs=>exact .inl ⟨xs,q⟩|dict es=>exact .inr ⟨es,q⟩|_=>exact nS e
|_=>exact nS e
theorem AZ(J:subscripted H aj Z U=operate [a,b] (getItem Z U))(L:uC B.M y.s.heap (LH Z) aj)(h:wpAny B.M A (getItem Z U) Q E y.s):wpAny B.M A (g' C H Z U) Q E y.s:=by unfold subscriptTail;refine aA (L.here ?_);rw[J];exact aA (wpAny_operating (lr h (fun r s' O=>aA (wpAny_letTemporaryGo (aX O))) fun _ _ z=>z))
theorem VI(h:aG 18 Z=aj):subscripted Z aj a b=operate [a,b] (getItem a b):=by induction Z using gH with
|Slice l u U p=>induction U using cN with|none=>cases h|some=>rfl
|_=>rfl
theorem VJ(C:bG B a)(hi:bG B i):bG B (.ad a i):=fun{c x}m{A E env lc σ y k Q}h Z kk=>by refine fw (bL m) (Subscript_ ?_);exact C (bL (bR m)) h Z fun r M z w L J S1 H=>hi (bL (bR (bR m))) L (Z.ext J S1) fun v K u f g U O j=>(gO.out g).elim fun d q=>AZ (VI (gW (bR (bR (bR m))))) (AY O (H.ext U) (VH q.1)) (UV Z.R.u O q.1 (H.ext U) j (kk.at q.2 (J.trans U)))
theorem Jq{o:Option cP}(U:bG B e)(m:wB (bJ B.X.N e c) (isNone e) o=Y)(h:wE WD B.C e lc σ k)(Z:Si B A c env lc σ y)(kk:k4 B.X y k Q):wpAny B.M A (evalPart o env) Q E y.s:=by
 rcases o with _|l;.induction e using Ex.casesOn with|lit d=>clear U;cases cA m;exact aX (kk _ _ _ _ h .refl Z.S .none)|_=>exact nB m
 exact U m h Z kk
noncomputable abbrev t8(v w:aH):Obj:={cls:=.type "slice",data:=.fields #[v,w,.none]}
theorem VK{a lo hi:Ex}(ha:bG B a)(hl:bG B lo)(hh:bG B hi):bG B (.hG a lo hi):=fun{c x}m{A E env lc σ y k Q}h Z kk=>by refine fw (bL m) (Subscript_ ?_);show wpAny _ A (eval (e1 x) env) (fun o C=>wpAny _ A (eval (e2 x) env) (fun i M=>wpAny _ A (g' (e1 x) (e2 x) o i) Q E M) E C) E y.s;refine ha (bL (bR (bR m))) h Z fun d1 bY z v1 h1 f S1 w1=>?_;have e:=fb (bL (bR m));rw[e];refine wpAny_Slice (Jq hl (bL (bR (bR (bR m)))) h1 (Z.ext f S1) fun H cz u L h2 t S2 w2=>Jq hh (bR (bR (bR (bR m)))) h2 ((Z.ext f S1).ext t S2) fun O U w v3 h3 b S3 w3=>aX ?_);refine cps fun P hP=>?_;obtain⟨d,jc,J,n⟩:=gP.out h3;refine hP ?_;have K:bZ w (w.hp (w.s.heap.push (t8 L v3)) w.s.toks):=.more fun a o e=>gp _ e;have g:HR B.X U (w.hp (w.s.heap.push (t8 L v3)) w.s.toks):=S3.more fun a o e=>gp _ e;have hs:(w.s.heap.push (t8 L v3)).IsSliceOf w.s.heap.objs.size L v3 .none:=⟨_,kw _ rfl,rfl,rfl⟩;have q:=kk.at n (((f.trans t).trans b).trans K);have v:=((w1.ext t).ext b).ext K;have u2:=(w2.ext b).ext K;have u3:=w3.ext K;induction d1 using aa.casesOn with
|ab l=>
 rcases e2:dT l H O with _|r;.change(match dT l H O with|some r=>D (aa.ab r,U)|none=>I)=_ at J;rw[e2]at J;exact nS J
 change(match dT l H O with|some r=>D (aa.ab r,U)|none=>I)=_ at J;rw[e2]at J;clear n;cases J;exact AZ (y:=w.hp _ w.s.toks) rfl (AY g v trivial) (UZ g e2 v u2 u3 hs q)|ref j=>
 change(match U[j]? with|some (.list xs)=>(match dT xs H O with|some r=>D (aa.ref U.length,U++[AO.list r])|none=>I)|_=>I)=_ at J;rcases e3:U[j]? with _|o;.rw[e3]at J;exact nS J
 rw[e3]at J;induction o using AO.casesOn with|list xs=>
 rcases e2:dT xs H O with _|r;.change(match dT xs H O with|some r=>D (aa.ref U.length,U++[AO.list r])|none=>I)=_ at J;rw[e2]at J;exact nS J
 change(match dT xs H O with|some r=>D (aa.ref U.length,U++[AO.list r])|none=>I)=_ at J;rw[e2]at J;clear n;cases J;exact AZ (y:=w.hp _ w.s.toks) rfl (AY g v (.inl ⟨xs,e3⟩)) (UX g e3 e2 v u2 u3 hs q)|_=>exact nS J
|_=>exact nS J
theorem VL(H:bG B a)(O:bG B b):bG B (.aK op a b):=fun{c x}m{A E env lc σ y k Q}h Z kk=>by refine fw (bL m) (wpAny_BinOp ?_);exact H (bL (bR (bR m))) h Z fun v C z f M U S1 L=>O (bR (bR (bR m))) M (Z.ext U S1) fun t K u s g J j r=>(gP.out g).elim fun d q=>q.elim fun w q=>by rw[cA (bL (bR m))];exact Uz j q.1 (L.ext J) r (kk.at q.2 (U.trans J))
theorem gi{p:Int->Prop}(h:jX d p):∃i,d=.int i/\p i:=by induction d using aa.casesOn with|int i=>exact⟨i,rfl,h⟩|_=>exact h.elim
theorem oN{p:Nat->Prop}(h:pe d p):∃i,d=.ref i/\p i:=by induction d using aa.casesOn with|ref i=>exact⟨i,rfl,h⟩|_=>exact h.elim
theorem VM(J:bG B a):bG B (.neg a):=fun{c x}m{A E env lc σ y k Q}h Z kk=>by refine fw (bL m) (LI ?_);exact J (bR m) h Z fun M H z L U O S1 C=>(gi U).elim fun i q=>by clear U;obtain⟨rfl,q⟩:=q;refine VR.iE C fun _=>?_;exact am0 ((kk.at q O).here S1 .int _)
theorem VN(J:bG B a):bG B (.nU a):=fun{c x}m{A E env lc σ y k Q}h Z kk=>by refine fw (bL m) (LI ?_);exact J (bR m) h Z fun M H z L U O S1 C=>(gi U).elim fun i q=>by clear U;obtain⟨rfl,q⟩:=q;refine VR.iE C fun _=>?_;exact an0 ((kk.at q O).here S1 .int _)
theorem wY{o:CmpOp}(h:aG 6 r=aj):LJ o r=false:=by cases r<;>first|rfl|cases h
theorem VO(H:bG B a)(O:bG B b):bG B (.ah op a b):=fun{c x}m{A E env lc σ y k Q}h Z kk=>by refine fw (bL m) (LK ?_ (wY (gW (bR (bR (bR (bR m)))))));exact H (bL (bR (bR m))) h Z fun w C z v M U S1 L=>O (bL (bR (bR (bR m)))) M (Z.ext U S1) fun f K u t g J j r=>(gO.out g).elim fun d q=>by rw[cA (bL (bR m))];exact AJ Z.R.u j q.1 (L.ext J) r (kk.at q.2 (U.trans J))
theorem VP{p:Bool}(U:bG B a):bG B (.dA p a):=fun{c x}m{A E env lc σ y k Q}h Z kk=>by refine fw (bL m) ?_;show wpAny _ A (eval (.Compare (e1 x) [o1 x] [e2 x] (bP x)) env) Q E y.s;rw[((fb (bL (bR (bR (bR m))))).trans (aI (fun q=>ao0 q (kE (e2 x)) (bP (e2 x))) (cA (bR (bR (bR (bR m)))))))];refine LK (U (bL (bR (bR m))) h Z fun M J z L H O S1 C=>f? ?_) rfl;rw[cA (bL (bR m))];exact U4 S1 C (kk.at H O)
theorem VQ(T:oM B.X){p:Bool}(M:bG B a)(L:bG B b):bG B (.aY p a b):=fun{c x}m{A E env lc σ y k Q}h Z kk=>by
 refine fw (bL m) (LK ?_ (wY (gW (bR (bR (bR (bR m)))))));exact M (bL (bR (bR m))) h Z fun w K z v g J S1 H=>L (bL (bR (bR (bR m)))) g (Z.ext J S1) fun f j u t r U O C=>(gO.out r).elim fun d q=>by
  rw[cA (bL (bR m))];rcases p with _|_;.exact U2 Z.R.u T.rH O q.1 (H.ext U) C (kk.at (by have h:=q.2;rw[beq_false]at h;exact h) (J.trans U))
  exact Jb Z.R.u T.rH O q.1 (H.ext U) C (kk.at (by have h:=q.2;rw[beq_true]at h;exact h) (J.trans U))
theorem VS(U:bG B a):bG B (.no a):=fun{c x}m{A E env lc σ y k Q}h Z kk=>by refine fw (bL m) (LI ?_);exact U (bR m) h Z fun K J z g H O S1 C=>(gO.out H).elim fun r q=>not_of (wK S1 q.1 C fun u M L=>kk _ _ _ _ q.2 (O.trans M) L .bool)
theorem Jr(J:bG B b)(m:bJ B.X.N b c (oG H x)=Y):∃U r,cM x=U::r/\∀{A E env lc σ y k Q},wE WD B.C b lc σ k->Si B A c env lc σ y->k4 B.X y k Q->wpAny B.M A (eval (.BoolOp H (cM x) (bP x)) env) Q E y.s:=by
 unfold oG at m;rcases q:cM x with _|⟨U,r⟩;.rw[q]at m;exact(AA m).elim
 rw[q]at m;rcases r with _|⟨_,_⟩;.exact⟨U,[],rfl,fun h Z kk=>BoolOp_one (J m h Z kk)⟩
 exact⟨U,_,rfl,fun h Z kk=>J m h Z kk⟩
theorem VV(M:bG B a)(U:bG B b):bG B (.and a b):=fun{c x}m{A E env lc σ y k Q}h Z kk=>by
 refine fw (bL m) ?_;show wpAny _ A (eval (.BoolOp .And (e1 x::cM x) (bP x)) env) Q E y.s;obtain⟨g,r,q,U⟩:=Jr U (bR (bR m));rw[q]at U⊢;refine BoolOp_and (M (bL (bR m)) h Z fun j L z d K H S1 O=>(gO.out K).elim fun t q=>wK S1 q.1 O fun u J C=>?_);rcases t with _|_;.exact kk _ _ _ _ q.2 (H.trans J) C (O.ext J)
 exact U q.2 ((Z.ext H S1).ext J C) (kk.ext (H.trans J))
theorem VW(M:bG B a)(U:bG B b):bG B (.or a b):=fun{c x}m{A E env lc σ y k Q}h Z kk=>by
 refine fw (bL m) ?_;show wpAny _ A (eval (.BoolOp .Or (e1 x::cM x) (bP x)) env) Q E y.s;obtain⟨g,r,q,U⟩:=Jr U (bR (bR m));rw[q]at U⊢;refine BoolOp_or (M (bL (bR m)) h Z fun j L z d K H S1 O=>(gO.out K).elim fun t q=>wK S1 q.1 O fun u J C=>?_);rcases t with _|_;.exact U q.2 ((Z.ext H S1).ext J C) (kk.ext (H.trans J))
 exact kk _ _ _ _ q.2 (H.trans J) C (O.ext J)
theorem VX(O:hY B t)(C:bG B a)(M:bG B b):bG B (.ite t a b):=fun{c x}m{A E env lc σ y k Q}h Z kk=>by
 refine fw (bL m) (wpAny_IfExp (O (bL (bR m)) h Z (fun _ _=>rfl) fun r L z H U S1=>?_));rcases r with _|_;.exact M (bR (bR (bR m))) H (Z.ext U S1) (kk.ext U)
 exact C (bL (bR (bR m))) H (Z.ext U S1) (kk.ext U)
theorem VY(h:wpAny M A (eval (.Compare l [op] [r] pos) env) (fun v oO=>wpAny M A (truthy v) Q E oO) E s)(hm:LJ op r=aj):wpAny M A (isTrue (.Compare l [op] [r] pos) env K?) Q E s:=fun oL p wO=>by have h:=h oL p wO;simp only[eval_Compare1,g? hm,Lx,h?,i?,j']at h;simp only[isTrue_Compare1,g? hm,Lx,h?,i?,j'];exact B1 M oL _ (fun a L? oO wZ=>B1 M oL _ (fun b _ t9 A0=>B1 M oL _ (fun c VZ rI w6=>w6 oL VZ wO) (fun _ _ _ h'=>h') _ _ A0) (fun _ _ _ h'=>h') _ _ wZ) (fun _ _ _ h'=>h') _ _ h
theorem V0(m:bJ N e c x=Y)(h:aG 9 x=Y):aG 6 (e2 x)=false:=by have Z:∀{n:Nat}{P:Prop},n≠9->aG n x=Y->P:=fun U J=>ae ((jK J).symm.trans (jK h)) U;induction e using Ex.casesOn with|ah=>exact gW (bR (bR (bR (bR m))))|aY=>exact gW (bR (bR (bR (bR m))))|dA=>exact aI (fun t=>cu t 6) (jK (bL (bR (bR (bR m)))))|iZ=>exact Z (by decide) m|il=>exact Z (by decide) m|_=>exact Z (by decide) (bL m)
theorem V1(O:aG 3 x=aj)(E:aG 1 x=aj)(Z:aG 22 x=aj)(J:aG 4 x=aj)(U:aG 19 x=aj)(H:∀b l p,x≠.BoolOp b l p)(Q:∀l o r p,x≠.Compare l o r p)(w:Sem aH):isTrue x env w=(do let v<-w;standAt x.pos;holding [v] (truthy v)):=by induction x using gH with
|UnaryOp o y pos=>clear E Z J U H Q;cases o<;>first|rfl|cases O
|BoolOp b l p=>exact ae rfl (H b l p)|IfExp=>cases J|Compare l o r p=>exact ae rfl (Q l o r p)|_=>rfl
theorem Js(m:bJ N e c x=Y):aG 0 x=false:=by
 have Z:∀{n:Nat},n≠0->aG n x=Y->aG 0 x=false:=fun{n}U J=>by rw[aG,jK J];induction n using nM with|zero=>exact ae rfl U|succ=>rfl
 induction e using Ex.casesOn with|iZ=>exact Z (by decide) m|il=>exact Z (by decide) m|_=>exact Z (by decide) (bL m)
theorem V2(a:bG B e):hY B (.ex e):=fun{c x}m{A E env w lc σ y k Q}h Z g kk=>by
 obtain⟨m,n⟩:bJ B.X.N e c x=Y/\_:=⟨bL m,gW (bR m)⟩;obtain⟨j,n⟩:=tO n;obtain⟨K,n⟩:=tO n;obtain⟨J,n⟩:=tO n;obtain⟨d,O⟩:=tO n;rw[g K J];have U:wpAny B.M A (eval x env) (fun v L=>wpAny B.M A (truthy v) Q E L) E y.s:=a m h Z fun d1 bY z v1 h1 x1 S1 w1=>(gO.out h1).elim fun t q=>wK S1 q.1 w1 fun u x2 S2=>kk _ _ _ q.2 (x1.trans x2) S2;by_cases H:aG 9 x=Y;.have s:=V0 m H;rw[fb H]at U⊢;exact VY U (wY s)
 .refine isTrue_plain U (V1 j K J d O (fun b l p e=>?_) (fun l o r p e=>?_) _)
  .have:=Js m;clear g m j n d O U H;subst e;rcases f:k9 1 l.length with _|_;.exact nB (this.symm.trans (show cu (c1 (k9 1 l.length) _) 0=Y by rw[f];rfl))
   induction b using BR with|And=>exact nB (K.symm.trans (show cu (c1 (k9 1 l.length) _) 1=Y by rw[f];rfl))|Or=>exact nB (J.symm.trans (show cu (c1 (k9 1 l.length) _) 22=Y by rw[f];rfl))
  .have:=Js m;clear g m j K J n d U;subst e;have H:cu (cond (fP o&&fP r) 9 (c1 (lY o&&lY r) 19)) 9≠true:=H;have C:cu (cond (fP o&&fP r) 9 (c1 (lY o&&lY r) 19)) 19=false:=O;have i:cu (cond (fP o&&fP r) 9 (c1 (lY o&&lY r) 19)) 0=false:=this;revert H C i;cases fP o&&fP r<;>cases lY o&&lY r<;>intro H C i<;>first|exact H rfl|exact nB C.symm|exact nB i.symm
theorem V4(U:hY B t):hY B (.no t):=fun{c x}m{A E env w lc σ y k Q}h Z C kk=>by refine wW (bL m) (isTrue_not ?_);exact U (bR m) h Z (fun _ _=>rfl) fun r J z H O S1=>kk _ _ _ H O S1
theorem Jt(J:hY B b)(m:jj B.X.N b c (oG H x)=Y):∀{A E env w lc σ y k Q},wT WD B.C b lc σ k->Si B A c env lc σ y->AX B.X y k Q->wpAny B.M A (isTrue (.BoolOp H (cM x) (bP x)) env w) Q E y.s:=by intro A E env w lc σ y k Q h Z kk;unfold oG at m;induction q:cM x using eQ with
|nil=>rw[q]at m;induction b using Te.casesOn with|ex e=>exact(AA (bL m)).elim|_=>exact nB (bL m)
|cons g r=>rw[q]at m;induction r using eQ with
|nil=>induction H using BR with|And=>exact isTrue_and (J m h Z (fun _ _=>rfl) fun r O z U L S1=>by have:=kk _ _ _ U L S1;induction r using xw with|true=>exact isTrue_and_nil this|false=>exact this)|Or=>exact isTrue_or (J m h Z (fun _ _=>rfl) fun r O z U L S1=>by have:=kk _ _ _ U L S1;induction r using xw with|true=>exact this|false=>exact isTrue_or_nil this)
|cons z r=>exact J m h Z (fun U K=>by induction H using BR with|And=>exact nB U.symm|Or=>exact nB K.symm) kk
theorem V5(H:hY B a)(O:hY B b):hY B (.and a b):=fun{c x}m{A E env w lc σ y k Q}h Z j kk=>by
 refine wW (bL m) (isTrue_and (H (bL (bR m)) h Z (fun _ _=>rfl) fun r C z J U S1=>?_));rcases r with _|_;.exact kk _ _ _ J U S1
 exact Jt O (bR (bR m)) J (Z.ext U S1) fun r M u L K g=>kk _ _ _ L (U.trans K) g
theorem V6(H:hY B a)(O:hY B b):hY B (.or a b):=fun{c x}m{A E env w lc σ y k Q}h Z j kk=>by
 refine wW (bL m) (isTrue_or (H (bL (bR m)) h Z (fun _ _=>rfl) fun r C z J U S1=>?_));rcases r with _|_;.exact Jt O (bR (bR m)) J (Z.ext U S1) fun r M u L K g=>kk _ _ _ L (U.trans K) g
 exact kk _ _ _ J U S1
theorem V7(q:bG B a)(e:bG B b)(n:bG B d):hY B (.gq a b d):=fun{c x}m{A E env w lc σ y k Q}h Z hw kk=>by
 refine wW (bL m) ?_;show wpAny B.M A (isTrue (.Compare (e1 x) [o1 x,o2 x] [e2 x,e3 x] (bP x)) env w) Q E y.s;have m:=bR m;rw[cA (bL m),cA (bL (bR m))];have m:=bR (bR m);refine isTrue_chain (q (bL m) h Z fun d1 bY z1 v1 r C S1 w1=>test_link ?_) (by show LJ .Lt (e3 x)=aj;exact wY (gW (bR (bR (bR m)))));refine e (bL (bR m)) r (Z.ext C S1) fun d2 cz z2 v2 U L S2 v=>?_;clear r;obtain⟨i,rfl,g2⟩:=gi U;refine cps fun P K=>?_;obtain⟨j,rfl,U⟩:=gi g2;refine K ?_;refine AJ (op:=.le) Z.R.u S2 rfl (w1.ext L) v fun z3 v3 g f w3=>?_;refine VR.bE w3 ?_;refine Lh ?_;have H:=(C.trans L).trans g;by_cases J:i<=j;.have U:br (decide (i<=j)) _ _:=U;rw[aN J]at U;rw[show kG .le i j=Y from aN J];refine test_last (n (bL (bR (bR m))) U ((Z.ext C S1).ext (L.trans g) f) fun d4 jc z4 v4 h4 t S4 w4=>?_);refine cps fun P K=>?_;obtain⟨l,rfl,h5⟩:=gi h4;refine K ?_;refine AJ (op:=.lt) Z.R.u S4 rfl ((v.ext g).ext t) w4 fun z5 v5 x5 S5 w5=>?_;refine VR.bE w5 ?_;exact Lh (kk _ _ _ h5 ((H.trans t).trans x5) S5)
 .have U:br (decide (i<=j)) _ _:=U;rw[bS J]at U;rw[show kG .le i j=aj from bS J];exact kk _ _ _ U H f
theorem Ju:k6 B .nil:=fun{c l}m{pos A E env lc σ y k Q}h Z kk=>by
 rcases l with _|⟨_,_⟩;.exact wpAny_items_nil (kk _ _ _ _ h .refl Z.S .nil rfl)
 exact nB m
theorem Jv(m:bJ N e c x=Y):starEach (x::rest) env=(aj,eval x env)::starEach rest env:=by cases x<;>first|rfl|exact(AA m).elim
theorem Jw(O:bG B e)(U:k6 B es):k6 B (.cons e es):=fun{c l}m{pos A E env lc σ y k Q}h Z kk=>by
 rcases l with _|⟨x,l⟩;.exact nB m
 exact wpAny_items_cons (O (bL m) h Z fun r C z w M J S1 L=>U (bR m) M (Z.ext J S1) fun v K u vs g H j d n=>kk _ _ _ _ g (J.trans H) j (.cons (L.ext H) d) (aI (·+1) n)) (Jv (bL m))
theorem A1:∀{es:Es}{l:List cP}{pos:Pos},kY B.X.N es c l=Y->(backTo pos (starEach l env)).any (·.1)=aj|.nil,[],_,_=>rfl|.nil,_::_,_,m=>nB m|.cons e es,[],_,m=>nB m|.cons e es,x::l,pos,m=>by rw[Jv (bL m)];exact A1 (pos:=pos) (bR m)
end
end
section
abbrev nq(K:jt):Prop:=∀{f vs σ k},K f vs σ k->∃d Z,k d Z
section
abbrev sE(K:jt)(e:Ex):Prop:=∀{lc σ k},wE WD K e lc σ k->∃d Z,k d Z
abbrev V8(K:jt)(e:Es):Prop:=∀{lc σ k},lH WD K e lc σ k->∃d Z,k d Z
abbrev sT(K:jt)(e:Te):Prop:=∀{lc σ k},wT WD K e lc σ k->∃d Z,k d Z
abbrev sI(K:jt)(e:It):Prop:=∀{lc σ k},wI WD K e lc σ k->∃d g Z,k d g Z
theorem bz{P:Z->X->Prop}{R:Prop}(h:∃a b,P a b)(f:∀{a b},P a b->R):R:=h.elim fun _ h=>h.elim fun _ h=>f h
theorem eK{o:Option Z}{p:Z->Prop}{R:Prop}(h:gO o p)(f:∀{a},p a->R):R:=(gO.out h).elim fun _ h=>f h.2
theorem ua{o:Option (Z×AH)}{p:Z->AH->Prop}(h:gP o p):∃a σ,p a σ:=(gP.out h).elim fun a h=>h.elim fun σ h=>⟨a,σ,h.2⟩
theorem l5{A C R:Prop}(h:br c A C)(f:A->R)(g:C->R):R:=by cases c;exact g h;exact f h
theorem V9{t:Tg}{cd:Te}{e:Ex}(X:sT K cd)(U:sE K e):∀{xs a:List aa}{lc:Lc}{σ:AH}{k:Po},jY g t (wT WD K cd) (wE WD K e) xs a lc σ k->∃d au,k d au:=fun{xs}=>by induction xs with|nil=>exact fun h=>⟨_,_,h.2⟩|cons x r Z=>exact fun h=>eK h.2 fun h=>bz (X h) fun h=>l5 h (fun h=>bz (U h) Z) Z
theorem Wa(X:nq K){Z σ:AH}{vs:List aa}{k:Po}(h:dt WD K m j Z σ vs k):∃d au,k d au:=by obtain⟨o,_,h⟩:=gO.out h;induction o using AO.casesOn with|bl c fs=>exact eK h.2 X|list=>exact eK h ua|dict=>exact eK h ua
theorem Wb(Z:nq K){σ:AH}{vs:List aa}(h:lG WD K c vs σ k):∃d au,k d au:=by
 obtain⟨i,_,h⟩:=gO.out h;rcases i with _|f;.induction vs using eQ with|nil=>exact⟨_,_,h⟩|cons=>exact h.elim
 exact bz (Z h) fun{d au}h=>by induction d using aa.casesOn with|none=>exact⟨_,_,h⟩|_=>exact h.elim
mutual theorem cv(Z:nq K):∀e:Ex,sE K e|.lit d=>fun h=>⟨_,_,h⟩|.var i=>fun h=>(wX h).elim fun d h=>⟨_,_,h.2⟩|.ai g=>fun h=>eK h fun h=>⟨_,_,h⟩|.ao e f=>fun h=>bz (cv Z e h) fun h=>eK h fun h=>⟨_,_,h⟩|.ad a i=>fun h=>bz (cv Z a h) fun h=>bz (cv Z i h) fun h=>eK h fun h=>⟨_,_,h⟩|.hG a l u=>fun h=>bz (cv Z a h) fun h=>bz (cv Z l h) fun h=>bz (cv Z u h) ua|.aK op a b=>fun h=>bz (cv Z a h) fun h=>bz (cv Z b h) ua|.neg a=>fun h=>bz (cv Z a h) fun h=>(gi h).elim fun _ h=>⟨_,_,h.2⟩|.nU a=>fun h=>bz (cv Z a h) fun h=>(gi h).elim fun _ h=>⟨_,_,h.2⟩|.ah op a b=>fun h=>bz (cv Z a h) fun h=>bz (cv Z b h) fun h=>eK h fun h=>⟨_,_,h⟩|.dA p a=>fun h=>bz (cv Z a h) fun h=>⟨_,_,h⟩|.aY p a b=>fun h=>bz (cv Z a h) fun h=>bz (cv Z b h) fun h=>eK h fun h=>⟨_,_,h⟩|.no a=>fun h=>bz (cv Z a h) fun h=>eK h fun h=>⟨_,_,h⟩|.and a b=>fun h=>bz (cv Z a h) fun h=>eK h fun h=>l5 h (cv Z b) fun h=>⟨_,_,h⟩|.or a b=>fun h=>bz (cv Z a h) fun h=>eK h fun h=>l5 h (fun h=>⟨_,_,h⟩) (cv Z b)|.ite t a b=>fun h=>bz (nt Z t h) fun h=>l5 h (cv Z a) (cv Z b)|.ab es=>fun h=>bz (oP Z es h) fun h=>⟨_,_,h⟩|.dB es=>fun h=>bz (oP Z es h) fun h=>⟨_,_,h⟩|.il=>fun h=>⟨_,_,h⟩|.comp tg X cd e nc=>fun h=>(Jx Z X h).elim fun _ h=>bz h fun h=>V9 (nt Z cd) (cv Z e) h|.call f es=>fun h=>bz (oP Z es h) Z|.new c es=>fun h=>bz (oP Z es h) (Wb Z)|.aR m o es=>fun h=>bz (cv Z o h) fun h=>bz (oP Z es h) fun h=>(oN h).elim fun _ h=>Wa Z h.2|.bi b es=>fun h=>bz (oP Z es h) ua|.iZ=>fun h=>h.elim theorem oP(Z:nq K):∀e:Es,V8 K e|.nil=>fun h=>⟨_,_,h⟩|.cons e es=>fun h=>bz (cv Z e h) fun h=>bz (oP Z es h) fun h=>⟨_,_,h⟩theorem nt(Z:nq K):∀e:Te,sT K e|.ex e=>fun h=>bz (cv Z e h) fun h=>eK h fun h=>⟨_,_,h⟩|.no t=>fun h=>bz (nt Z t h) fun h=>⟨_,_,h⟩|.and a b=>fun h=>bz (nt Z a h) fun h=>l5 h (nt Z b) fun h=>⟨_,_,h⟩|.or a b=>fun h=>bz (nt Z a h) fun h=>l5 h (fun h=>⟨_,_,h⟩) (nt Z b)|.gq a b c=>fun h=>bz (cv Z a h) fun h=>bz (cv Z b h) fun h=>(gi h).elim fun _ h=>(gi h.2).elim fun _ h=>l5 h.2 (fun h=>bz (cv Z c h) fun h=>(gi h).elim fun _ h=>⟨_,_,h.2⟩) fun h=>⟨_,_,h⟩theorem Jx(Z:nq K):∀e:It,sI K e|.ex e=>fun h=>bz (cv Z e h) fun h=>eK h fun h=>⟨_,_,_,h⟩|.range n=>fun h=>bz (cv Z n h) fun h=>(gi h).elim fun _ h=>⟨_,_,_,h.2.2⟩end
abbrev sK(aw:Kt):Prop:=(∃lc σ,aw.kn lc σ)\/(∃d σ,aw.kr d σ)\/∃lc σ,aw.kc lc σ
abbrev sS(K:jt)(s:Sm):Prop:=∀{lc σ aw},wS WD K s lc σ aw->sK aw
abbrev w7(K:jt)(s:Ss):Prop:=∀{lc σ aw},aP WD K s lc σ aw->sK aw
theorem k7(h:aw.kn lc σ):sK aw:=.inl ⟨_,_,h⟩
theorem Jy(Z:w7 K b){aw:Kt}{lc:Lc}(h:aP WD K b lc σ (lI aw X))(f:∀{lc σ},X lc σ->sK aw):sK aw:=(Z h).elim (fun h=>bz h f) fun h=>h.elim (fun h=>.inr (.inl h)) fun h=>bz h f
theorem Wc(Z:w7 K b){g:Option (Nat×List aa)}{t:Tg}{aw:Kt}:∀{xs:List aa}{lc:Lc}{σ:AH},pf g t (fun lc σ k=>aP WD K b lc σ (lI aw k)) xs lc σ aw.kn->sK aw:=fun{xs}=>by induction xs with|nil=>exact fun h=>k7 h.2|cons x r X=>exact fun h=>eK h.2 fun h=>Jy Z h X
theorem We{t:Te}(Z:sT K t)(X:w7 K b){aw:Kt}:∀{n:Nat}{lc:Lc}{σ:AH},qE (wT WD K t) (fun lc σ k=>aP WD K b lc σ (lI aw k)) n lc σ aw.kn->sK aw:=fun{n}=>by induction n with|zero=>exact fun h=>h.elim|succ n U=>exact fun h=>bz (Z h) fun h=>l5 h (fun h=>Jy X h U) k7
mutual theorem Wf(Z:nq K):∀s:Sm,sS K s|.an t e=>fun h=>bz (cv Z e h) fun h=>eK h k7|.cT o f e=>fun h=>bz (cv Z e h) fun h=>bz (cv Z o h) fun h=>eK h k7|.gr o i e=>fun h=>bz (cv Z e h) fun h=>bz (cv Z o h) fun h=>(oN h).elim fun _ h=>bz (cv Z i h.2) fun h=>eK h k7|.qy i op e=>fun h=>(wX h).elim fun d h=>bz (cv Z e h.2) fun h=>(gi h).elim fun _ h=>(gi h.2).elim fun _ h=>eK h.2 fun h=>eK h k7|.o5 o f op e=>fun h=>bz (cv Z o h) fun h=>eK h fun h=>bz (cv Z e h) fun h=>(gi h).elim fun _ h=>(gi h.2).elim fun _ h=>eK h.2 fun h=>eK h k7|.expr e=>fun h=>bz (cv Z e h) fun h=>l5 h k7 YF|.ifs t a b=>fun h=>bz (nt Z t h) fun h=>l5 h (rJ Z a) (rJ Z b)|.for t X b=>fun h=>(Jx Z X h).elim fun _ h=>bz h fun h=>Wc (rJ Z b) h|.while t b=>fun h=>h.elim fun _ h=>We (nt Z t) (rJ Z b) h|.ret e=>fun h=>.inr (.inl (cv Z e h))|.si=>fun h=>.inr (.inl ⟨_,_,h⟩)|.cont=>fun h=>.inr (.inr ⟨_,_,h⟩)|.o6 o i=>fun h=>bz (cv Z o h) fun h=>(oN h).elim fun _ h=>bz (cv Z i h.2) fun h=>eK h k7|.qz o i=>fun h=>bz (cv Z o h) fun h=>(oN h).elim fun _ h=>bz (cv Z i h.2) fun h=>eK h k7|.iZ=>fun h=>h.elim theorem rJ(Z:nq K):∀s:Ss,w7 K s|.nil=>k7|.cons s X=>fun h=>(Wf Z s h).elim (fun h=>bz h (rJ Z X)) .inr end
theorem Wg:∀n:Nat,nq (iK WD X n):=by intro n;induction n with|zero=>exact fun h=>(MU h).elim|succ n Z=>exact fun h=>(Cx h).elim fun F h=>h.elim fun lc h=>(rJ (Z) F.body h.2.2).elim (fun h=>bz h fun h=>⟨_,_,h⟩) fun h=>h.elim id fun h=>bz h fun h=>⟨_,_,h⟩
end
end
section
open PySem.W PySem.Calls PyProof.Rows
section
variable{B:Bx}{y z:Cf}
theorem Jz(h:k9 m 1000=Y)(e:n=m):n<=sizeLine:=by have:=j?.mp h;rw[e,wH];exact ax 0x1f4083408600000050d000 rfl this
theorem Wh(X:k6 B es):bG B (.ab es):=fun{c x}m{A E env lc σ y k Q}h Z kk=>by refine fw (bL m) (wpAny_Tuple (X (bL (bR m)) h Z fun C U z vs J H S1 O n=>⟨Jz (bR (bR m)) n,?_⟩));exact PV.ab (kk.at J H) S1 (zs:=vs.toArray) (n:=0) O z.s.toks
theorem Wi(X:k6 B es):bG B (.dB es):=fun{c x}m{A E env lc σ y k Q}h Z kk=>by refine fw (bL m) (wpAny_List (X (bL (bR m)) h Z fun C U z vs J H S1 O n=>⟨Jz (bR (bR m)) n,?_⟩));exact S1.newList (out:=vs.toArray) (n:=0) (fun b o e=>gp _ e) (k3 z.s.heap) (kw _ rfl) O (kk.at J H)
theorem Wj:bG B .il:=fun{c x}m{A E env lc σ y k Q}h Z kk=>by refine fw m (wpAny_Dict_empty ?_);have T:=cq.new Z.S (k3 y.s.heap);have C:=Z.S.cell (t:=y.s.toks) (p:=(y.s.heap.objs.size,y.s.heap.objs.size)) T T (fun b o e=>gp _ e) (.dict (es:=[]) rfl .nil (kw y.s.heap (o:={cls:=.type "dict",data:=.dict #[]}) rfl) ⟨rfl,rfl,rfl⟩ rfl .nil);exact kk _ _ _ _ h (bZ.refl.cl (k3 y.s.heap) (k3 y.s.heap) fun b o e=>gp _ e) C.1 C.2.2
theorem Wk(X:Z.any (·.1)=aj)(h:wpAny M A (spliced Z) (fun vs s'=>Q ⟨vs,[]⟩ s') E s):wpAny M A (evalArgs f Y Z []) Q E s:=by
 rcases Z with _|⟨a,r⟩;.unfold evalArgs;show wpAny M A (spliced []>>=_) Q E s;exact aA (lr h (fun vs s' h'=>aA (aX (mA (aA (aX (aA (aX (aX h')))))))) fun _ _ z=>z)
 obtain⟨b,t⟩:=a;rcases b with _|_;.exact evalArgs_plain h
 exact nB X.symm
abbrev A2(B:Bx)(f:aH):Prop:=∀h,B.X.K.In h->∃k,(k=Keeper.frame\/k=Keeper.machine\/k=Keeper.boundFrame)/\uC B.M h (keeperOf f) k
theorem ub(O:k6 B es)(m:kY B.X.N es c l=Y)(h:lH WD B.C es lc σ k)(Z:Si B A c env lc σ y)(L:A2 B f)(kk:∀J σ z vs,k J σ->bZ y z->HR B.X σ z->z.Vs J vs->wpAny B.M A (call f (first++vs)) Q E z.s):wpAny B.M A (callWith pos f first (backTo U (starEach l env)) []) Q E y.s:=have H:=A1 (pos:=U) (env:=env) m;callWith_of (P:=fun h=>B.X.K.In h) (by rw[H];rfl) L (Wk H (O m h Z fun J g z vs j d S1 r _=>⟨S1.hX,kk _ _ _ _ j d S1 r⟩))
theorem w8(Z:∀a,f≠.ref a):A2 B f:=fun h _=>by refine⟨.machine,.inr (.inl rfl),LL ?_⟩;unfold keeperOf;cases f<;>first|rfl|exact ae rfl (Z _)
theorem JA{p pos:Pos}(h:wpAny M A (eval (.Name x p) env) (fun f Z=>wpAny M A (callWith pos f [] (backTo pos (starEach l env)) []) Q E Z) E s):wpAny M A (eval (.Call (.Name x p) l [] pos) env) Q E s:=show wpAny M A (eval (.Name x p) env>>=fun f=>callWith pos f [] (backTo pos (starEach l env)) []) Q E s from aA h
theorem A9(m:aG 10 x=Y)(m1:aG 15 (e1 x)=Y)(h:wpAny B.M A (eval (.Name (dS (e1 x)) (bP (e1 x))) env) (fun f Z=>wpAny B.M A (callWith (bP x) f [] (backTo (bP x) (starEach (cM x) env)) []) Q E Z) E y.s):wpAny B.M A (eval x env) Q E y.s:=by refine fw m ?_;show wpAny _ A (eval (.Call (e1 x) (cM x) [] (bP x)) env) Q E y.s;rw[fb m1];exact JA h
theorem Wl(T:fc B)(X:k6 B es):bG B (.call f es):=fun{c x}m{A E env lc σ y k Q}h Z kk=>by have g:=T.t1.fn f _ (aV.mp (bL (bR (bR (bR m)))));exact A9 (bL m) (bL (bR m)) (t4 Z.L Z.S (bL (bR (bR m))) (.inl g.1) (ub X (bR (bR (bR (bR m)))) h Z (LM g.2) fun C U z vs J H S1 O=>nj.call (T.call J Z.R.c S1 O (kk.ext H))))
theorem Wm(T:fc B)(U:k6 B es):bG B (.bi b es):=fun{c x}m{A E env lc σ y k Q}h Z kk=>by have g:=T.t1.bi b;rw[<-aV.mp (bL (bR (bR (bR m))))]at g;exact A9 (bL m) (bL (bR m)) (t4 Z.L Z.S (bL (bR (bR m))) (.inr g) (ub U (bR (bR (bR (bR m)))) h Z (w8 (by clear m h g;cases b<;>(intro a z;cases z))) fun j J z vs H O S1 C=>(gP.out H).elim fun d q=>q.elim fun M q=>Vg Z.R.1 T.t2.rH S1 q.1 C (kk.at q.2 O)))
theorem Wn(a:bu)(rest:List aH):(uD "type.__call__" ⟨.ref a::rest,[]⟩).weight<=3:=by rw[show(uD "type.__call__" ⟨.ref a::rest,[]⟩).weight=(uD "type.__call__" ⟨[.ref 0],[]⟩).weight by kernel_rfl];decide+kernel
theorem Wo(a:bu)(rest:List aH):(uD "type.__call__" ⟨.ref a::rest,[]⟩).cUnits<=10:=by rw[show(uD "type.__call__" ⟨.ref a::rest,[]⟩).cUnits=(uD "type.__call__" ⟨[.ref 0],[]⟩).cUnits by kernel_rfl];decide+kernel
theorem Rm.new(R:Rm B A)(a:bu)(rest:List aH):Rc B (A.under (.builtin "type.__call__" ⟨.ref a::rest,[]⟩)):=⟨R.1,bj (show A.depth+_+B.aa<=A.depth+B.aa+5 by have:=Wn a rest;exact da 0x3d4204da8005ab400000 rfl this) R.2.1,bj (show A.units+_+B.U<=A.units+B.U+60 by have:=Wo a rest;exact da 0x3aa1007820da8005ab400000 rfl this) R.2.2⟩
noncomputable abbrev Cf.nw(B:Bx)(y:Cf)(cl:Nat):Cf:=y.cl (y.s.heap.objs.size+1,y.s.heap.objs.size) ((y.s.heap.push B3).push (instObj (B.X.gc cl) y.s.heap.objs.size)) y.s.toks
theorem JB{h:ln}{o:iG}(Z:o.isFreed=aj):((h.push B3).push o).get? (h.objs.size+1)=D o:=by have:=kw (h.push B3) Z;rwa[k?]at this
theorem Wp{cl:Nat}(S:HR B.X σ y):HR B.X (σ++[.bl cl []]) (y.nw B cl)/\bZ y (y.nw B cl)/\(y.nw B cl).ak (.ref σ.length) (.ref (y.s.heap.objs.size+1)):=by
 have Z:=k3 y.s.heap;have U:y.s.heap.get? (y.s.heap.objs.size+1)=none:=by
  rcases e:y.s.heap.get? (y.s.heap.objs.size+1)with _|o;.rfl
  exact ae (r9 e) (g9.mpr (dh _))
 have J:∀b o,y.s.heap.get? b=D o->((y.s.heap.push B3).push (instObj (B.X.gc cl) y.s.heap.objs.size)).get? b=D o:=fun b o e=>gp _ (gp _ e);have C:=S.cell (t:=y.s.toks) (p:=(y.s.heap.objs.size+1,y.s.heap.objs.size)) (cq.new S U) (cq.new S Z) J (.bl (n:=0) (fs:=[]) (lb (mf _)) (JB rfl) jP (gp _ (kw _ rfl)) .nil);exact⟨C.1,bZ.refl.cl U Z J,C.2.2⟩
theorem Wq{p:Prop}(h:Cw d p):d=.none/\p:=by induction d using aa.casesOn with|none=>exact⟨rfl,h⟩|_=>exact h.elim
theorem Wr(T:fc B){es:Es}(h0:k6 B es):bG B (.new cl es):=fun{c x}m{A E env lc σ y k Q}h Z kk=>by
 have g:=T.t1.cn cl _ (aV.mp (bL (bR (bR (bR m)))));refine A9 (bL m) (bL (bR m)) (t4 Z.L Z.S (bL (bR (bR m))) (.inl g.1) (ub h0 (bR (bR (bR (bR m)))) h Z (LM g.2) fun ds bY z vs h1 x1 S1 w1=>nj.call ?_));obtain⟨i,hi,h1⟩:=gO.out h1;obtain⟨S2,x2,v2⟩:=Wp (cl:=cl) S1;have mk:=T.t1.Jl cl i hi;rcases i with _|f;.induction w1 using F2.casesOn with|cons=>exact h1.elim|nil=>have cj:=makes_of (M:=B.M) S1.hX mk.1;refine make_core cj (l? S1.hX mk.2) (fun uc=>LL (oi_bind uc)) (.inr ⟨rfl,rfl⟩) ?_;refine codeAny_call_builtin oi_plain entry_oi (@check_slot B.M _ _ _ "object.__init__" "object" "__init__" (.ref (z.s.heap.objs.size+1)) [] [] _ oi_kind oi_split (((Looks.ld (JB rfl)).andThen .now).andThen (cj.top.keeps fun b o e=>gp _ (gp _ e))) (oi_args (.ref (z.s.heap.objs.size+1))) ?_);show wpAny _ _ (Builtin.«object.__init__» ⟨[.ref (z.s.heap.objs.size+1)],[]⟩) _ _ _;rw[oi_run];exact aX (And.intro rfl (kk _ _ _ _ h1 (x1.trans x2) S2 v2))
 refine make_core (makes_of S1.hX mk.1) (l? S1.hX mk.2.1) (fun uc=>bind_fn S1.hX uc mk.2.2) (.inl rfl) ?_;refine e? (T.call (y:=z.nw B cl) h1 (Q:=fun v s'=>v=.none/\Q (.ref (z.s.heap.objs.size+1)) s') (Z.R.new _ _) S2 (.cons v2 (eJ.ext w1 x2)) fun d eh u v h3 x3 S3 w3=>?_) fun r s' z=>?_;.obtain⟨rfl,h3⟩:=Wq h3;refine VR.nE w3 ?_;exact⟨rfl,kk _ _ _ _ h3 ((x1.trans x2).trans x3) S3 (v2.ext x3)⟩
 .rcases r with e|(v|_|_|_)<;>first|exact z|exact z.elim
theorem Ws(T:fc B){o:Ex}(ho:bG B o)(h0:k6 B es):bG B (.aR k o es):=fun{c x}m{A E env lc σ y q Q}h Z kk=>by
 have m1:=bR m;have O:B.X.N.nm k=D (dS (e1 x)):=aV.mp (bL (bR (bR m1)));have m2:=bR (bR (bR m1));have me:=bL (bR m2);have ml:=bR (bR m2);refine fw (bL m) ?_;show wpAny _ A (eval (.Call (e1 x) (cM x) [] (bP x)) env) Q E y.s;have e:=fb (bL m1);generalize hn:dS (e1 x)=n at O;have e:e1 x=.Attribute (e1 (e1 x)) n (bP (e1 x)):=hn▸e;generalize hp:bP (e1 x)=ap at e ml;rw[e,arm_eval_Call,Jo (bL m2)];have Wt:methodCallForm ((cM x).length+([]:List Keyword).length) (backTo (bP x) (starEach (cM x) env)) (backToKw (bP x) (keywordEach [] env))=true:=by
  unfold methodCallForm;have q1:(backTo (bP x) (starEach (cM x) env)).all (fun x=>!x.1)=true:=by rw[List.all_eq_not_any_not];simpa using A1 (pos:=bP x) (env:=env) me
  rw[q1];exact aN (show(cM x).length+0+0<30 by have:=j?.mp (bL ml);exact ax 0xa0434087c10909400001 rfl this)
 have Wu:LN Y (e1 (e1 x)) env ap (bP x)=pure (bP x):=by unfold LN;rw[aV.mpr (jK (bR ml))];rfl
 refine aA (ho (bL (bR m1)) h Z fun d1 bY z v1 h1 x1 S1 w1=>aA (B4 ?_));unfold methodCall;rw[Wt];have fp:∀{f:aH}{b:aH},A2 B f->(∀t σ u vs,pe d1 (fun j=>dt WD B.C k j bY σ t q)->bZ z u->HR B.X σ u->u.Vs t vs->wpAny B.M A (call f ([b]++vs)) Q E u.s)->wpAny B.M A (LN Y (e1 (e1 x)) env ap (bP x)>>=fun L=>callWith L f [b] (backTo (bP x) (starEach (cM x) env)) (backToKw (bP x) (keywordEach [] env))) Q E z.s:=fun hk kq=>by rw[Wu];exact aA (aX (ub h0 me h1 (Z.ext x1 S1) hk kq))
 refine cps fun P l=>?_;obtain⟨t,cz,J⟩:=oP T.st es h1;obtain⟨j,rfl,J⟩:=oN J;obtain⟨ob,hj,J⟩:=gO.out J;refine l ?_;have go:∀{t σ},pe (.ref j) (fun j=>dt WD B.C k j bY σ t q)->dt WD B.C k j bY σ t q:=id;induction ob using AO.casesOn with|bl cl fs=>
  refine cps fun P l=>?_;have hl:=J.1;have J:=J.2;obtain⟨f,H,_⟩:=gO.out J;obtain⟨t1,t2,t3⟩:=T.t2.nZ cl k f n H O;obtain⟨p,Ba,n',⟨jz,rfl,q1⟩,q2,q3,_,_,al⟩:=AU S1 hj w1;refine l ?_;have HN:shadowIn (D (dictOf Ba n')) n=D false:=by
   rcases FR.getL O q3 with⟨_,g⟩|⟨d,v,g,_⟩;.show(lookIn n (dictOf Ba n')).map _=_;rw[lookIn_dict,g];rfl
   .exact nS (hl.symm.trans g)
  refine aA (mA (method_fn S1.hX al (Ly t1).1 (Ly t1).2 t2 t3 HN ?_));refine fp (LM (T.t1.Jk cl k f H)) fun t σ u vs U x2 S2 w2=>?_;obtain⟨ob,K,U⟩:=gO.out (go U);cases hj.symm.trans K;obtain⟨f',Au,U⟩:=gO.out U.2;cases H.symm.trans Au;exact nj.call (T.call U Z.R.c S2 (.cons (w1.ext x2) w2) (kk.ext (x1.trans x2)))|list xs=>
  obtain⟨Wv,Ww,J⟩:=gO.out J;obtain⟨d,eh,H,_⟩:=gP.out J;have i:k<3:=by
   rcases k with _|_|_|k;.decide
   .decide
   .decide
   .exact nS H
  clear hn e;obtain rfl:n=nh k:=b9 (O.symm.trans (T.t1.aR k (ax 262027890689 rfl i)));refine aA (mA (Vl S1 hj w1 i ?_));refine fp (w8 (by intro a z;cases z)) fun t σ u vs U x2 S2 w2=>?_;obtain⟨ob,K,U⟩:=gO.out (go U);cases hj.symm.trans K;refine cps fun P l=>?_;obtain⟨ys,w,U⟩:=gO.out U;obtain⟨d,eh,H,U⟩:=gP.out U;refine l ?_;obtain⟨_,_,e,w,e'⟩:=AT (f:=D) (r:=ys) (by rw[w];rfl);cases(e);cases(e');exact(Vt S2 w H (w1.ext x2) w2 (kk.at U (x1.trans x2))).2|dict Ba=>
  obtain⟨Wv,Ww,J⟩:=gO.out J;obtain⟨d,eh,H,_⟩:=gP.out J;have i:k=3:=by
   rcases k with _|_|_|_|k;.exact nS H
   .exact nS H
   .exact nS H
   .rfl
   .exact nS H
  clear m h m1 h1 J H;subst i;clear hn e;obtain rfl:n=nh 3:=b9 (O.symm.trans (T.t1.aR 3 (by decide)));refine aA (mA (Vm S1 hj w1 ?_));refine fp (w8 (by intro a z;cases z)) fun t σ u vs U x2 S2 w2=>?_;refine cps fun P l=>?_;obtain⟨ob,K,U⟩:=gO.out (go U);refine l ?_;cases hj.symm.trans K;refine cps fun P l=>?_;obtain⟨ys,w,U⟩:=gO.out U;obtain⟨d,eh,H,U⟩:=gP.out U;refine l ?_;change(match σ[j]? with|some (.dict es)=>D es|_=>I)=_ at w;rcases q:σ[j]? with _|o;.rw[q]at w;exact nS w
  rw[q]at w;induction o using AO.casesOn with|dict es=>cases(w);exact(Vu Z.R.u T.t2 S2 q H (w1.ext x2) w2 (kk.at U (x1.trans x2))).2|_=>exact nS w
end
end
section
open PySem.W PySem.Calls PyProof.Rows
def ud(c:Cn)(env:mE)(t:List Nat)(a:bu):Prop:=∃i∈t,∃x,c.names[i]?=D (D x)/\wU c env x a
theorem ud.aQ(h:ud c env t a):gh c env a:=h.elim fun _ h=>h.2.elim fun _ h=>h.2.aQ
section
abbrev PT(B:Bx)(c:Cn)(env:mE)(t:List Nat)(Z:Lc)(σ:AH)(y:Cf)(Q:Unit->cJ->Prop):Prop:=∀h' t',(∀b o,¬ud c env t b->y.s.heap.get? b=D o->h'.get? b=D o)->LR c env Z (y.hp h' t')->HR B.X σ (y.hp h' t')->Q () {y.s with heap:=h',toks:=t'}
theorem JC(m:(aG 15 x&&c.var i (dS x))=Y)(hi:i<lc.length)(L:LR c env lc y)(S:HR B.X σ y)(U:y.ak d v)(k:PT B c env [i] (lc.set i (D d)) σ y Q):wpAny B.M A (assign x env v) Q E y.s:=by rw[fb (bL m)];refine m? (wV L S (bR m) hi U fun a h' t' J Z H O=>k h' t' (fun b o C e=>Z b o (fun z=>C ?_) e) H O);clear Z;subst z;exact⟨i,.head _,_,aV.mp (bL (bR m)),J⟩
theorem Wy:∀{Z:List Nat}{es:List cP}{l:List aa}{vs:List aH}{lc:Lc}{y:Cf}{Q:Unit->cJ->Prop},wz c Z es=Y->n5 lc Z l=D U->LR c env lc y->HR B.X σ y->y.Vs l vs->PT B c env Z U σ y Q->(lu es env).length=l.length/\(lu es env).findIdx? (·.1)=I/\wpAny B.M A (n? ((lu es env).map (·.2)) vs) Q E y.s:=by intro Z;induction Z with
|nil=>
intro es l vs lc y Q m e L S O k;rcases es with _|⟨_,_⟩;.induction O using F2.casesOn with|cons=>exact nS e|nil=>cases e;exact⟨rfl,rfl,aX (k y.s.heap y.s.toks (fun b o _ e=>e) L S)⟩
exact nB m|cons i Z J=>
intro es l vs lc y Q m e L S O k;rcases es with _|⟨x,es⟩;.exact nB m
induction O using F2.casesOn with|nil=>exact nS e|@cons d v l f n h=>
obtain⟨hi,e⟩:=cc (p:=i<lc.length) e;have m1:(aG 15 x&&c.var i (dS x))=true:=by rw[bL m,bL (bR m)];rfl
have a:=fun(h':ln)t'(C:∀b o,¬ud c env [i] b->y.s.heap.get? b=D o->h'.get? b=D o)K g=>J (y:=y.hp h' t') (bR (bR m)) e K g h fun r u H=>k r u fun b o z e=>H b o ((by rintro⟨j,w,q⟩;exact z ⟨j,.tail _ w,q⟩)) (C b o ((by rintro⟨j,w,q⟩;exact z ⟨j,by rw[ba.mp w];exact .head _,q⟩)) e);have e0:lu (x::es) env=(aj,assign x env)::lu es env:=by rw[(fb (bL m))];rfl
rw[e0];have t:(lu es env).length=l.length/\(lu es env).findIdx? (·.1)=none:=by
 have:∀{Z:List Nat}{es:List cP}{l:List aa}{lc U:Lc},wz c Z es=Y->n5 lc Z l=D U->(lu es env).length=l.length/\(lu es env).findIdx? (·.1)=none:=fun{Z}=>by induction Z with
|nil=>
      intro es l lc U m e;rcases es with _|⟨_,_⟩;.induction l using eQ with|cons=>exact nS e|nil=>exact⟨rfl,rfl⟩
      exact nB m|cons i Z J=>
      intro es l lc U m e;rcases es with _|⟨x,es⟩;.exact nB m
      induction l using eQ with|nil=>exact nS e|cons d l=>have J:=J (bR (bR m)) (cc (p:=i<lc.length) e).2;rw[fb (bL m),show lu (oF 15 x::es) env=(aj,assign (oF 15 x) env)::lu es env from rfl];exact⟨aI (·+1) J.1,by rw[o?,J.2];rfl⟩
 exact this (bR (bR m)) e
refine⟨aI (·+1) t.1,by rw[o?,t.2];rfl,?_⟩;show wpAny _ A (holding f (assign x env v)>>=fun _=>n? ((lu es env).map (·.2)) f) Q E y.s;exact aA (mA (JC m1 hi L S n fun h' t' C K g=>(a h' t' C K g).2.2))
theorem Bb(j:A.handled=I)(m:p9 c t x=Y)(e:fj lc t d=D U)(L:LR c env lc y)(S:HR B.X σ y)(C:y.ak d v)(k:PT B c env t.slots U σ y Q):wpAny B.M A (assign x env v) Q E y.s:=by induction t using Tg.casesOn with|ag i=>obtain⟨hi,e⟩:=cc (p:=i<lc.length) e;cases e;exact JC m hi L S C k|fT f=>induction C using VR.casesOn with|@ab l a xs n r K=>have k2:=fun(h':ln)(J:∀b o,y.s.heap.get? b=D o->h'.get? b=D o)=>Wy (A:=A) (E:=E) (y:=y.hp h' y.s.toks) (bR m) e (L.ext (.more J)) (S.more J) K fun H O Z=>k H O fun b o u e=>Z b o u (J b o e);have g:=k2 y.s.heap fun _ _ e=>e;rw[fb (bL m)];exact wpAny_assign_Tuple (items:=xs) j ⟨_,S.sub _ _ r,rfl,n,rfl⟩ (by rw[g.1,K.length.symm,mB]) g.2.1 fun h' w=>(k2 h' fun b o e=>w b o (lb (r9 e)) e).2.2|_=>exact nS e
end
noncomputable def rK(n:Nat):List aa:=(iV n).map fun i=>.int (ko i)
inductive df(xs:List aa)(al:bu)(k:Nat)(y:Cf):Option (Nat×List aa)->Prop where|list{i:Nat}{p:bu×bu}(hp:y.m[i]?=D p)(h:y.s.heap.IsListIter al p.1 k):df xs al k y (D (i,xs))|ab{t:bu}{ys:Array aH}{n:Nat}(ho:y.G t=D (rD ys n))(hv:y.Vs xs ys.toList)(h:y.s.heap.IsTupleIter al t k):df xs al k y I|gq{n:Nat}(hn:n<1000000)(hx:xs=rK n)(hk:k<=n)(h:IsRangeIter y.s.heap al k (n-k) 1):df xs al k y I
section
variable{B:Bx}
theorem df.obj(x:df xs al k y g):∃o,y.s.heap.get? al=D o/\(∀es U,o.data≠.dict es U)/\∀q,o.data≠.cell q:=by induction x using df.casesOn with|list J h=>obtain⟨o,Z,_,X⟩:=h;exact⟨o,Z,by rw[X];exact⟨nofun,nofun⟩⟩|ab _ _ h=>obtain⟨o,Z,_,X⟩:=h;exact⟨o,Z,by rw[X];exact⟨nofun,nofun⟩⟩|gq _ _ _ h=>exact⟨_,h,nofun,nofun⟩
theorem df.go(x:df xs al k y g)(J:∀(i:Nat)p,y.m[i]?=D p->z.m[i]?=D p)(H:∀a o,y.G a=D o->z.G a=D o)(Z:∀o,y.s.heap.get? al=D o->z.s.heap.get? al=D o):df xs al k z g:=by induction x using df.casesOn with|list Q h=>obtain⟨o,X,r⟩:=h;exact .list (J _ _ Q) ⟨o,Z _ X,r⟩|ab X O h=>obtain⟨o,U,r⟩:=h;exact .ab (H _ _ X) (F2.aq (·.aq H J) O) ⟨o,Z _ U,r⟩|gq E C M h=>exact .gq E C M (Z _ h)
theorem df.ext(x:df xs al k y g)(T:cq y al)(e:cG P y z)(U:¬P al):cq z al/\df xs al k z g:=by obtain⟨o,X,_⟩:=x.obj;have q:=T.ext e X U;exact⟨q.1,x.go e.mm e.g fun o' Z=>by cases X.symm.trans Z;exact q.2⟩
theorem df.w9(x:df xs al k y g)(e:∀o,y.s.heap.get? al=D o->h'.get? al=D o):df xs al k (y.hp h' t) g:=x.go (fun _ _ h=>h) (fun _ _ h=>h) e
theorem df.iS(x:df xs al k y g)(L:LR c env lc y):¬gh c env al:=by obtain⟨o,Z,X,U⟩:=x.obj;exact L.iS Z X U
theorem Wz(h:k<n):(rK n)[k]?=D (.int k):=by unfold rK;rw[gm,List.getElem?_range h];rfl
theorem Bc(n:Nat):(rK n).length=n:=by unfold rK;rw[aJ,K7]
theorem JD{i:Nat}{p:bu×bu}(S:HR B.X σ y)(Z:y.m[i]?=D p)(U:σ[i]?=D (.list xs)):∃vs n,y.s.heap.get? p.1=D (lZ vs n)/\y.Vs xs vs.toList:=by cases S.cells i p _ Z U with|list _ J H=>exact⟨_,_,J,H⟩
theorem JE{Q:Option aH->cJ->Prop}(x:df xs al k y g)(T:cq y al)(S:HR B.X σ y)(w:lF g σ)(O:xs[k]?=D d)(q:∀v h' t',y.ak d v->(∀b o,b≠al->y.s.heap.get? b=D o->h'.get? b=D o)->df xs al (k+1) (y.hp h' t') g->HR B.X σ (y.hp h' t')->Q (D v) {y.s with heap:=h',toks:=t'}):wpAny B.M A (pyNext (.ref al)) Q E y.s:=by have U:∀{v h' t'},y.ak d v->y.s.heap.SameBut al h'->df xs al (k+1) (y.hp h' t') g->Q (D v) {y.s with heap:=h',toks:=t'}:=fun C J hi=>let L:∀b o,b≠al->y.s.heap.get? b=D o->_:=fun b o m e=>(J.2 b m).trans e;q _ _ _ C L hi (S.iA T L);induction x using df.casesOn with|list u h=>obtain⟨vs,n,K,j⟩:=JD S u w;obtain⟨v,C,r⟩:=getL j O;exact wpAny_pyNext_list_item h ⟨_,K,rfl,n,rfl⟩ C fun h' Z J=>U (t':=y.s.toks) r J (.list u Z)|ab K j h=>obtain⟨v,C,r⟩:=getL j O;exact wpAny_pyNext_tuple_item h ⟨_,S.sub _ _ K,rfl,_,rfl⟩ C fun h' Z J=>U (t':=y.s.toks) r J (.ab K j Z)|@gq n f z c h=>
clear q;subst z;have H:k<n:=by rw[<-Bc n];exact(bp.mp O).1
rw[Wz H]at O;cases O;refine wpAny_pyNext_range_item h (Int.sub_pos_of_lt (cw.mpr H)) fun h' Z J=>U .int J (.gq f rfl H ?_);rw[show((k:Int)+1)=((k+1:Nat):Int)from rfl,(Int.sub_sub _ _ _:(n:Int)-k-1=(n:Int)-((k+1:Nat):Int))]at Z;exact Z
theorem JF{Q:Option aH->cJ->Prop}(J:A.handled=I)(x:df xs al k y g)(T:cq y al)(S:HR B.X σ y)(C:lF g σ)(U:xs.length<=k)(q:∀h' t',(∀b o,b≠al->y.s.heap.get? b=D o->h'.get? b=D o)->HR B.X σ (y.hp h' t')->Q I {y.s with heap:=h',toks:=t'}):wpAny B.M A (pyNext (.ref al)) Q E y.s:=by induction x using df.casesOn with|list L h=>obtain⟨vs,n,H,O⟩:=JD S L C;exact wpAny_pyNext_list_end J h ⟨_,H,rfl,n,rfl⟩ (p? (by rw[fJ O];exact U)) fun h' Z=>q h' y.s.toks Z (S.iA T Z)|ab H O h=>exact wpAny_pyNext_tuple_end J h ⟨_,S.sub _ _ H,rfl,_,rfl⟩ (p? (by rw[fJ O];exact U)) fun h' Z=>q h' y.s.toks Z (S.iA T Z)|gq d K j h=>subst K;rw[Bc]at U;exact wpAny_pyNext_range_end J h (Int.sub_nonpos_of_le (nA.mpr U)) fun h' Z=>q h' y.s.toks Z (S.iA T Z)
theorem WA(x:df xs al k y g)(h:Q (.ref al) y.s):wpAny B.M A (pyIter (.ref al)) Q E y.s:=by induction x using df.casesOn with|list H X=>exact wpAny_pyIter_listiter X h|ab O C U=>have Z:=U.typeIs;refine q? Z r? (sd r? Z F.entry_tuple_iterator_iter ?_ (F.args_tuple_iterator_iter_1 _));show wpAny _ _ (ret (.ref al)) _ _ _;exact aX ⟨_,rfl,"tuple_iterator",_,Z,F.slot_tuple_iterator_next.lookup,h⟩|gq L K j J=>have Z:y.s.TypeIs (.ref al) "range_iterator":=⟨_,J,rfl⟩;refine q? Z s? (sd s? Z F.entry_range_iterator_iter ?_ (F.args_range_iterator_iter_1 _));show wpAny _ _ (ret (.ref al)) _ _ _;exact aX ⟨_,rfl,"range_iterator",_,Z,F.slot_range_iterator_next.lookup,h⟩
theorem JG(m:p9 c t x=Y)(O:df xs al k y g)(h:Q () y.s):wpAny B.M A (LO x (.ref al) v) Q E y.s:=by induction t using Tg.casesOn with|ag i=>rw[fb (bL m)];exact aX h|fT K=>rw[fb (bL m)];induction v using uE with
|ref a=>induction O using df.casesOn with|list j J=>obtain⟨o,J,X,U⟩:=J;exact aA (LP J (by rw[X,U];exact aX h))|ab d r X=>obtain⟨o,X,U,C⟩:=X;exact aA (LP X (by rw[U,C];exact aX h))|gq u w f U=>exact aA (LP U (aX h))
|_=>exact aX h
abbrev WB(X:Wx)(y:Cf)(k:List aa->Option (Nat×List aa)->AH->Prop)(Q:aH->cJ->Prop):Prop:=∀xs g σ z al,k xs g σ->xs.length<av->bZ y z->HR X σ z->cq z al->y.s.heap.get? al=I->df xs al 0 z g->Q (.ref al) z.s
abbrev xa(B:Bx)(U:It):Prop:=∀{c x},Az B.X.N U c x=Y->∀{A E env lc σ y k Q},wI WD B.C U lc σ k->Si B A c env lc σ y->WB B.X y k Q->wpAny B.M A (eval x env) (fun v Z=>wpAny B.M A (pyIter v) Q E Z) E y.s
theorem WC(K:bG B e):xa B (.ex e):=fun{c x}m{A E env lc σ y k Q}h Z kk=>K m h Z fun d U z v J H S1 M=>by obtain⟨p,e,J⟩:=gO.out J;have O:=k3 z.s.heap;induction d using aa.casesOn with
|ab l=>obtain⟨hz,e⟩:=cc (p:=l.length<av) e;cases e;refine VR.tE M fun a _ _ C L=>?_;refine wpAny_pyIter_tuple ⟨_,S1.sub _ _ C,rfl,_,rfl⟩ ?_;have X:∀b o,z.s.heap.get? b=D o->(z.s.heap.push {cls:=.type "tuple_iterator",data:=.fields #[.ref a,.int 0 0]}).get? b=D o:=fun b o e=>gp _ e;exact kk _ _ _ (z.hp _ z.s.toks) _ J hz (H.trans (bZ.more X)) (S1.more X) (show cq z _ from cq.new S1 O) (H.iU O) (.ab C L ⟨_,kw _ rfl,rfl,rfl⟩)|ref i=>
 change(match U[i]? with|some (.list xs)=>if xs.length<av then D (xs,D (i,xs))else I|_=>I)=_ at e;rcases q:U[i]? with _|o;.rw[q]at e;exact nS e
 rw[q]at e;induction o using AO.casesOn with|list ys=>obtain⟨hz,e⟩:=cc e;cases e;refine cps fun P g=>?_;obtain⟨p,vs,n,j,rfl,_,C,L⟩:=jI S1 q M;refine g ?_;refine wpAny_pyIter_list (items:=vs) ⟨_,C,rfl,n,rfl⟩ ?_;have X:∀b o,z.s.heap.get? b=D o->(z.s.heap.push {cls:=.type "list_iterator",data:=.fields #[.ref p.1,.int 0 0]}).get? b=D o:=fun b o e=>gp _ e;exact kk _ _ _ (z.hp _ z.s.toks) _ J hz (H.trans (bZ.more X)) (S1.more X) (show cq z _ from cq.new S1 O) (H.iU O) (.list j ⟨_,kw _ rfl,rfl,rfl⟩)|_=>exact nS e
|_=>exact nS e
theorem WE(T:tZ B.X)(he:bG B e):xa B (.range e):=fun{c x}m{A E env lc σ y k Q}h Z kk=>by
 have m1:=bR (bR (bR m));have g:=T.gq;rw[<-aV.mp (bL m1)]at g;refine fw (Q:=fun v oO=>wpAny B.M A (pyIter v) Q E oO) (bL m) ?_;show wpAny _ A (eval (.Call (e1 x) (cM x) [] (bP x)) env) _ E y.s;have u4:cM x=[(cM x).headD dE]:=by
  have q:=bL (bR m1);rcases r:cM x with _|⟨a,l⟩;.rw[r]at q;exact nB q
  rw[r]at q;induction l using eQ with|nil=>rfl|cons=>exact nB q
 rw[fb (bL (bR m)),u4];refine JA (t4 Z.L Z.S (bL (bR (bR m))) (.inr g) ?_);have me:kY B.X.N (.cons e .nil) c [(cM x).headD dE]=true:=by show(bJ _ _ _ _&&Y)=Y;rw[(bR (bR m1))];rfl
 refine ub (es:=.cons e .nil) (Jw he Ju) (first:=[]) me (k:=fun ds σ=>match ds with|[d]=>jX d fun i=>(i<1000000&&small i)=Y/\k (rK i.toNat) I σ|_=>False) h Z (w8 (by intro a z;cases z)) fun ds bY z vs h1 x1 S1 w1=>?_;induction w1 using F2.casesOn with|nil=>exact h1.elim|cons w1 hs=>induction hs using F2.casesOn with|cons=>exact h1.elim|nil=>
  obtain⟨n,rfl,hn,h1⟩:=gi h1;refine VR.iE w1 fun t=>?_;show wpAny _ A (call (.type "range") [.int n t]) _ E _;refine call_range_1 ?_;have n1:n<1000000:=cA (bL hn);have WF:ap0 0 n 1=true:=by exact small_one (by decide) (by decide) (uA (by decide+kernel) (my (xP.mp (bR hn)).1)) (rQ n1 (by decide+kernel))
  refine wpAny_pyIter_range (IsRange.new ..) WF ?_;have xb:∀b o,z.s.heap.get? b=D o->(z.s.heap.push {cls:=.type "range",data:=.fields #[.int 0 z.s.toks,.int n t,.int 1 (z.s.toks+1)]}).get? b=D o:=fun b o e=>gp _ e;generalize ue:z.s.heap.push {cls:=.type "range",data:=.fields #[.int 0 z.s.toks,.int n t,.int 1 (z.s.toks+1)]}=H2 at xb;have n0:=k3 H2;have x2:bZ y (z.hp H2 (z.s.toks+1+1)):=x1.trans (bZ.more xb);have S2:HR B.X bY (z.hp H2 (z.s.toks+1+1)):=S1.more xb;have Bd:∀b o,H2.get? b=D o->(H2.push {cls:=.type "range_iterator",data:=.fields #[rawInt 0,rawInt (t? 0 n 1),rawInt 1]}).get? b=D o:=fun b o e=>gp _ e;have e:t? 0 n 1=((n.toNat:Nat):Int)-((0:Nat):Int):=by
   rw[rangeSize_one];by_cases h:0<n;.rw[af h,lk (my h)];rfl
   .rw[am h,Int.toNat_of_nonpos (ig.mp h)];rfl
  have nT:n.toNat<1000000:=(Int.toNat_lt' (fg _)).mpr n1;have fp:=kk _ _ _ ((z.hp H2 (z.s.toks+1+1)).hp _ (z.s.toks+1+1)) H2.objs.size h1 (by rw[Bc];exact gY nT (cm rfl)) (x2.trans (bZ.more Bd)) (S2.more Bd) (show cq (z.hp H2 (z.s.toks+1+1)) _ from cq.new S2 n0) (x2.iU n0) (.gq (n:=n.toNat) nT rfl (bQ _) (by rw[e.symm];exact kw _ rfl));clear xb n0 x2 S2 Bd;subst ue;exact fp
end
end
section
open PySem.W PySem.Calls PyProof.Rows
section
theorem WG(al:Nat->cJ->Prop)(WH:∀n s,al n s->wpAny (model prog w) A (pyNext it) (fun r oO=>match r with|none=>R (.ok .next) oO|some v=>wpAny (model prog w) A (LO target it v) (fun _ xc=>wpAny (model prog w) A (assign target env v) (fun _ t9=>wpAny (model prog w) A (forIn ifs Y fun c r=>if r=Y then do let ok<-isTrue c env (eval c env);pure (mu ok)else pure (mu r)) (fun ok rI=>if ok=Y then wpAny (model prog w) A (eval kD env) (fun x rL=>wpAny (model prog w) A (call (.builtin "list.append") [dN,x]) (fun _ xd=>∃m,m<n/\al m xd) (notedBy (model prog w) A env fun e s'=>R (.error e) s') rL) (notedBy (model prog w) A env fun e s'=>R (.error e) s') rI else∃m,m<n/\al m rI) (notedBy (model prog w) A env fun e s'=>R (.error e) s') t9) (notedBy (model prog w) A env fun e s'=>R (.error e) s') xc) (notedBy (model prog w) A env fun e s'=>R (.error e) s') oO) (notedBy (model prog w) A env fun e s'=>R (.error e) s') s)(n:Nat)(h:al n s):codeAny (model prog w) A (.compLoop (.ListComp kD [⟨target,iter,ifs,0⟩] scope pos) 0 it dN env) R s:=by
 refine codeAny_loop rfl al (fun n s hI=>?_) n h;show wpAny _ A ((compTurn (.ListComp kD [⟨target,iter,ifs,0⟩] scope pos) 0 it dN env).onRaise (fun x=>do noteFrame x env;theTreesLotGoes x)) _ _ s;refine wpAny_noted ?_;rw[compTurn_list];refine aA (B4 (aA (lr (WH n s hI) (fun r oO wZ=>?_) fun _ _ h'=>h')));rcases r with _|v;.exact aX wZ
 refine aA (lr wZ (fun _ xc WJ=>?_) fun _ _ h'=>h');refine aA (lr WJ (fun _ t9 A0=>aA (lr A0 (fun ok rI w6=>?_) fun _ _ h'=>h')) fun _ _ h'=>h');rcases ok with _|_;.exact aX ⟨rfl,w6⟩
 exact aA (aA (lr w6 (fun x rL WK=>aA (lr WK (fun _ xd WL=>aX (aX ⟨rfl,WL⟩)) fun _ _ h'=>h')) fun _ _ h'=>h'))
end
theorem JH(Z:qj)(x:bh):∀l:List (bh×qp),(l.map fun(n,k)=>if(k==.free&&Z.kind==.function&&Z.names.lookup n==D .cell)then(n,LQ)else(n,k)).lookup x=(l.lookup x).map fun k=>if(k==.free&&Z.kind==.function&&Z.names.lookup x==D .cell)then .cell else k:=by intro l;induction l with|nil=>exact rfl|cons X r U=>
obtain⟨n,k⟩:=X;rw[ii,js];have e:∀{b:Bool},(if b=Y then(n,LQ)else(n,k))=(n,if b=Y then LQ else k):=fun{b}=>by cases b<;>rfl
show((if _ then _ else _:bh×qp)::_).lookup x=_;rw[e,js,js];rcases J:x==n with _|_;.exact(U)
rw[aV.mp J];rfl
theorem WM:∀(l:List (bh×qp))(dN:List (bh×bu)),(∀x∈l,x.2=.free->(env.cells.lookup x.1).isSome=Y)->(∀x a,dN.lookup x=D a->env.cells.lookup x=D a)->∃cl,(forIn l dN fun(x:bh×qp)cs=>if(x.2==.free)=Y then(do let a<-cellOf env x.1;pure (mu ((x.1,a)::cs)))else pure (mu cs):Sem _)=pure cl/\(∀x a,cl.lookup x=D a->env.cells.lookup x=D a)/\(∀x∈l,x.2=.free->cl.lookup x.1=env.cells.lookup x.1)/\(∀x a,dN.lookup x=D a->cl.lookup x=D a):=by intro l;induction l with|nil=>intro dN _ h;exact⟨dN,rfl,h,fun _ hx=>(nomatch hx),fun _ _ e=>e⟩|cons x0 r ih=>
  obtain⟨n,k⟩:=x0;intro dN hf h;rw[BS];by_cases hk:k=.free
  .subst hk;obtain⟨a,ha⟩:=BK.mp (hf (n,.free) (.head _) rfl);have uc:((n,a)::dN).lookup n=D a:=by rw[js,beq_self_eq_true]
   have WN:∀x b,((n,a)::dN).lookup x=D b->env.cells.lookup x=D b:=fun x b e=>by
    rw[js]at e;rcases hx:x==n with _|_;.rw[hx]at e;exact h x b e
    rw[hx]at e;cases e;rw[aV.mp hx];exact ha
   refine cps fun P hP=>?_;obtain⟨cl,e1,e2,e3,e4⟩:=ih ((n,a)::dN) (fun x hx=>hf x (.tail _ hx)) WN;refine hP ?_;refine⟨cl,?_,e2,fun x hx hk=>(ce.mp hx).elim (fun e=>by rw[e];exact(e4 n a uc).trans ha.symm) fun hx=>e3 x hx hk,fun x b e=>e4 x b ?_⟩;.rw[af (by rfl),show cellOf env n=pure a by unfold cellOf;rw[ha]];exact e1
   .rw[js];rcases hx:x==n with _|_;.exact e
    rw[<-h x b e,aV.mp hx,ha]
  .refine cps fun P hP=>?_;obtain⟨cl,e1,e2,e3,e4⟩:=ih dN (fun x hx=>hf x (.tail _ hx)) h;refine hP ?_;exact⟨cl,by rw[am (by rw[gl.mpr hk];exact oS)];exact e1,e2,fun x hx oi=>(ce.mp hx).elim (fun e=>ae (e▸oi:(n,k).2=.free) hk) fun hx=>e3 x hx oi,e4⟩
structure rM(c:Cn)(sc:qj)(tg:Tg)(nc:List (Option bh)):Prop where
fn:sc.kind=.function
JI:c.scope.kind=.function
Be:∀x∈sc.names,x.2≠.cell
rB:∀x∈sc.names,x.2=.local->sc.names.lookup x.1=D .local
free:∀x∈sc.names,x.2=.free->c.kd x.1=D .cell
nd:(nc.filterMap id).Nodup
len:nc.length=c.names.length
Bf:ww c sc tg.slots 0 nc=Y
JJ:IC sc nc tg.slots=Y
theorem JK(h:ID c J tg nc=Y):rM c J tg nc:=have Z:∀{p:bh×qp->Bool},J.names.all p=Y->∀x∈J.names,p x=true:=fun h=>fR.mp h;have X:∀{k E:qp}{b:Bool},(k !=E||b)=Y->k=E->b=true:=fun h e=>(rW.mp h).resolve_left fun z=>fy.mp z e;have H:=bR (bR h);have Q:=bR (bR H);have O:=bR (bR Q);{fn:=aV.mp (bL h),JI:=aV.mp (bL (bR h)),Be:=fun x U=>fy.mp (Z (bL H) x U),rB:=fun x U e=>aV.mp (X (Z (bL (bR H)) x U) e),free:=fun x U e=>aV.mp (X (Z (bL Q) x U) e),nd:=cA (bL (bR Q)),len:=cA (bL O),Bf:=bL (bR O),JJ:=bR (bR O)}
theorem JL:∀{nc:List (Option bh)}{k i:Nat}{x:bh},ww c Z tg k nc=Y->nc[i]?=D (D x)->(Z.names.lookup x=D .local/\(k+i)∈tg)\/(Z.names.lookup x=D .free/\c.names[k+i]?=D (D x)/\c.kd x=D .cell):=by intro nc;induction nc with|nil=>intro k i x h e;exact nS e|cons o r X=>
intro k i x h e;rcases i with _|i;.cases e;exact(rW.mp (bL h)).imp (fun h=>⟨aV.mp (bL h),u?.mp (bR h)⟩) fun h=>⟨aV.mp (bL h),aV.mp (bL (bR h)),aV.mp (bR (bR h))⟩
have:=X (i:=i) (bR h) e;rwa[um]at this
noncomputable def iB:List Nat->Lc->Lc|[],lc=>lc|i::r,lc=>(iB r lc).set i I
theorem xe:∀(Z:List Nat)(lc:Lc),(iB Z lc).length=lc.length:=by intro Z;induction Z with|nil=>intro _;exact rfl|cons i r X=>intro lc;exact oX.trans (X lc)
theorem xf:∀(is:List Nat)(lc:Lc)(j:Nat)(d:aa),(iB is lc)[j]?=D (D d)->lc[j]?=D (D d)/\j∉is:=by intro is;induction is with|nil=>intro lc j d h;exact⟨h,bK⟩|cons i r Z=>
  intro lc j d h;change((iB r lc).set i I)[j]?=_ at h;by_cases e:i=j
  .subst e;by_cases q:i<(iB r lc).length;.rw[ul q]at h;exact nS (b9 h)
   .rw[jo (by rw[oX];exact g9.mp q)]at h;exact nS h
  .rw[rU e]at h;have Z:=Z lc j d h;exact⟨Z.1,fun m=>(ce.mp m).elim (fun q=>e q.symm) Z.2⟩
theorem WO:∀(Z:List Nat)(lc:Lc)(j:Nat),j∉Z->(iB Z lc)[j]?=lc[j]?:=by intro Z;induction Z with|nil=>intro _ _ _;exact rfl|cons i r X=>intro lc j h;exact(rU fun e=>h (by rw[e];exact aW)).trans (X lc j fun q=>h (cI _ q))
theorem JM:∀{X:List Nat}{l:List aa}{lc Z:Lc},lc.length=Z.length->(∀j,j∉X->lc[j]?=Z[j]?)->n5 lc X l=n5 Z X l
|[],[],lc,Z,_,h=>aI D (YY fun j=>h j bK)|[],_::_,_,_,_,_=>rfl|_::_,[],_,_,_,_=>rfl|i::X,d::l,lc,Z,U,h=>by
  show(if i<lc.length then n5 (lc.set i (D d)) X l else I)=if i<Z.length then n5 (Z.set i (D d)) X l else I;rw[U];by_cases q:i<Z.length
  .rw[af q,af q];refine JM (by rw[oX,oX,U]) fun j J=>?_;by_cases e:i=j;.clear J;subst e;rw[ul (U▸q),ul q]
   .rw[rU e,rU e];exact h j fun m=>(ce.mp m).elim (fun q=>e q.symm) J
  .rw[am q,am q]
theorem WP(lc:Lc)(t:Tg)(d:aa):fj (iB t.slots lc) t d=fj lc t d:=by induction t using Tg.casesOn with|ag i=>show(if i<(iB [i] lc).length then D ((lc.set i I).set i (D d))else I)=_;rw[xe,List.set_set];rfl|fT X=>induction d using aa.casesOn with|ab l=>exact JM (xe _ _) fun j Z=>WO _ _ _ Z|_=>rfl
section
theorem LR.iB(L:LR c env lc y)(U:List Nat):LR c env (iB U lc) y:={L with
len:=(xe _ _).trans L.len
ns:=(by obtain⟨J,Z,X⟩:=L.ns;exact⟨J,Z,fun i x d e1 e2 e3=>X i x d e1 e2 (xf _ _ _ _ e3).1⟩)
cell:=fun x H=>(by obtain⟨a,Z,X,q,Q,O⟩:=L.cell x H;exact⟨a,Z,X,q,Q,fun i d e1 e2=>O i d e1 (xf _ _ _ _ e2).1⟩)}
theorem WQ{cond:Te}(JN:hY B cond)(m:wC (jj B.X.N cond c) (wD cond) fs=Y)(h:wT WD B.C cond lc σ k)(Z:Si B A c env lc σ y)(kk:AX B.X y k Q):wpAny B.M A (forIn fs Y fun c r=>if r=Y then do let ok<-isTrue c env (eval c env);pure (mu ok)else pure (mu r)) Q E y.s:=by
 rcases fs with _|⟨f,r⟩;.induction cond using Te.casesOn with
|ex e=>induction e using Ex.casesOn with|lit d=>clear JN;cases cA m;exact wpAny_tests_nil (kk _ _ _ h .refl Z.S)|_=>exact nB m
 |_=>exact nB m
 rcases r with _|⟨_,_⟩;.exact wpAny_tests_one (JN m h Z (fun _ _=>rfl) kk)
 exact nB m
theorem JO{X:Type}{k:X}:∀{l:List (bh×X)},l.lookup x=D k->(x,k)∈l:=by intro l;induction l with|nil=>intro h;exact nS h|cons U r J=>
obtain⟨n,H⟩:=U;intro h;rw[js]at h;rcases Z:x==n with _|_;.rw[Z]at h;exact .tail _ (J h)
rw[Z]at h;cases h;rw[aV.mp Z];exact .head _
theorem WR(k:rM c Z tg nc)(L:LR c env lc y)(X:∀x a,cl.lookup x=D a->env.cells.lookup x=D a)(J:∀x∈Z.names,x.2=.free->cl.lookup x.1=env.cells.lookup x.1)(H:∀b o,y.s.heap.get? b=D o->h'.get? b=D o)(j:y.s.heap.get? C=I)(r:cq y C)(u:h'.Ns C w):LR (c.aY nc Z) (compEnvC Z cl C env) (iB tg.slots lc) (y.hp h' t):=by
 have A:∀x,(p8 Z c.scope).names.lookup x=(Z.names.lookup x).map fun k=>if(k==.free&&c.scope.kind==.function&&c.scope.names.lookup x==D .cell)then .cell else k:=fun x=>JH c.scope x Z.names;refine⟨?_,k.fn,L.ai,L.blt,(xe _ _).trans (L.len.trans k.len.symm),k.nd,r,⟨w,u,fun i x d e1 e2 e3=>?_⟩,fun x O=>?_,fun x y a e1 e2=>L.apart x y a (X x a e1) (X y a e2)⟩;.show relabel Z env=p8 Z c.scope;unfold relabel p8 Env.kindOf;rw[L.scope]
 .have e3:=(xf _ _ _ _ e3).2;rcases JL k.Bf e1 with⟨_,Q⟩|⟨E,_,v⟩;.rw[gj]at Q;exact ae Q e3
  .have e2:(p8 Z c.scope).names.lookup x=D .local:=e2;rw[A,E,k.JI,show c.scope.names.lookup x=_ from v]at e2;cases e2
 .have O:(p8 Z c.scope).names.lookup x=D .cell:=O;rw[A]at O;obtain⟨kk,M,K⟩:=qm.mp O;by_cases z:(kk==.free&&c.scope.kind==.function&&c.scope.names.lookup x==D .cell)=Y
  .have U:=aV.mp (bL (bL z));clear K;subst U;refine cps fun P m=>?_;obtain⟨a,g,f,q,l,e⟩:=(L.ext (bZ.more H)).cell x (aV.mp (bR z));refine m ?_;refine⟨a,(J _ (JO M) rfl).trans g,⟨f.1,fun n=>?_⟩,q,l,fun i d e1 e2=>?_⟩;.obtain⟨b,h,_,q',⟨o,ho,_⟩,_⟩:=L.cell x (aV.mp (bR z));cases g.symm.trans h;exact nn ho ((show a=C from n)▸j)
   .rcases JL k.Bf e1 with⟨E,_⟩|⟨_,Q,_⟩;.cases M.symm.trans E
    .rw[gj]at Q;exact e i d Q (xf _ _ _ _ e2).1
  .rw[am z]at K;exact ae K (k.Be _ (JO M))
theorem JP(L:LR c env lc y)(k:rM c sc tg nc):∃cl,closureFor sc env=pure cl/\(∀x a,cl.lookup x=D a->env.cells.lookup x=D a)/\(∀x∈sc.names,x.2=.free->cl.lookup x.1=env.cells.lookup x.1):=by obtain⟨cl,e1,e2,e3,_⟩:=WM (env:=env) sc.names [] (fun x hx hf=>by obtain⟨a,ha,_⟩:=L.cell x.1 (k.free x hx hf);rw[ha];rfl) (fun x a e=>nS e);refine⟨cl,?_,e2,e3⟩;unfold closureFor;rw[bind_pure];exact e1
theorem Bg(h:aG 6 i=aj)(x:aH):foldedSetIterable i env x=pure x:=by cases i<;>first|rfl|cases h
end
end
section
open PySem.W PySem.Calls PyProof.Rows
inductive CI(B:Bx)(A:mw)(c':Cn)(JQ:mE)(tg:Tg)(g:Option (Nat×List aa))(cond:Te)(kD:Ex)(xs:List aa)(al L:bu)(k:Po)(y0:Cf):Nat->cJ->Prop where|mk{z:Cf}{j:Nat}{done:List aa}{lc:Lc}{σ:AH}{vs:Array aH}{nn:Nat}(hj:j<=xs.length)(X:bZ y0 z)(Z:Si B A c' JQ (iB tg.slots lc) σ z)(T1:cq z al)(I1:df xs al j z g)(TL:cq z L)(hL:z.s.heap.get? L=D (lZ vs nn))(hV:z.Vs done vs.toList)(hl:done.length<=j)(hN:jY g tg (wT WD B.C cond) (wE WD B.C kD) (xs.drop j) done lc σ k):CI B A c' JQ tg g cond kD xs al L k y0 (xs.length-j) z.s
section
theorem WS(K:rM c Z tg nc)(h:ud (c.aY nc Z) (compEnvC Z cl C env) tg.slots a):a=C:=by
 obtain⟨i,hi,x,X,H⟩:=h;have X:nc[i]?=D (D x):=X;have J:=fR.mp K.JJ i hi;rw[X]at J;have U:(p8 Z c.scope).names.lookup x=D .local:=(JH c.scope x Z.names).trans (by rw[aV.mp J];rfl);rcases H with⟨_,q⟩|⟨q,_⟩;.exact q
 .cases U.symm.trans q
theorem WT{cond:Te}(i:hY B cond)(Bh:bG B O)(K:rM c U tg nc)(ht:p9 (c.aY nc U) tg t=Y)(he:bJ B.X.N O (c.aY nc U) e=Y)(hf:wC (jj B.X.N cond (c.aY nc U)) (wD cond) fs=Y)(xg:y0.s.heap.get? al=I)(WU:y0.s.heap.get? C=I)(WV:y0.s.heap.get? L=I)(iL:al≠L)(lC:L≠C)(hx:xs.length<av){R:Result->cJ->Prop}(kk:∀z ds vs n mC au,k (.ref au.length) (au++[.list ds])->bZ y0 z->HR B.X au z->cq z L->cq z C->z.s.heap.get? L=D (lZ vs n)->z.Vs ds vs.toList->z.s.heap.Ns C mC->R (.ok .next) z.s)(h:CI B A (c.aY nc U) (compEnvC U cl C env) tg g cond O xs al L k y0 n s):wpAny B.M A (pyNext (.ref al)) (fun r w=>match r with|none=>R (.ok .next) w|some v=>wpAny B.M A (LO t (.ref al) v) (fun _ xc=>wpAny B.M A (assign t (compEnvC U cl C env) v) (fun _ t9=>wpAny B.M A (forIn fs Y fun c r=>if r=Y then do let ok<-isTrue c (compEnvC U cl C env) (eval c (compEnvC U cl C env));pure (mu ok)else pure (mu r)) (fun ok f=>if ok=Y then wpAny B.M A (eval e (compEnvC U cl C env)) (fun x rL=>wpAny B.M A (call (.builtin "list.append") [.ref L,x]) (fun _ xd=>∃m,m<n/\CI B A (c.aY nc U) (compEnvC U cl C env) tg g cond O xs al L k y0 m xd) E rL) E f else∃m,m<n/\CI B A (c.aY nc U) (compEnvC U cl C env) tg g cond O xs al L k y0 m f) E t9) E xc) E w) E s:=by induction h using CI.casesOn with|@mk z j done lc σ vs nn hj X Z T1 I1 TL hL hV hl Q=>
 rcases qf j xs.length with H|WW
 .rw[K8 H]at Q;have yK:=Q.1;have Q:=Q.2;obtain⟨WX,l,Q⟩:=gO.out Q;refine JE I1 T1 Z.S yK (dL H) fun v h2 t2 hv J I2 S2=>JG (y:=z.hp h2 t2) ht I2 ?_;have L2:LR (c.aY nc U) (compEnvC U cl C env) (iB tg.slots lc) (z.hp h2 t2):=Z.L.iA (I1.iS Z.L) J;have JR:=J _ _ (g8 iL) hL;rw[<-WP]at l;refine Bb (y:=z.hp h2 t2) Z.R.1 ht l L2 S2 hv fun h3 t3 Bj L3 S3=>?_;have WY:=Bj _ _ (fun ow=>L2.iS JR nofun nofun ow.aQ) JR;have I3:df xs al (j+1) (z.hp h3 t3) g:=I2.w9 fun o e=>Bj _ _ (fun ow=>I2.iS L2 ow.aQ) e;have X3:bZ y0 (z.hp h3 t3):=X.l0 (fun b=>b=al\/b=C) (fun a o e z=>Bj a o (fun ow=>z (.inr (WS K ow))) (J a o (fun q=>z (.inl q)) e)) fun a q=>q.elim (fun q=>q▸xg) fun q=>q▸WU;have lt:xs.length-(j+1)<xs.length-j:=v? H (mf j);refine WQ (y:=z.hp h3 t3) i hf Q ⟨Z.R,L3,S3⟩ fun b cz z4 h4 d S4=>?_;have q4:=cq.ext (y:=z.hp h3 t3) TL d WY id;have i4:=I3.ext T1 d id;rcases b with _|_;.exact⟨_,lt,.mk H (X3.trans d) ⟨Z.R,(L3.ext d).iB _,S4⟩ i4.1 i4.2 q4.1 q4.2 (eJ.ext (y:=z.hp h3 t3) hV d) (lj hl) h4⟩
  refine Bh he h4 ⟨Z.R,L3.ext d,S4⟩ fun d5 fF z5 v5 h5 x5 S5 w5=>?_;have q5:=cq.ext q4.1 x5 q4.2 id;have i5:=i4.2.ext i4.1 x5 id;have L5:=(L3.ext d).ext x5;have WZ:=(eJ.ext (eJ.ext (y:=z.hp h3 t3) hV d) x5);refine wpAny_list_append_plain ⟨nn,q5.2⟩ (fun H6 W0 W1=>?_) (by rw[fJ hV];exact bj hl (bj (li H) (jH hx)));obtain⟨M',W2⟩:=W0;have u:∀b o,b≠L->z5.s.heap.get? b=D o->H6.get? b=D o:=fun b o nb e=>(W1.2 b nb).trans e;exact⟨_,lt,.mk (z:=z5.hp H6 z5.s.toks) H (((X3.trans d).trans x5).l0 (·=L) (fun a o e z=>u a o z e) fun a q=>q▸WV) ⟨Z.R,(L5.iA (L5.iS q5.2 nofun nofun) u).iB _,S5.iA q5.1 u⟩ i5.1 (i5.2.w9 fun o e=>u _ _ iL e) q5.1 W2 (by rw[Lb];exact F2.append WZ (.ag w5)) (by rw[aU];exact mi hl) h5⟩
 .have e:=fx hj WW;subst e;rw[BL]at Q;refine JF Z.R.1 I1 T1 Z.S Q.1 (aE _) fun h2 t2 J S2=>?_;have L2:LR (c.aY nc U) (compEnvC U cl C env) (iB tg.slots lc) (z.hp h2 t2):=Z.L.iA (I1.iS Z.L) J;refine cps fun P hP=>?_;obtain⟨W3,W4,_⟩:=L2.ns;refine hP ?_;exact kk (z.hp h2 t2) _ vs nn W3 σ Q.2 (X.l0 (·=al) (fun a o e z=>J a o z e) fun a q=>q▸xg) S2 TL L2.out (J _ _ (g8 iL) hL) hV W4
theorem JS{cond:Te}(q:hY B cond)(Bh:bG B l)(K:rM c Q tg nc)(ht:p9 (c.aY nc Q) tg t=Y)(he:bJ B.X.N l (c.aY nc Q) e=Y)(hf:wC (jj B.X.N cond (c.aY nc Q)) (wD cond) fs=Y)(W5:∀x a,cl.lookup x=D a->env.cells.lookup x=D a)(W6:∀x∈Q.names,x.2=.free->cl.lookup x.1=env.cells.lookup x.1)(x0:bZ y0 y)(xg:y0.s.heap.get? al=I)(Z:Si B A c env lc σ y)(hI:cq y al)(JT:df xs al 0 y g)(hx:xs.length<av)(ec:jY g tg (wT WD B.C cond) (wE WD B.C l) xs [] lc σ k){RR:aH->bu->Result->cJ->Prop}(kk:∀L C z ds vs n mC O,k (.ref O.length) (O++[.list ds])->bZ y0 z->HR B.X O z->cq z L->cq z C->L≠C->y0.s.heap.get? L=I->y0.s.heap.get? C=I->z.s.heap.get? L=D (lZ vs n)->z.Vs ds vs.toList->z.s.heap.Ns C mC->RR (.ref L) C (.ok .next) z.s):wpAny B.M A (newList []) (fun dN rI=>wpAny B.M A (newFunctionEnv Q env.globals cl [] env.qual I .none (D env)) (fun u rL=>codeAny B.M A (.compStart (.ListComp e [⟨t,i,fs,0⟩] Q pos) 0 (.ref al) dN {u with scope:=relabel Q env}) (RR dN u.locals) rL) E rI) E y.s:=by
 refine xF (wpAny_newFunctionEnv K.Be (fun y hy=>nomatch hy) (fun w J U=>?_) K.fn);dsimp only at J U⊢;generalize ue:y.s.heap.push {cls:=.type "list",dict:=I,data:=.seq ([]:List aH).toArray}=H2 at J U⊢;have hC:H2.objs.size=y.s.heap.objs.size+1:=by rw[ue.symm,k?]
 have r:∀a,y.s.heap.objs.size<=a->y.s.heap.get? a=none:=fun a ha=>by
  rcases e:y.s.heap.get? a with _|o';.rfl
  exact ae (r9 e) (g9.mpr ha)
 have lC:y.s.heap.objs.size≠H2.objs.size:=by rw[hC];exact lb (mf _)
 have H:∀b o,y.s.heap.get? b=D o->w.get? b=D o:=fun b o e=>U.extBut b o (by rw[hC];exact lb (ZN (r9 e))) (gp _ (ue▸gp _ e));have nC:y.s.heap.get? H2.objs.size=none:=r _ (by rw[hC];exact dh _);have nL:y.s.heap.get? y.s.heap.objs.size=none:=r _ (aE _);have iL:al≠y.s.heap.objs.size:=fun z=>by obtain⟨o,ho,_⟩:=JT.obj;exact nn ho (z▸nL)
 let z:Cf:=y.hp w (y.s.toks+([]:List (bh×aH)).length);have v:df xs al 0 z g:=JT.w9 fun o e=>H _ o e;have m:codeAny B.M A (.compLoop (.ListComp e [⟨t,i,fs,0⟩] Q pos) 0 (.ref al) (.ref y.s.heap.objs.size) (compEnvC Q cl H2.objs.size env)) (RR (.ref y.s.heap.objs.size) H2.objs.size) z.s:=WG (CI B A (c.aY nc Q) (compEnvC Q cl H2.objs.size env) tg g cond l xs al y.s.heap.objs.size k y0) (fun n s' h=>WT q Bh K ht he hf xg (x0.iU nC) (x0.iU nL) iL lC hx (fun z ds vs n mC O a b c d e f g h=>kk _ _ z ds vs n mC O a b c d e lC (x0.iU nL) (x0.iU nC) f g h) h) xs.length (.mk (j:=0) (bQ _) (x0.trans (bZ.more H)) ⟨Z.R,(WR K Z.L W5 W6 H nC (cq.new Z.S nC) J),Z.S.more H⟩ hI v (show cq y _ from cq.new Z.S nL) (U.extBut _ _ lC (gp _ (ue▸kw _ rfl))) .nil (aE _) ec);exact codeAny_compStart_list m (WA v m)
theorem JU{G:Comprehension}(h:G.is_async=0):G=⟨G.target,G.iter,G.ifs,0⟩:=by cases(G);cases h;rfl
theorem W7{cond:Te}(r:xa B it)(H:hY B cond)(j:bG B u):bG B (.comp tg it cond u nc):=fun{c x}m{A E env lc σ y k Q}h Z kk=>by have m1:=bR (bR m);have K:=JK (bL m1);have m2:=bR (bR m1);have m3:=bR (bR m2);obtain⟨cl,c1,c2,c3⟩:=JP Z.L K;refine fw (bL m) ?_;have e:fZ x=⟨(fZ x).target,(fZ x).iter,(fZ x).ifs,0⟩:=JU (aV.mp (bL (bR m)));show wpAny _ A (eval (.ListComp (e1 x) [fZ x] (m9 x) (bP x)) env) Q E y.s;rw[e,eval_ListComp];refine w? (use:=I) rfl (Bg (gW (bL (bR m2)))) c1 K.fn K.rB ?_;refine r (bL m2) h Z fun xs g bY z J h1 hx x1 S1 T1 n1 I1=>?_;refine JS H j K (bL (bR m1)) (bL m3) (bR m3) c2 c3 x1 n1 (Z.ext x1 S1) T1 I1 hx h1 (RR:=fun w C=>compPost B.M A E I Q w C) ?_;intro L C O ds vs n mC v h2 x2 S2 TL TC f nL nC hL hV l;refine⟨mC,l,fun U d=>?_⟩;have hk:∀b o,b≠C->O.s.heap.get? b=D o->U.get? b=D o:=fun b o nb e=>(d.2 b nb).trans e;have S3:HR B.X v (O.hp U O.s.toks):=S2.iA TC hk;have S4:=S3.cell (t:=O.s.toks) (p:=(L,L)) (h':=U) TL TL (fun _ _ e=>e) (.list rfl (hk _ _ f hL) (F2.aq (·.aq (fun _ _ z=>z) fun i q e=>(ib (bp.mp e).1).trans e) hV));exact kk _ _ ((O.hp U O.s.toks).cl (L,L) U O.s.toks) _ h2 ((x2.l0 (·=C) (fun a o e z=>hk a o z e) fun a q=>q▸nC).cl nL nL fun _ _ e=>e) S4.1 S4.2.2
end
section
mutual theorem ck(T:fc B):∀e:Ex,bG B e|.lit d=>VC|.var i=>VD|.ai g=>VF T.t1|.ao e f=>VG T.t2 (ck T e)|.ad a i=>VJ (ck T a) (ck T i)|.hG a lo hi=>VK (ck T a) (ck T lo) (ck T hi)|.aK op a b=>VL (ck T a) (ck T b)|.neg a=>VM (ck T a)|.nU a=>VN (ck T a)|.ah op a b=>VO (ck T a) (ck T b)|.dA p a=>VP (ck T a)|.aY p a b=>VQ T.t2 (ck T a) (ck T b)|.no a=>VS (ck T a)|.and a b=>VV (ck T a) (ck T b)|.or a b=>VW (ck T a) (ck T b)|.ite t a b=>VX (l6 T t) (ck T a) (ck T b)|.ab es=>Wh (qc T es)|.dB es=>Wi (qc T es)|.il=>Wj|.comp tg X cond Z nc=>W7 (Bk T X) (l6 T cond) (ck T Z)|.call f es=>Wl T (qc T es)|.new c es=>Wr T (qc T es)|.aR m o es=>Ws T (ck T o) (qc T es)|.bi b es=>Wm T (qc T es)|.iZ=>by intro m A E env lc σ y k Q h;exact h.elim theorem qc(T:fc B):∀es:Es,k6 B es|.nil=>Ju|.cons e es=>Jw (ck T e) (qc T es)theorem l6(T:fc B):∀t:Te,hY B t|.ex e=>V2 (ck T e)|.no t=>V4 (l6 T t)|.and a b=>V5 (l6 T a) (l6 T b)|.or a b=>V6 (l6 T a) (l6 T b)|.gq a b c=>V7 (ck T a) (ck T b) (ck T c)theorem Bk(T:fc B):∀Z:It,xa B Z|.ex e=>WC (ck T e)|.range n=>WE T.t1 (ck T n)end
end
end
section
open PySem.W PySem.Calls PyProof.Rows
structure rN(B:Bx)(A:mw)(c:Cn)(env:mE)(y:Cf)(aw:Kt)(Q:Flow->cJ->Prop):Prop where
n:∀{lc σ z},aw.kn lc σ->cG (gh c env) y z->Si B A c env lc σ z->Q .next z.s
r:∀{d σ z v},aw.kr d σ->cG (gh c env) y z->HR B.X σ z->z.ak d v->Q (.ret v) z.s
c:∀{lc σ z},aw.kc lc σ->cG (gh c env) y z->Si B A c env lc σ z->Q .cont z.s
section
variable(B:Bx)
abbrev iC(Z:Sm):Prop:=∀{c x},IF B.X.N Z c x=Y->∀{A E env lc σ y aw Q},wS WD B.C Z lc σ aw->Si B A c env lc σ y->rN B A c env y aw Q->wpAny B.M A (exec x env) Q E y.s
abbrev oQ(Z:Ss):Prop:=∀{c l},oH B.X.N Z c l=Y->∀{A E env lc σ y aw Q},aP WD B.C Z lc σ aw->Si B A c env lc σ y->rN B A c env y aw Q->wpAny B.M A (execs l env) Q E y.s
end
section
variable{B:Bx}{c:Cn}
theorem cG.o(x:bZ y z):cG P y z:=x.Us fun _ q=>q.elim
theorem rN.go(k:rN B A c env y aw Q)(x:cG (gh c env) y z):rN B A c env z aw Q:=⟨fun h X Z=>k.n h (x.trans X) Z,fun h X S U=>k.r h (x.trans X) S U,fun h X Z=>k.c h (x.trans X) Z⟩
theorem jk(h:iz n x=Y)(k:wpAny M A (exec (Aw n x) env) Q E s):wpAny M A (exec x env) Q E s:=Uh (P:=fun x=>wpAny M A (exec x env) Q E s) h k
theorem uf(h:(aG 7 v||aG 8 v)=aj):B5 v t n env=pure false:=by induction v using gH with|ListComp e g s p=>exact nB (h.symm.trans (by show(cu (cond (fP g) 7 8) 7||Nat.beq (cond (fP g) 7 8) 8)=Y;cases fP g<;>rfl))|SetComp=>cases h|DictComp=>cases h|GeneratorExp=>cases h|_=>rfl
theorem ug(Z:LR c env X (y.hp h' t))(U:∀b o,¬gh c env b->y.s.heap.get? b=D o->h'.get? b=D o):cG (gh c env) y (y.hp h' t):=.heap (fun b o e J=>U b o J e) fun b H _=>(Z.AW H).2.elim fun o h=>nn h.1
theorem W8(T:fc B){o e:Ex}:iC B (.cT o f e):=fun{c x}m{A E env lc σ y aw Q}h Z kk=>by have m1:=bR (bR m);refine jk (bL m) ?_;show wpAny _ A (exec (.Assign [t1 x] (vS x) (fQ x)) env) Q E y.s;rw[fb (bL (bR m))];refine plainObj_wpAny_Assign_Attribute (ck T e (bL (bR (bR m1))) h Z fun v H z k O X S1 C=>ck T o (bL m1) O (Z.ext X S1) fun t M u q L U K g=>?_) (uf (gW (bR (bR (bR m1)))));obtain⟨j,e3,d⟩:=gO.out L;exact Ji T.t2 K e3 (aV.mp (bL (bR m1))) g (C.ext U) fun w J r=>kk.n d ((X.trans U).trans J).o (Z.ext ((X.trans U).trans J) r)
theorem W9(g:A.units+50<cLine)(S:HR B.X σ y)(e:i6 σ j Z d=D U)(J:y.ak (.ref j) a)(H:y.ak Z b)(O:y.ak d v)(k:PU B.X y U (Q ())):wpAny B.M A (setItem a b v) Q E y.s:=by
 rcases q:σ[j]? with _|o;.unfold i6 at e;rw[q]at e;exact nS e
 induction o using AO.casesOn with
|dict es=>unfold i6 at e;rw[q]at e;obtain⟨h,e⟩:=cc e;cases e;have C:=bL (bL h);have K:=fy.mp (bR h);have hz:es.length<av:=cA (bR (bL h));induction Z using aa.casesOn with|int z=>obtain⟨_,e,L⟩:=AL C rfl;cases e;exact UF S K q L hz J H O k|ab l=>obtain⟨_,e,r,L⟩:=tU C rfl;cases e;exact UE g S K q L r hz J H O k|_=>exact nB (bR (bL C))
 |list xs=>induction Z using aa.casesOn with|int z=>unfold i6 at e;rw[q]at e;obtain⟨h,e⟩:=cc e;cases e;exact Vv S q h J H O k|_=>unfold i6 at e;rw[q]at e;exact nS e
 |_=>unfold i6 at e;rw[q]at e;exact nS e
theorem Xa(T:fc B){o i e:Ex}:iC B (.gr o i e):=fun{c x}m{A E env lc σ y aw Q}h Z kk=>by have m1:=bR (bR m);refine jk (bL m) ?_;show wpAny _ A (exec (.Assign [t1 x] (vS x) (fQ x)) env) Q E y.s;rw[fb (bL (bR m))];refine wpAny_Assign_Subscript (ck T e (bL (bR (bR m1))) h Z fun d1 C z v1 M X S1 L=>ck T o (bL m1) M (Z.ext X S1) fun d2 K u v2 H U g d=>?_) (uf (gW (bR (bR (bR m1)))));refine cps fun P r=>?_;obtain⟨j,rfl,H⟩:=oN H;refine r ?_;refine ck T i (bL (bR m1)) H ((Z.ext X S1).ext U g) fun d3 v w v3 k J f t=>?_;obtain⟨q,b,l⟩:=gO.out k;exact W9 Z.R.u f b (d.ext J) t ((L.ext U).ext J) fun w O a=>kk.n l (((X.trans U).trans J).trans O).o (Z.ext (((X.trans U).trans J).trans O) a)
theorem JV(e:xU op i j=D w)(k:∀t t',Q (.int w t) {s with toks:=t'}):wpAny B.M A (inplaceOp (wA op) (.int i t) (.int j u)) Q E s:=by induction op using iY.casesOn with|add=>cases e;exact aq0 (k _ _)|sub=>cases e;exact ar0 (k _ _)|_=>exact nS e
theorem Xb(T:fc B):iC B (.qy i op e):=fun{c x}m{A E env lc σ y aw Q}h Z kk=>by have m1:=bR (bR m);refine jk (bL m) ?_;show wpAny _ A (exec (.AugAssign (t1 x) (tM x) (vS x) (fQ x)) env) Q E y.s;rw[fb (bL (bR m)),cA (bL (bR m1))];obtain⟨k,X,h⟩:=wX h;refine wpAny_AugAssign_Name (Jn Z.L (bL m1) X fun v0 O=>ck T e (bR (bR m1)) h Z fun f C z q U J S1 M=>?_);clear X h;obtain⟨l,rfl,g1⟩:=gi U;clear U;obtain⟨i1,rfl,g1⟩:=gi g1;obtain⟨w,e2,g1⟩:=gO.out g1;refine VR.iE O fun _=>?_;refine VR.iE M fun _=>?_;refine JV e2 fun t t'=>?_;refine cps fun P K=>?_;obtain⟨g,e3,g1⟩:=gO.out g1;obtain⟨hi,e3⟩:=cc (p:=i<lc.length) e3;refine K ?_;cases e3;refine wV (y:=z.hp z.s.heap t') (Z.L.ext (J.trans bZ.tk)) S1.tk (bL m1) hi .int fun a h' j d r H u=>?_;exact kk.n g1 ((J.trans (bZ.tk (t:=t'))).o.trans (ug (y:=z.hp z.s.heap t') H fun b o v e=>r b o (fun z=>v (z▸d.aQ)) e)) ⟨Z.R,H,u⟩
theorem Xc(T:fc B){o e:Ex}:iC B (.o5 o f op e):=fun{c x}m{A E env lc σ y aw Q}h Z kk=>by have m1:=bR (bR m);refine jk (bL m) ?_;show wpAny _ A (exec (.AugAssign (t1 x) (tM x) (vS x) (fQ x)) env) Q E y.s;rw[fb (bL (bR m)),cA (bL (bR (bR m1)))];have J:=aV.mp (bL (bR m1));refine wpAny_AugAssign_AttributeAny (ck T o (bL m1) h Z fun j d i v0 r H S0 O=>?_);obtain⟨a,e1,C⟩:=gO.out r;refine Jh T.t2 S0 e1 J O fun z1 v1 X S1 v=>ck T e (bR (bR (bR m1))) C (Z.ext (H.trans X) S1) fun d2 k U v2 M L z q=>?_;clear e1 C;obtain⟨i0,rfl,g1⟩:=gi M;clear M;obtain⟨i1,rfl,g1⟩:=gi g1;obtain⟨w,e2,g1⟩:=gO.out g1;obtain⟨b,e3,g1⟩:=gO.out g1;refine VR.iE v fun _=>?_;refine VR.iE q fun _=>?_;have K:=(H.trans X).trans L;exact JV e2 fun t t'=>Ji (c:=U.hp U.s.heap t') T.t2 z.tk e3 J (show U.ak j v0 from(O.ext X).ext L) .int fun u g l=>kk.n g1 ((K.trans (bZ.tk (t:=t'))).trans g).o (Z.ext ((K.trans (bZ.tk (t:=t'))).trans g) l)
theorem Xd(T:fc B):iC B (.expr e):=fun{c x}m{A E env lc σ y aw Q}h Z kk=>by
 refine jk (bL m) (wpAny_Expr (ck T e (bL (bR m)) h Z fun J O z M X H S1 C=>?_) ?_ (uf ?_))
 .rcases U:iJ J with _|_;.have X:br (iJ J) _ _:=X;rw[U]at X;exact X.elim
  have X:br (iJ J) _ _:=X;rw[U]at X;have q:=kk.n X H.o (Z.ext H S1);induction C using VR.casesOn with|ab=>exact nB U|ref=>exact nB U|_=>exact q
 .unfold interactive;rw[Z.L.scope,Z.L.fn];rfl
 .have t:=jK (bR (bR m));show(cu (wp (t1 x)) 7||Nat.beq (wp (t1 x)) 8)=aj;rw[t];rfl
theorem Xe(T:fc B):iC B (.ret e):=fun{c x}m{A E env lc σ y aw Q}h Z kk=>by refine jk (bL m) (wpAny_Return_some (ck T e (bR m) h Z fun O X z C U J S1 H=>kk.r U J.o S1 H))
theorem JW{o i:cP}{p pos:Pos}(h:wpAny M A (eval o env) (fun U Z=>wpAny M A (eval i env) (fun iv X=>wpAny M A (delItem U iv) (fun _=>Q .next) E X) E Z) E s):wpAny M A (exec (.Delete [.Subscript o i p] pos) env) Q E s:=by
 refine wpAny_Delete (wpAny_deleteEach_cons ?_);show wpAny M A (do
 let U<-eval o env let iv<-holding [U] (eval i env)standAt p
 holding [U,iv] (delItem U iv)release [U,iv] []) _ _ _;refine aA (lr h (fun U Z J=>aA (mA (lr J (fun iv X H=>?_) fun _ _ z=>z))) fun _ _ z=>z);exact aA (B4 (aA (mA (lr H (fun _ C O=>wpAny_release (wpAny_deleteEach_nil O)) fun _ _ z=>z))))
theorem Xf(J:A.units+50<cLine)(S:HR B.X σ y)(e:uP σ j H=D Z)(O:y.ak (.ref j) a)(C:y.ak H b)(k:PU B.X y Z (Q ())):wpAny B.M A (delItem a b) Q E y.s:=by
 unfold uP at e;rcases q:σ[j]? with _|o;.rw[q]at e;exact nS e
 rw[q]at e;induction o using AO.casesOn with|dict es=>obtain⟨h,e⟩:=cc e;cases e;have U:=bL (bL h);clear e;obtain⟨l,rfl,L,K⟩:=tU (bL (bL U)) (bR (bL U));exact UG J S (fy.mp (bR h)) q K L (cA (bR (bL h))) (bR U) O C k|_=>exact nS e
theorem Xg(T:fc B){o i:Ex}:iC B (.o6 o i):=fun{c x}m{A E env lc σ y aw Q}h Z kk=>by have m1:=bR (bR m);refine jk (bL m) ?_;show wpAny _ A (exec (.Delete [t1 x] (fQ x)) env) Q E y.s;rw[fb (bL (bR m))];refine JW (ck T o (bL m1) h Z fun f O z t X U S1 C=>?_);refine cps fun P M=>?_;obtain⟨j,rfl,X⟩:=oN X;refine M ?_;refine ck T i (bR m1) X (Z.ext U S1) fun q L u b K J g d=>?_;obtain⟨r,e3,v⟩:=gO.out K;exact Xf Z.R.u g e3 (C.ext J) d fun w H k=>kk.n v ((U.trans J).trans H).o (Z.ext ((U.trans J).trans H) k)
theorem Xh(S:HR B.X σ y)(e:pb σ j l=D Z)(U:y.ak (.ref j) a)(J:y.ak l H)(O:y.s.heap.IsSliceOf C H .none .none)(k:PU B.X y Z (Q ())):wpAny B.M A (delItem a (.ref C)) Q E y.s:=by
 rcases q:σ[j]? with _|o;.unfold pb at e;rw[q]at e;exact nS e
 induction o using AO.casesOn with
|list xs=>induction l using aa.casesOn with|int i=>unfold pb at e;rw[q]at e;obtain⟨h,e⟩:=cc e;cases e;exact Vx S q h U J O k|_=>unfold pb at e;rw[q]at e;exact nS e
 |_=>unfold pb at e;rw[q]at e;exact nS e
theorem Xi(T:fc B){o lo:Ex}:iC B (.qz o lo):=fun{c x}m{A E env lc σ y aw Q}h Z kk=>by
 have m1:=bR (bR m);have m2:=bR (bR m1);refine jk (bL m) ?_;show wpAny _ A (exec (.Delete [t1 x] (fQ x)) env) Q E y.s;rw[fb (bL (bR m))];show wpAny _ A (exec (.Delete [.Subscript (e1 (t1 x)) (e2 (t1 x)) _] (fQ x)) env) Q E y.s;have e:e2 (t1 x)=.Slice (tL (e2 (t1 x))) (wv (e2 (t1 x))) I (bP (e2 (t1 x))):=fb (bL m1);rw[nI.mp (bR m2)]at e;rw[e];refine JW (ck T o (bL (bR m1)) h Z fun i K z v1 H O S1 g=>wpAny_Slice ?_);refine cps fun P d=>?_;obtain⟨j,rfl,H⟩:=oN H;refine d ?_;have U:=bL m2;rcases X:tL (e2 (t1 x))with _|l;.rw[X]at U;exact nB U
 rw[X]at U;refine ck T lo U H (Z.ext O S1) fun d2 r u M v C k f=>aX (aX ?_);obtain⟨t,e3,q⟩:=gO.out v;have J:bZ u (u.hp (u.s.heap.push (t8 M .none)) u.s.toks):=.more fun a o e=>gp _ e;exact Xh (y:=u.hp (u.s.heap.push (t8 M .none)) u.s.toks) (k.more fun a o e=>gp _ e) e3 ((g.ext C).ext J) (f.ext J) ⟨_,kw _ rfl,rfl,rfl⟩ fun w L b=>kk.n q (((O.trans C).trans J).trans L).o (Z.ext (((O.trans C).trans J).trans L) b)
theorem Xj(T:fc B)(J:oQ B a)(H:oQ B b):iC B (.ifs t a b):=fun{c x}m{A E env lc σ y aw Q}h Z kk=>by
 refine jk (bL m) (wpAny_If (l6 T t (bL (bR m)) h Z (fun _ _=>rfl) fun r O z U X S1=>?_));rcases r with _|_;.exact H (bR (bR (bR m))) U (Z.ext X S1) (kk.go X.o)
 exact J (bL (bR (bR m))) U (Z.ext X S1) (kk.go X.o)
theorem Xk:oQ B .nil:=fun{c l}m{A E env lc σ y aw Q}h Z kk=>by
 rcases l with _|⟨_,_⟩;.exact LS (kk.n h bZ.refl Z)
 exact nB m
theorem Xl{H:Sm}(O:iC B H)(C:oQ B M):oQ B (.cons H M):=fun{c l}m{A E env lc σ y aw Q}h Z kk=>by
 rcases l with _|⟨x,l⟩;.exact nB m
 exact wpAny_execs_cons (O (bL m) h Z ⟨fun h X U=>C (bR m) h U (kk.go X),fun h X S L=>kk.r h X S L,fun h X U=>kk.c h X U⟩)
inductive FI(B:Bx)(A:mw)(c:Cn)(env:mE)(t:Tg)(g:Option (Nat×List aa))(b:Ss)(xs:List aa)(al:bu)(aw:Kt)(y0:Cf):Nat->cJ->Prop where|mk{z:Cf}{j:Nat}{lc:Lc}{σ:AH}(hj:j<=xs.length)(X:cG (gh c env) y0 z)(Z:Si B A c env lc σ z)(T:cq z al)(I1:df xs al j z g)(hN:pf g t (fun lc σ k=>aP WD B.C b lc σ (lI aw k)) (xs.drop j) lc σ aw.kn):FI B A c env t g b xs al aw y0 (xs.length-j) z.s
theorem Xm(T:fc B)(hb:oQ B b):iC B (.for t it b):=fun{c x}m{A E env lc σ y aw Q}h Z kk=>by have m1:=bR (bR m);refine jk (bL m) (wpAny_For (Bk T it (bL m1) h Z fun xs g Rz z0 al h0 hx x0 S0 T0 n0 I0=>?_) (Bg (gW (bR (bR m1)))));refine codeAny_forLoop_any (FI B A c env t g b xs al aw y) (fun n s' hI=>?_) xs.length (.mk (j:=0) (bQ _) x0.o (Z.ext x0 S0) T0 I0 h0);induction hI using FI.casesOn with|@mk z j lc σ hj X Z w I1 J=>
rcases qf j xs.length with H|f;.rw[K8 H]at J;have l:=J.1;have J:=J.2;obtain⟨WX,M,J⟩:=gO.out J;have O:=I1.iS Z.L;refine JE I1 w Z.S l (dL H) fun v K d i U I2 S2=>JG (y:=z.hp K d) (bL (bR m)) I2 ?_;refine Bb (y:=z.hp K d) Z.R.1 (bL (bR m)) M (Z.L.iA O U) S2 i fun h3 t3 u L3 S3=>?_;have X3:cG (gh c env) y (z.hp h3 t3):=(X.l0 (·=al) (fun a o e z=>U a o z e) fun a q=>q▸n0).trans (ug (y:=z.hp K d) L3 fun b o nb e=>u b o (fun z=>nb z.aQ) e);have nx:∀{lc σ z4},pf g t (fun lc σ k=>aP WD B.C b lc σ (lI aw k)) (xs.drop (j+1)) lc σ aw.kn->cG (gh c env) (z.hp h3 t3) z4->Si B A c env lc σ z4->∃m,m<xs.length-j/\FI B A c env t g b xs al aw y m z4.s:=fun h x Z=>have q:=(I2.w9 fun o e=>u _ _ (fun ow=>O ow.aQ) e).ext w x O;⟨_,v? H (mf j),.mk H (X3.trans x) Z q.1 q.2 h⟩;exact hb (bL (bR m1)) (y:=z.hp h3 t3) J ⟨Z.R,L3,S3⟩ ⟨nx,fun h x S i=>kk.r h (X3.trans x) S i,nx⟩
.cases fx hj f;rw[BL]at J;exact JF Z.R.1 I1 w Z.S J.1 (aE _) fun K d U S2=>LS (kk.n (z:=z.hp K d) J.2 (X.l0 (·=al) (fun a o e z=>U a o z e) fun a q=>q▸n0) ⟨Z.R,Z.L.iA (I1.iS Z.L) U,S2⟩)
inductive WI(B:Bx)(A:mw)(c:Cn)(env:mE)(t:Te)(b:Ss)(aw:Kt)(y0:Cf):Nat->cJ->Prop where|mk{z:Cf}{n:Nat}{lc:Lc}{σ:AH}(X:cG (gh c env) y0 z)(Z:Si B A c env lc σ z)(hN:qE (wT WD B.C t) (fun lc σ k=>aP WD B.C b lc σ (lI aw k)) n lc σ aw.kn):WI B A c env t b aw y0 n z.s
theorem Xn(T:fc B)(g:oQ B b):iC B (.while t b):=fun{c x}m{A E env lc σ y aw Q}h Z kk=>by obtain⟨j,h⟩:=h;refine jk (bL m) (wpAny_While (codeAny_whileLoop (WI B A c env t b aw y) (fun n s' d=>?_) j (.mk bZ.refl Z h)));induction d using WI.casesOn with|@mk z n lc σ X Z M=>
rcases n with _|n;.exact M.elim
refine l6 T t (bL (bR m)) M Z (fun _ _=>rfl) fun r u w L J S1=>?_;have H:=X.trans J.o;rcases r with _|_;.exact LS (kk.n L H (Z.ext J S1))
have K:∀{lc σ O},qE (wT WD B.C t) (fun lc σ k=>aP WD B.C b lc σ (lI aw k)) n lc σ aw.kn->cG (gh c env) w O->Si B A c env lc σ O->∃m,m<n+1/\WI B A c env t b aw y m O.s:=fun h x Z=>⟨n,mf n,.mk (H.trans x) Z h⟩;exact g (bR (bR m)) L (Z.ext J S1) ⟨K,fun h x S v=>kk.r h (H.trans x) S v,K⟩
theorem Xo(m:bJ N e c x=Y)(h:(aG 7 x||aG 8 x)=Y):aG 7 x=Y/\∃tg U cond Z nc,e=.comp tg U cond Z nc:=by
 have X:∀{n:Nat}{P:Prop},(cu n 7||Nat.beq n 8)=aj->aG n x=Y->P:=fun{n P}J H=>by rw[aG,aG,jK H]at h;exact nB (J.symm.trans h)
 induction e using Ex.casesOn with|comp tg U cond Z nc=>exact⟨bL m,_,_,_,_,_,rfl⟩|iZ=>exact X rfl m|il=>exact X rfl m|_=>exact X rfl (bL m)
theorem Xp(T:fc B){cond:Te}{p pos:Pos}(hv:c.var i n=Y)(m:bJ B.X.N (.comp tg it cond O nc) c v=Y)(k:B5 v (D (.Name n p)) pos.line env=pure Y)(h:wE WD B.C (.comp tg it cond O nc) lc σ fun v σ=>gO (fj lc (.ag i) v) fun j=>aw.kn j σ)(Z:Si B A c env lc σ y)(kk:rN B A c env y aw Q):wpAny B.M A (exec (.Assign [.Name n p] v pos) env) Q E y.s:=by have m1:=bR (bR m);have K:=JK (bL m1);have m2:=bR (bR m1);have m3:=bR (bR m2);refine cps fun P f=>?_;obtain⟨cl,c1,c2,c3⟩:=JP Z.L K;refine f ?_;rw[exec_Assign_Name_used _ _ _ _ k];refine aA (B4 (aA ?_));rw[(fb (bL m))];have e:fZ v=⟨(fZ v).target,(fZ v).iter,(fZ v).ifs,0⟩:=JU (aV.mp (bL (bR m)));show wpAny _ A (evalThenUse (.ListComp (e1 v) [fZ v] (m9 v) (bP v)) env _) _ E y.s;rw[e];show wpAny _ A (do let _<-comprehension (.ListComp (e1 v) [⟨(fZ v).target,(fZ v).iter,(fZ v).ifs,0⟩] (m9 v) (bP v)) (m9 v) env _ (newList []) aj (eval (fZ v).iter env) (D (assign (.Name n p) env))) _ _ _;refine aA (lr (w? (use:=D (assign (.Name n p) env)) (Q:=fun _ s'=>Q .next s') rfl (Bg (gW (bL (bR m2)))) c1 K.fn K.rB ?_) (fun _ s' hq=>aX (aX hq)) fun _ _ e=>e);refine Bk T it (bL m2) h Z fun xs g bY z J h1 hx x1 S1 T1 n1 I1=>?_;refine JS (l6 T cond) (ck T O) K (bL (bR m1)) (bL m3) (bR m3) c2 c3 x1 n1 (Z.ext x1 S1) T1 I1 hx h1 (RR:=fun l C=>compPost B.M A E (D (assign (.Name n p) env)) (fun _ s'=>Q .next s') l C) ?_;intro L C U ds vs n mC cz h2 x2 S2 TL TC d nL nC hL hV x;have S4:=S2.cell (t:=U.s.toks) (p:=(L,L)) (h':=U.s.heap) TL TL (fun _ _ e=>e) (.list rfl hL (F2.aq (·.aq (fun _ _ z=>z) fun i q e=>(ib (bp.mp e).1).trans e) hV));have x3:bZ y (U.cl (L,L) U.s.heap U.s.toks):=x2.cl nL nL fun _ _ e=>e;have r:¬gh c env C:=fun o=>(Z.L.AW o).2.elim fun o' h=>nn h.1 nC;refine cps fun P f=>?_;obtain⟨j,e3,h3⟩:=gO.out h2;obtain⟨hi,e3⟩:=cc (p:=i<lc.length) e3;refine f ?_;cases e3;refine m? (wV (y:=U.cl (L,L) U.s.heap U.s.toks) (Z.L.ext x3) S4.1 hv hi S4.2.2 fun a h' t' ow hk L5 S5=>?_);refine⟨mC,x.at' fun o e=>hk _ _ (fun z=>r (z▸ow.aQ)) e,fun u w=>?_⟩;have H:∀b o,b≠C->h'.get? b=D o->u.get? b=D o:=fun b o nb e=>(w.2 b nb).trans e;exact kk.n (z:=(U.cl (L,L) U.s.heap U.s.toks).hp u t') h3 ((x3.o.trans (ug (y:=U.cl (L,L) U.s.heap U.s.toks) L5 fun b o nb e=>hk b o (fun z=>nb (z▸ow.aQ)) e)).l0 (·=C) (fun a o e z=>H a o z e) fun a q=>q▸nC) ⟨Z.R,L5.iA r H,S5.iA (⟨TC.1,fun i p e=>(rF e).elim (TC.2 i p) fun e=>e.2▸⟨g8 d,g8 d⟩⟩) H⟩
theorem Xq{p:Pos}(h:aG 7 v=Y):∃b,B5 v (D (.Name n p)) k env=pure b:=by rw[fb h];exact⟨_,rfl⟩
theorem Xr{p:Pos}(h:aG 17 v=aj):swappedStores [.Tuple es k p] v env=pure none:=by cases v<;>first|rfl|exact nB (h.symm.trans rfl)
theorem Xs(T:fc B):iC B (.an t e):=fun{c x}m{A E env lc σ y aw Q}h Z kk=>by have m1:=bR (bR m);have mt:=bL (bR m);have me:=bL m1;refine jk (bL m) ?_;show wpAny _ A (exec (.Assign [t1 x] (vS x) (fQ x)) env) Q E y.s;induction t using Tg.casesOn with
|ag i=>
 rw[fb (bL mt)];have plain:B5 (vS x) (D (.Name (dS (t1 x)) (bP (t1 x)))) (fQ x).line env=pure aj->wpAny B.M A (exec (.Assign [.Name (dS (t1 x)) (bP (t1 x))] (vS x) (fQ x)) env) Q E y.s:=fun hs=>by refine wpAny_Assign_Name (ck T e me h Z fun d1 bY z v1 h1 x1 S1 w1=>?_) hs;refine cps fun P hP=>?_;obtain⟨jZ,e3,h3⟩:=gO.out h1;obtain⟨hi,e3⟩:=cc (p:=i<lc.length) e3;refine hP ?_;cases e3;exact wV (Z.L.ext x1) S1 (bR mt) hi w1 fun a h' t' ow hk L' S'=>kk.n (z:=z.hp h' t') h3 (x1.o.trans (ug L' fun b o nb e=>hk b o (fun z=>nb (z▸ow.aQ)) e)) ⟨Z.R,L',S'⟩
 cases hc:aG 7 (vS x)||aG 8 (vS x)with|false=>exact plain (uf hc)|true=>
 clear m1 m;obtain⟨h7,tg,it,cond,kD,nc,rfl⟩:=Xo me hc;obtain⟨b,hb⟩:=Xq (n:=dS (t1 x)) (p:=bP (t1 x)) (k:=(fQ x).line) (env:=env) h7;rcases b with _|_;.exact plain hb
 exact Xp T (bR mt) me hb h Z kk
|fT is=>
 have Xu:aG 15 (t1 x)=false:=by have q:=bL mt;rw[aG]at q⊢;rw[jK q];rfl
 have hw:=tO (gW ((rW.mp (bR m1)).resolve_left fun z=>nB (Xu.symm.trans z)));have et:=fb (bL mt);rw[et];refine Assign_Tuple (ck T e me h Z fun d1 bY z v1 h1 x1 S1 w1=>?_) (by unfold swapsWithSole;exact uf hw.2) (Xr hw.1);obtain⟨jZ,e3,h3⟩:=gO.out h1;rw[show au0 (cM (t1 x)) (kE (t1 x)) (bP (t1 x))=t1 x from et.symm];exact Bb Z.R.1 mt e3 (Z.L.ext x1) S1 w1 fun h' t' hk L' S'=>kk.n (z:=z.hp h' t') h3 (x1.o.trans (ug L' fun b o nb e=>hk b o (fun z=>nb z.aQ) e)) ⟨Z.R,L',S'⟩
theorem Xv:iC B .si:=fun{c x}m{A E env lc σ y aw Q}h Z kk=>jk m (wpAny_Return_none (kk.r h bZ.refl Z.S .none))
theorem Xw:iC B .cont:=fun{c x}m{A E env lc σ y aw Q}h Z kk=>jk m (wpAny_Continue (kk.c h bZ.refl Z))
end
section
mutual theorem Xx(T:fc B):∀Z:Sm,iC B Z|.an t e=>Xs T|.cT o f e=>W8 T|.gr o i e=>Xa T|.qy i op e=>Xb T|.o5 o f op e=>Xc T|.expr e=>Xd T|.ifs t a b=>Xj T (rO T a) (rO T b)|.for t X b=>Xm T (rO T b)|.while t b=>Xn T (rO T b)|.ret e=>Xe T|.si=>Xv|.cont=>Xw|.o6 o i=>Xg T|.qz o lo=>Xi T|.iZ=>by intro m A E env lc σ y k Q h;exact h.elim theorem rO(T:fc B):∀Z:Ss,oQ B Z|.nil=>Xk|.cons X Z=>Xl (Xx T X) (rO T Z)end
end
end
section
open PySem.W PySem.Calls PyProof.Rows
noncomputable def k8:List (bh×aH)->List (bh×aH)->List (bh×aH)|sl,[]=>sl|sl,x::r=>if(sl.lookup x.1).isNone=Y then k8 (sl++[(x.1,x.2)]) r else k8 sl r
theorem Xy:∀(l sl:List (bh×aH)),(forIn l sl fun(x:bh×aH)r=>if(r.lookup x.1).isNone=Y then pure (mu (r++[(x.1,x.2)]))else pure (mu r):Sem _)=pure (k8 sl l):=by intro l;induction l with|nil=>intro sl;exact rfl|cons x l ih=>
intro sl;rw[BS];unfold k8;split;.rw[pure_bind];exact ih _
.rw[pure_bind];exact ih _
theorem Xz:∀(l l' Z:List (bh×aH)),(∀x∈l,(Z.lookup x.1).isSome=Y)->k8 Z (l++l')=k8 Z l':=by intro l;induction l with|nil=>intro l' Z _;exact rfl|cons x l U=>
intro l' Z h;have X:=h x (.head _);rw[List.cons_append];conv=>lhs;unfold k8
rw[am (by induction q:Z.lookup x.1 using cN with|none=>rw[q]at X;cases X|some _=>simp)];exact U l' Z fun y J=>h y (.tail _ J)
theorem JX{l:List (bh×aH)}(h:n∉l.map (·.1)):l.lookup n=none:=by induction l with|nil=>rfl|cons x l Z=>have k:=x.1;have v:=x.2;simp only[ii,ce,not_or]at h;rw[js,gl.mpr h.1];exact Z h.2
theorem JY{l:List (bh×aH)}(h:n∈l.map (·.1)):(l.lookup n).isSome=true:=by induction l with|nil=>simp at h|cons x l Z=>
obtain⟨k,v⟩:=x;simp only[ii,ce]at h;rw[js];rcases e:n==k with _|_;.exact Z (h.resolve_left (gl.mp e))
rfl
theorem XA:∀(l Z:List (bh×aH)),((Z++l).map (·.1)).Nodup->k8 Z l=Z++l:=by intro l;induction l with|nil=>intro Z _;simp[k8]|cons x l X=>
intro Z h;unfold k8;have U:x.1∉Z.map (·.1):=fun z=>by rw[g7,oV]at h;exact h.2.2 _ z _ (by simp) rfl
rw[af (by rw[JX U];rfl),X _ (by simpa[dy]using h),dy];rfl
theorem xh{ps:List bh}{vs:List aH}(h:vs.length<=ps.length):(ps.zip vs).map (·.1)=ps.take vs.length:=by induction ps generalizing vs with|nil=>cases vs<;>simp at h⊢|cons p ps Z=>
rcases vs with _|⟨v,vs⟩;.rfl
simp only[List.zip_cons_cons,ii,iD,List.take_succ_cons];rw[Z (by simpa using h)]
theorem XB:∀{ps:List bh}{vs:List aH}(Z:List (bh×aH)),ps.Nodup->ps.length=vs.length->(∀p∈ps,p∉Z.map (·.1))->ps.filterMap (fun n=>KE (fun x=>(n,x)) ((Z++ps.zip vs).lookup n))=ps.zip vs:=by intro ps;induction ps with|nil=>intro vs Z _ _ _;simp|cons p ps Q=>
intro vs Z O U J;rcases vs with _|⟨v,vs⟩;.simp at U
have X:=fh.mp O;have e1:(Z++(p::ps).zip (v::vs)).lookup p=D v:=by rw[List.lookup_append,JX (J p (.head _))];simp[js]
rw[Lr,e1];simp only[Option.map_some,List.zip_cons_cons];congr 1;have:=Q (vs:=vs) (Z++[(p,v)]) X.2 (by simpa using U) (fun q H=>by simp only[g7,ii,uu,dI,ba,not_or];exact⟨J q (.tail _ H),fun z=>X.1 (z▸H)⟩);simpa[dy]using this
theorem XC{M:Model}{A:mw}(hp:fd.params=⟨[],as,I,[],[],I,hJ⟩)(hn:(as.map (·.arg)).Nodup)(hd:uC M s.heap (seqItems? fd.defaults) r){dl:List aH}(XD:(r.getD #[]).toList=dl)(h1:ew.length<=as.length)(h2:as.length<=ew.length+dl.length)(h3:dl.length<=as.length)(h:Q ((as.map (·.arg)).zip (ew++dl.drop (dl.length-(as.length-ew.length)))) s):wpAny M A (bindArgs fd ⟨ew,[]⟩) Q E s:=by
 unfold bindArgs;rw[hp];simp only[uu,xq,bO,List.forIn_nil,pure_bind,BS,Option.isNone_none,lh];refine aA (hd.here ?_);rw[XD];generalize XE:as.map (·.arg)=ps at*;have je:as.length=ps.length:=by rw[<-XE,aJ]
 rw[je]at h1 h2 h3 h;rw[am (by rw[bS (g9.mpr h1)];exact nofun)];obtain⟨f,hq⟩:∃f,ps.length=f+dl.length:=⟨_,(rT h3).symm⟩;obtain⟨e,hv⟩:∃e,ew.length=f+e:=⟨_,(uw (Nat.le_of_add_le_add_right (hq▸h2))).symm⟩;have he:e<=dl.length:=Nat.le_of_add_le_add_left (hq▸hv▸h1);have XF:ps.length-dl.length=f:=by rw[hq,Y3]
 have XG:dl.length-(ps.length-ew.length)=e:=by rw[hq,hv,Nat.add_sub_add_left,x? he]
 have hw:(ew++dl.drop e).length=ps.length:=by rw[aU,rZ,hv,hq,eL,uw he]
 have ht:(ps.take ew.length).length=ew.length:=by rw[ie,mj h1]
 rw[XG]at h;rw[(xA h3),ux,XF];have XH:Y1 (fun n=>(y? n (ps.zip ew)).isNone) (List.take f ps)=[]:=by
  rw[Y4];intro n p6;have:n∈(ps.zip ew).map (·.1):=by rw[xh h1];rw[show ps.take f=(ps.take ew.length).take f by rw[c?,mj (hv▸b8 f e)]]at p6;exact List.mem_of_mem_take p6
  have:=JY this;rcases q:y? n (ps.zip ew)with _|_;.rw[q]at this;cases this
  exact nofun
 rw[XH];rw[am (by simp)];rw[Xy];refine aA (aX ?_);rw[am (by simp)];refine aX ?_;have XI:k8 (ps.zip ew) ((ps.drop f).zip dl)=ps.zip (ew++dl.drop e):=by
  have e1:(ps.drop f).zip dl=((ps.drop f).take e).zip (dl.take e)++(ps.drop ew.length).zip (dl.drop e):=by have:=LU (l₁:=(ps.drop f).take e) (r₁:=(ps.drop f).drop e) (l₂:=dl.take e) (r₂:=dl.drop e) (by rw[ie,rZ,ie,hq,xv]);rw[ku,ku,List.drop_drop,hv.symm]at this;exact this
  have e2:ps.zip (ew++dl.drop e)=ps.zip ew++(ps.drop ew.length).zip (dl.drop e):=by have:=LU (l₁:=ps.take ew.length) (r₁:=ps.drop ew.length) (l₂:=ew) (r₂:=dl.drop e) ht;rw[ku]at this;rw[this];have h5:=LU (l₁:=ps.take ew.length) (r₁:=ps.drop ew.length) (l₂:=ew) (r₂:=([]:List aH)) ht;rw[ku,bO,List.zip_nil_right,bO]at h5;rw[h5]
  rw[e1,Xz,XA,e2];.rw[e2.symm,xh (gF hw)];exact(List.take_sublist _ _).nodup hn
  .intro x hx;apply JY;rw[xh h1];have h6:x.1∈(ps.drop f).take e:=(z? hx).1;rw[List.take_drop,hv.symm]at h6;exact List.mem_of_mem_drop h6
 rw[XI];have:=XB (ps:=ps) (vs:=ew++dl.drop e) [] hn hw.symm (by simp);rw[xq]at this;rw[this];exact h
theorem XJ:∀(l:List (bh×qp))(n:Nat)(Z:List (bh×bu)),(Z.lookup x).isSome=Y->((B6 n l Z).lookup x).isSome=true:=by intro l;induction l with|nil=>intro _ _ h;exact h|cons U r X=>
  obtain⟨k,q⟩:=U;intro n Z h;unfold cellsFrom;split
  .refine X _ _ ?_;rw[js];rcases x==k with _|_;.exact h
   rfl
  .exact X _ _ h
theorem JZ:∀(l:List (bh×qp))(n:Nat)(Z:List (bh×bu)),l.lookup x=D .cell->((B6 n l Z).lookup x).isSome=true:=by intro l;induction l with|nil=>intro _ _ h;simp at h|cons U r X=>
  obtain⟨k,q⟩:=U;intro n Z h;rw[js]at h;unfold cellsFrom;rcases e:x==k with _|_
  .rw[e]at h;split;.exact X _ _ h
   .exact X _ _ h
  rw[e]at h;cases h;rw[af (by rfl)];refine XJ r _ _ ?_;rw[js,e];rfl
theorem XK:∀(l:List (bh×aH))(Z:bh->Option aH),x∉l.map (·.1)->LV J l Z x=Z x:=by intro l;induction l with|nil=>intro Z _;exact rfl|cons X r U=>
have n:=X.1;have v:=X.2;intro Z h;simp only[ii,ce,not_or]at h;unfold PySem.bindL;rw[U _ h.2];split;.simp[h.1]
.rfl
theorem XM:∀(l:List (bh×aH))(Z:bh->Option aH),x∉l.map (·.1)->LW J l Z x=Z x:=by intro l;induction l with|nil=>intro Z _;exact rfl|cons X r U=>
have n:=X.1;have v:=X.2;intro Z h;simp only[ii,ce,not_or]at h;unfold PySem.bindC;rw[U _ h.2];split;.rfl
.simp[h.1]
theorem XN(H:Q x=D .local):∀(l:List (bh×aH))(X:bh->Option aH),(l.map (·.1)).Nodup->(x,v)∈l->LV Q l X x=D v:=by intro l;induction l with|nil=>intro X _ h;simp at h|cons U r O=>
have n:=U.1;have u:=U.2;intro X J h;have Z:=fh.mp J;unfold PySem.bindL;rcases ce.mp h with e|h;.clear J h;cases e;rw[XK r _ Z.1,af H];simp
.exact O _ Z.2 h
theorem XO(Q:O x=D .cell):∀(l:List (bh×aH))(X:bh->Option aH),(l.map (·.1)).Nodup->(x,v)∈l->LW O l X x=D v:=by intro l;induction l with|nil=>intro X _ h;simp at h|cons J r E=>
have n:=J.1;have u:=J.2;intro X H h;have Z:=fh.mp H;unfold PySem.bindC;rcases ce.mp h with e|h;.clear H h;cases e;rw[XM r _ Z.1,am (by rw[Q];decide)];simp
.exact E _ Z.2 h
def xi(X:Wx)(v:aH)(ds:List aa):Prop:=(v=.none/\ds=[])\/∃T c O items n E,v=.ref T/\X.K.lookup T=D ⟨c,O,.seq items n,E⟩/\eJ (fun a=>X.K.lookup a) [] ds items.toList
structure uh(X:Wx)(a:bu)(F:Fn)(cls:aH)(dict:Option bu)(fd:FuncData)(sl:Array (Option aH))(as:List Arg)(hJ:List cP)(body:List jq)(names:List (Option bh)):Prop where
obj:X.K.lookup a=D ⟨cls,dict,.func fd,sl⟩J0:fd.params=⟨[],as,I,[],[],I,hJ⟩nd:(as.map (·.arg)).Nodup
dU:as.length=F.dU
kH:names.length=F.kH
take:names.take F.dU=as.map fun a=>D a.arg
J1:(names.filterMap id).Nodup
J2:fd.body=.stmts body
mt:oH X.N F.body ⟨names,fd.scope⟩ body=Y
J3:fd.closure=[]ai:fd.globals=jr
blt:fd.builtins=qo
kind:fd.scope.kind=.function
co:fd.scope.isCoroutine=aj
gen:fd.scope.isGenerator=aj
code:codeIn X.K fd.code fd.qualname=Y
pk:∀a∈as,fd.scope.names.lookup a.arg=D .local\/fd.scope.names.lookup a.arg=D .cell
J4:xi X fd.defaults F.hJ
Bl:F.hJ.length<=F.dU
section
theorem cG.Bm(k:∀a o,y.s.heap.get? a=D o->h.get? a=D o)(x:cG P (y.hp h t) z)(hp:∀a,P a->y.s.heap.get? a=I):bZ y z where fr:=x.fr;g:=x.g;gn a o e:=(x.gn a o e).imp id fun q=>un.mp fun w=>(r5.mp w).elim fun o e=>nn (k _ _ e) q;mm:=x.mm;mn i p e:=(x.mn i p e).imp id fun q=>⟨un.mp fun w=>(r5.mp w).elim fun o e=>nn (k _ _ e) q.1,un.mp fun w=>(r5.mp w).elim fun o e=>nn (k _ _ e) q.2⟩;keep a o e _ hm:=x.keep a o (k a o e) (fun z=>nn e (hp a z)) hm;gf a e:=(r5.mp e).elim fun o e=>x.gf a (nn (k _ _ e))
end
theorem J5{ps:List bh}{i:Nat}(Z:eJ G m ds vs)(X:ps[i]?=D x)(U:ds[i]?=D d):∃v,(x,v)∈ps.zip vs/\VR G m d v:=(Z.ir U).elim fun v h=>⟨v,jQ (List.getElem?_zip_eq_some.mpr ⟨X,h.1⟩:(ps.zip vs)[i]?=D (x,v)),h.2⟩
theorem xi.XP(M:Model)(x:xi X v ds)(Z:X.K.In h):∃r dl,uC M h (seqItems? v) r/\(r.getD #[]).toList=dl/\eJ (fun a=>X.K.lookup a) [] ds dl:=by
 rcases x with⟨rfl,rfl⟩|⟨T,c,H,items,n,O,rfl,U,J⟩;.exact⟨I,[],LL rfl,rfl,.nil⟩
 .refine⟨D items,items.toList,?_,rfl,J⟩;intro A Q E s k q;exact Le (k _ _ (Z _ _ U)) rfl q
structure Bn(X:Wx)(fn:Nat->Option Fn):Prop where
J6:∀f F,fn f=D F->∃cls dict fd sl as hJ body names,uh X (X.kZ f) F cls dict fd sl as hJ body names
av:nsOkIn X.K cStatics=Y/\nsIn X.K cStatics "sys.recursionlimit"=D I
t1:tZ X
t2:oM X
section
variable{vs ds:List aa}
theorem J7(Z:uh X a F M O fd r as L E U)(J:ds.length=F.dU){i:Nat}(C:U[i]?=D (D x))(H:(ds.map D++Bv (F.kH-F.dU) I)[i]?=D (D d)):(as.map (·.arg))[i]?=D x/\ds[i]?=D d:=by
 have hi:i<F.dU:=by
  rcases qf i F.dU with z|z;.exact z
  .rw[jM (by rw[aJ,J];exact z)]at H;cases(List.mem_replicate.mp (jQ H)).2
 rw[ib (by rw[aJ,J];exact hi),gm]at H;obtain⟨u,K,A⟩:=qm.mp H;cases A;have Q:(U.take F.dU)[i]?=D (D x):=(BN hi).trans C;rw[Z.take,gm]at Q;obtain⟨a,g,j⟩:=qm.mp Q;clear C Q;cases j;exact⟨by rw[gm,g];rfl,K⟩
theorem XQ(Z:uh X a F cls dict fd sl as hJ body names)(S:HR X σ y)(hv:y.Vs ds ws)(xj:ds.length=F.dU){env:mE}{s':cJ}(he:env=newEnv fd.scope y.s.heap.objs.size fd.globals (B6 (y.s.heap.objs.size+1) fd.scope.names []) qn (D a) fd.code I fd.builtins)(x:InCallC y.s env.locals (LV env.kindOf ((as.map (·.arg)).zip ws) fun _=>I) env.cells (LW env.kindOf ((as.map (·.arg)).zip ws) fun _=>I) s')(hs:y.s.heap.objs.size=env.locals)(h':ln)(t:Nat)(e':s'={y.s with heap:=h',toks:=t})(keep:∀a o,y.s.heap.get? a=D o->h'.get? a=D o):LR ⟨names,fd.scope⟩ env (ds.map D++Bv (F.kH-F.dU) I) (y.hp h' t)/\∀b,gh ⟨names,fd.scope⟩ env b->y.s.heap.get? b=none:=by
 subst e';have iU:∀a,y.s.heap.objs.size<=a->y.s.heap.get? a=none:=fun a ha=>by
  rcases e:y.s.heap.get? a with _|o';.rfl
  exact ae (r9 e) (g9.mpr ha)
 have J8:env.scope=fd.scope:=by rw[he];rfl
 have J9:env.kindOf=fun x=>fd.scope.names.lookup x:=by funext y;show env.scope.names.lookup y=_;rw[J8]
 have tX:env.cells=B6 (y.s.heap.objs.size+1) fd.scope.names []:=by rw[he];rfl
 have wN:(((as.map (·.arg)).zip ws).map (·.1)).Nodup:=by
  have q:ws.length=(as.map (·.arg)).length:=by rw[hv.length,xj,aJ,Z.dU]
  rw[xh (gF q),q,rX];exact Z.nd
 refine⟨⟨J8,Z.kind,by rw[he];exact Z.ai,by rw[he];exact Z.blt,?_,Z.J1,(show cq y _ from cq.new S (iU _ (gF hs))),⟨_,x.toInCall.ns,fun i y d' h1 h2 h3=>?_⟩,fun u hy=>?_,fun y z a h1 h2=>name_of_addr x.apart (B7 h1) (B7 h2)⟩,fun a o=>?_⟩
 .have:F.dU<=F.kH:=by have:=aI rV Z.take;rw[ie,aJ,Z.dU,Z.kH]at this;exact this▸jT _ _
  rw[aU,aJ,xj,List.length_replicate];exact(uw this).trans Z.kH.symm
 .refine cps fun P hP=>?_;obtain⟨q1,q2⟩:=J7 Z xj h1 h3;obtain⟨v,q3,q4⟩:=J5 hv q1 q2;refine hP ?_;exact⟨v,XN (by rw[J9];exact h2) _ _ wN q3,q4⟩
 .obtain⟨a,ha⟩:=BK.mp (JZ fd.scope.names (_+1) [] hy);rw[<-tX]at ha;have Ka:=x.above u a (B7 ha);refine⟨a,ha,⟨(show cq y _ from cq.new S (iU a (bj (gF hs) (li Ka)))),jl Ka⟩,_,x.cell u a ha,fun i d' h1 h3=>?_⟩;obtain⟨q1,q2⟩:=J7 Z xj h1 h3;obtain⟨v,q3,q4⟩:=J5 hv q1 q2;exact⟨v,XO (by rw[J9];exact hy) _ _ wN q3,q4⟩
 .rcases o with rfl|⟨y,_,hy⟩;.exact iU _ (gF hs)
  .exact iU _ (bj (gF hs) (li (x.above y a (B7 hy))))
theorem XR(Z:uh X a F cls dict fd sl as hJ body z)(K:jt)(T:fc ⟨X,K,n,u⟩)(J:nsOkIn X.K cStatics=Y/\nsIn X.K cStatics "sys.recursionlimit"=D I)(c:bindL F vs=D lc)(h:aP WD K F.body lc σ (kR k))(R:Rc ⟨X,K,n+6,u+63⟩ A)(S:HR X σ y)(v:y.Vs vs ws)(kk:k4 X y k Q):codeAny (model X.prog X.w) A (.call (.ref a) ⟨ws,[]⟩) (nj Q) y.s:=by
 obtain⟨O,c⟩:=cc c;cases c;have m:=S.hX;refine cps fun P t=>?_;obtain⟨r,dl,b,l,g⟩:=Z.J4.XP (model X.prog X.w) m;refine t ?_;have E:=g.length;have C:=v.length;have f:=Z.dU;have h1:vs.length<=F.dU:=cA (bL O);have h2:F.dU<=vs.length+F.hJ.length:=cA (bR O);have h3:=Z.Bl;have j:(vs++F.hJ.drop (F.hJ.length-(F.dU-vs.length))).length=F.dU:=by rw[aU,rZ,x? (Nat.sub_le_iff_le_add'.mpr h2),uw h1]
 refine codeAny_call_function (iW (KA (fg _)) R.2.1) (m _ _ Z.obj) rfl Z.co Z.gen Z.J2 (codeRec_of m Z.code) (XC Z.J0 Z.nd b l (by rw[C,f];exact h1) (by rw[C,f,E];exact h2) (by rw[E,f];exact Z.Bl) ?_);rw[Z.J3,E,f,C];refine wpAny_newFunctionEnv_cells Z.kind (fun y hy=>?_) fun env he s' x=>?_;.refine cps fun P t=>?_;obtain⟨a,ha,M⟩:=gZ.mp ((z? hy).1:y.1∈as.map (·.arg));refine t ?_;exact(Z.pk a ha).imp (fun q=>M▸q) fun q=>⟨M▸q,JZ _ _ _ (M▸q)⟩
 obtain⟨h',tk,rfl,U⟩:=x.done;have d:X.K.In h':=fun a o e=>U _ _ (m a o e);obtain⟨L,H⟩:=XQ Z S (F2.append v ((F2.aq (fun q=>q.aq S.base (fun i p e=>nS (List.getElem?_nil.symm.trans e))) g).drop _)) j he x (by rw[he];rfl) h' tk rfl U;refine⟨⟨h'.nsMap cStatics,.of_isNs (isNs_of_in d J.1),nsMap_none_of_in d J.1 J.2⟩,codeAny_func ?_⟩;have hR:Rm ⟨X,K,n,u⟩ (A.deeper env):=by
  refine⟨R.1,?_,?_⟩;.have:=R.2.1;show A.depth+1+n+5<=_;dsimp only at this;exact da 0x2caa8280082c9a968000000 rfl this
  .have:=R.2.2;show A.units+3+u+60<=_;dsimp only at this;rw[eL,eL,nz 3];exact this
 exact rO T F.body Z.mt (y:=y.hp h' tk) h ⟨hR,L,S.more U⟩ ⟨fun h x Z=>kk _ _ _ _ h (cG.Bm U x H) Z.S .none,fun h x S v=>kk _ _ _ _ h (cG.Bm U x H) S v,fun h x Z=>kk _ _ _ _ h (cG.Bm U x H) Z.S .none⟩
end
theorem XS(T:Bn X U)(H:wR ⟨X,iK WD U n,d,u⟩)(h:iK WD U (n+1) f vs σ k){Q:aH->cJ->Prop}(R:Rc ⟨X,iK WD U n,d+6,u+63⟩ A)(S:HR X σ y)(C:y.Vs vs M)(kk:k4 X y k Q):codeAny (model X.prog X.w) A (.call (.ref (X.kZ f)) ⟨M,[]⟩) (nj Q) y.s:=by refine cps fun P L=>?_;obtain⟨F,lc,K,g,h⟩:=Cx h;obtain⟨j,O,fd,v,as,r,E,J,Z⟩:=T.J6 f F K;refine L ?_;exact XR Z (iK WD U n) ⟨T.t1,T.t2,H,Wg n⟩ T.av g h R S C kk
theorem XT(T:Bn X Z)(n:Nat):wR ⟨X,iK WD Z n,6*n,63*n⟩:=Nat.rec (motive:=fun n=>wR ⟨X,iK WD Z n,6*n,63*n⟩) (fun h=>(show False from h).elim) (fun n H=>fun h=>XS T H h) n
end
section
open PySem.W PySem.Calls PyProof.Rows
section
variable(K:Frag)
noncomputable def Bo(d:Data)(p:List aH->Bool):Bool:=match d with|.seq xs _=>p xs.toList|_=>aj
theorem Kb{p:List aH->Bool}(h:Bo d p=Y):∃xs n,d=.seq xs n/\p xs.toList=true:=by cases d with|seq xs n=>exact⟨xs,n,rfl,h⟩|_=>exact nB h
noncomputable def Kc(o:Option iG)(p:List aH->Bool):Bool:=o.any fun b=>decide (b.cls=.type "tuple")&&(b.dict.isNone&&(b.slots.toList.isEmpty&&Bo b.data p))
noncomputable def xk:aH->aH->Bool|.none,.none=>Y|.bool a,.bool b=>a==b|.int i _,.int j _=>i==j|.str s _,.str t _=>s==t|_,_=>aj
mutual noncomputable def Bp:aa->aH->Bool|.none,v=>xk .none v|.bool a,v=>xk (.bool a) v|.int i,v=>xk (.int i 0) v|.str s,v=>xk (.str s 0) v|.ab l,v=>(match v with|.ref a=>Kc (K.lookup a) (xl l)|_=>aj)|.ref _,_=>aj noncomputable def xl:List aa->List aH->Bool|[],l=>l.isEmpty|d::r,l=>(match l with|v::Z=>Bp d v&&xl r Z|[]=>aj)end
theorem XU{o:Option iG}{p:List aH->Bool}(h:Kc o p=Y):∃xs n,o=D (rD xs n)/\p xs.toList=true:=by
 rcases o with _|b;.exact nB h
 obtain⟨c,d,Z,X⟩:=b;obtain⟨xs,n,e,U⟩:=Kb (bR (bR (bR h)));refine⟨xs,n,?_,U⟩;rw[show Z=_ from e,show c=_ from cA (bL h),show d=I from nI.mp (bL (bR h)),show X=#[]from Array.toList_eq_nil_iff.mp (nK.mp (bL (bR (bR h))))]
variable{K}
mutual theorem Ke:∀{d:aa}{v:aH},Bp K d v=Y->VR (fun a=>K.lookup a) [] d v
|.none,v,h=>by induction v using uE with|none=>exact .none|_=>exact nB h
|.bool a,v,h=>by induction v using uE with|bool b=>cases aV.mp (show(a==b)=Y from h);exact .bool|_=>exact nB h
|.int a,v,h=>by induction v using uE with|int b t=>cases aV.mp (show(a==b)=Y from h);exact .int|_=>exact nB h
|.str a,v,h=>by cases v with|str b t=>cases aV.mp (show(a==b)=Y from h);exact .str|_=>exact nB h
|.ab l,v,h=>by induction v using uE with|ref a=>exact(by obtain⟨xs,n,e,h⟩:=XU h;exact .ab e (Bq h))|_=>exact nB h
|.ref i,v,h=>nB h theorem Bq:∀{Z:List aa}{vs:List aH},xl K Z vs=Y->eJ (fun a=>K.lookup a) [] Z vs
|[],vs,h=>by induction vs using eQ with|nil=>exact .nil|cons=>exact nB h
|d::r,vs,h=>by induction vs using eQ with|nil=>exact nB h|cons v X=>exact .cons (Ke (bL h)) (Bq (bR h))end
variable(K)
noncomputable def Kf(o:Option iG)(p:List aH->Bool):Bool:=o.any fun b=>Bo b.data p
theorem XV{o:Option iG}{p:List aH->Bool}(h:Kf o p=Y):∃c d items n Z,o=D ⟨c,d,.seq items n,Z⟩/\p items.toList=true:=by
 rcases o with _|b;.exact nB h
 obtain⟨c,d,X,Z⟩:=b;obtain⟨xs,n,e,U⟩:=Kb h;exact⟨c,d,xs,n,Z,by rw[show X=_ from e],U⟩
noncomputable def Kg(v:aH)(Z:List aa):Bool:=match v with|.none=>Z.isEmpty|.ref T=>Kf (K.lookup T) (xl K Z)|_=>aj
theorem XX{X:Wx}(h:Kg X.K v ds=Y):xi X v ds:=by induction v using uE with|none=>exact .inl ⟨rfl,nK.mp h⟩|ref T=>exact(by obtain⟨c,d,items,n,Z,e,h⟩:=XV h;exact .inr ⟨T,c,d,items,n,Z,rfl,e,Bq h⟩)|_=>exact nB h
noncomputable def Kh(d:Data):Option FuncData:=match d with|.func fd=>D fd|_=>I
noncomputable def Br(o:Option iG):Option FuncData:=o.bind fun b=>Kh b.data
noncomputable def Ki(a:Arguments):Bool:=a.posonlyargs.isEmpty&&(a.vararg.isNone&&(a.kwonlyargs.isEmpty&&(a.kw_defaults.isEmpty&&a.kwarg.isNone)))
theorem XY(h:Ki a=Y):a=⟨[],a.args,I,[],[],I,a.defaults⟩:=by obtain⟨p,as,v,Z,X,U,J⟩:=a;rw[show p=[]from nK.mp (bL h),show v=I from nI.mp (bL (bR h)),show Z=[]from nK.mp (bL (bR (bR h))),show X=[]from nK.mp (bL (bR (bR (bR h)))),show U=I from nI.mp (bR (bR (bR (bR h))))]
noncomputable def XZ(N:rA)(F:Fn)(c:Cn)(b:FuncBody):Bool:=match b with|.stmts Z=>oH N F.body c Z|.expr _=>aj
noncomputable def Kj(N:rA)(a:bu)(F:Fn)(Z:List (Option bh)):Bool:=(Br (K.lookup a)).any fun fd=>Ki fd.params&&(decide ((fd.params.args.map (·.arg)).Nodup)&&(fd.params.args.length==F.dU&&(Z.length==F.kH&&(decide (Z.take F.dU=fd.params.args.map fun a=>D a.arg)&&(decide ((Z.filterMap id).Nodup)&&(fd.closure.isEmpty&&(fd.globals==jr&&(fd.builtins==qo&&(fd.scope.kind==.function&&(!fd.scope.isCoroutine&&(!fd.scope.isGenerator&&(codeIn K fd.code fd.qualname&&(fd.params.args.all (fun a=>fd.scope.names.lookup a.arg==D .local||fd.scope.names.lookup a.arg==D .cell)&&(Kg K fd.defaults F.hJ&&(decide (F.hJ.length<=F.dU)&&XZ N F ⟨Z,fd.scope⟩ fd.body)))))))))))))))
theorem X0{o:Option iG}(h:Br o=D fd):∃X Z U,o=D ⟨X,Z,.func fd,U⟩:=by
 rcases o with _|b;.exact nS h
 obtain⟨c,d,J,U⟩:=b;have h:Kh J=D fd:=h;cases J with|func f=>cases h;exact⟨_,_,_,rfl⟩|_=>exact nS h
theorem X1{X:Wx}(h:Kj X.K X.N a F names=Y):∃Q Z fd M as L U names,uh X a F Q Z fd M as L U names:=by refine cps fun P A=>?_;obtain⟨fd,d,j⟩:=(LX ..).mp h;refine A ?_;clear h;refine cps fun P A=>?_;obtain⟨Q,Z,M,r⟩:=X0 d;refine A ?_;have h:=bR j;have O:=bR (bR (bR h));have E:=bR (bR (bR O));have C:=bR (bR (bR E));have J:=bR (bR (bR C));have H:=bR (bR (bR J));induction g:fd.body using FuncBody.casesOn with|stmts U=>rw[g]at H;exact⟨Q,Z,fd,M,fd.params.args,fd.params.defaults,U,names,{obj:=r,J0:=XY (bL j),nd:=cA (bL h),dU:=aV.mp (bL (bR h)),kH:=aV.mp (bL (bR (bR h))),take:=cA (bL O),J1:=cA (bL (bR O)),J2:=g,mt:=H,J3:=nK.mp (bL (bR (bR O))),ai:=aV.mp (bL E),blt:=aV.mp (bL (bR E)),kind:=aV.mp (bL (bR (bR E))),co:=gW (bL C),gen:=gW (bL (bR C)),code:=bL (bR (bR C)),pk:=fun a u=>(rW.mp (fR.mp (bL J) a u)).imp (fun e=>aV.mp e) fun e=>aV.mp e,J4:=XX (bL (bR J)),Bl:=cA (bL (bR (bR J)))}⟩|expr=>rw[g]at H;exact nB H
noncomputable def X2(C:bu)(x:bh):Bool:=plainGet K C x&&(hasDictIn K C&&((match findIn K (.ref C) x with|some Z=>noGet K Z|none=>aj)&&(findIn K (.ref C) "__setattr__"==D (D (.builtin "object.__setattr__"))&&(plainOver K C&&takerIn K C x==D I))))
noncomputable def X4(C:bu)(x:bh)(f:bu):Bool:=plainGet K C x&&(findIn K (.ref C) x==D (D (.ref f))&&typeIn K (.ref f)==D (.type "function"))
noncomputable def X5(C:bu)(i:Option bu):Bool:=makesIn K C&&(match i with|some f=>findIn K (.ref C) "__init__"==D (D (.ref f))&&typeIn K (.ref f)==D (.type "function")|none=>findIn K (.ref C) "__init__"==D (D (.builtin "object.__init__")))
noncomputable def Kk(x:bh)(a:bu):Bool:=nsIn K jr x==D (D (.ref a))&&keepIn K (.ref a)
noncomputable def Kl(x:bh)(d:aa):Bool:=(nsIn K jr x).any fun o=>o.any fun v=>Bp K d v
end
noncomputable def l7(p:Nat->Z->Bool):Nat->List Z->Bool|_,[]=>Y|i,x::r=>p i x&&l7 p (i+1) r
theorem Km{Z:Type}{p:Nat->Z->Bool}:∀{l:List Z}{k i:Nat}{x:Z},l7 p k l=Y->l[i]?=D x->p (k+i) x=Y
|[],k,i,x,_,h=>nS h|y::r,k,i,x,h,e=>by
 rcases i with _|i;.cases e;exact bL h
 exact(um k 1 i:k+1+i=k+(i+1))▸Km (bR h) e
theorem oR{Z:Type}{p:Nat->Z->Bool}{l:List Z}{x:Z}(h:l7 p 0 l=Y)(e:l[i]?=D x):p i x=true:=gj i▸Km h e
end
section
open PySem.W PySem.Calls PyProof.Rows
noncomputable def KF(P:uF):Frag:=(iV 1229).zip (H.mG P)
noncomputable def X6:List Nat:=[21,36,57,77,96,103,110,117,163,170,177,192,200,208,216,223,230,237,243,252,259,266,273,280,287,294,299,306,313,320,327,341,348,355,362,369,376,383,390,397,404,411,418,425,432,439,446,453,465,472,479,486,491,498,505,512,517,524,531,536,543,550,557,564,571,591,598,605,612,619,640,647,654,661,668,675,682,696,703,710,717,724,731,738,745,752,759,766,773,780,787,794,801,808,815,822,829,836,843,850,857,864,869,874,881,888,895,900,907,914,921,928,935,942,949,956,963,970,977,984,991,998,1005,1012,1019,1026,1033,1040,1054,1073,1085,1093,1100,1107,1114,1121,1128,1135,1140,1147,1152,1159,1164,1171,1178,1185,1192,1199,1204,1209,1216,1223,1228]
noncomputable def X7:List Nat:=[39,60,80,120,180,456,622,685,1057,1076]
noncomputable def nu(i:Nat):Addr:=X6.getD i 0
noncomputable def rP(i:Nat):Addr:=X7.getD i 0
noncomputable def NM:rA where nm i:=mI[i]?;gn i:=ya[i]?;fn i:=(yc[i]?).getD I;cn i:=yd[i]?
noncomputable def X8(K:Frag)(a:bu)(n:Nat):List (Option bh):=let l:=(Br (K.lookup a)).elim [] fun fd=>fd.scope.names.filterMap fun x=>if x.2=.globalImplicit then I else D (D x.1);l++Bv (n-l.length) I
section
variable(P:uF)
theorem X9:l7 (fun i F=>F.all fun F=>Kj (KF P) NM (nu i) F (X8 (KF P) (nu i) F.kH)) 0 pi=true:=by kernel_rfl
theorem Yb:l7 (fun c l=>l.all fun f=>match mI[f]? with|some x=>X2 (KF P) (rP c) x|none=>Y) 0 uV=true:=by kernel_rfl
theorem Ko:l7 (fun c l=>l.all fun q=>keepIn (KF P) (.ref (nu q.2))&&match mI[q.1]? with|some x=>X4 (KF P) (rP c) x (nu q.2)|none=>Y) 0 qG=true:=by kernel_rfl
theorem Yc:l7 (fun c i=>match i with|some j=>X5 (KF P) (rP c) (j.map nu)|none=>Y) 0 ye=true:=by kernel_rfl
theorem Yd:l7 (fun f x=>match x with|some x=>Kk (KF P) x (nu f)|none=>Y) 0 yc=true:=by kernel_rfl
theorem Ye:l7 (fun c x=>Kk (KF P) x (rP c)) 0 yd=true:=by kernel_rfl
theorem Yg:l7 (fun g x=>match yb[g]? with|some d=>Kl (KF P) x d|none=>Y) 0 ya=true:=by kernel_rfl
theorem Kp:∀b,(nsIn (KF P) jr (tN b)==D I&&nsIn (KF P) qo (tN b)==D (D (AS b)))=true:=by intro b;cases b<;>kernel_rfl
theorem Kq:(nsIn (KF P) jr "range"==D I&&nsIn (KF P) qo "range"==D (D (.type "range")))=true:=by kernel_rfl
theorem Kr:(nsOkIn (KF P) cStatics&&nsIn (KF P) cStatics "sys.recursionlimit"==D I)=true:=by kernel_rfl
theorem Yh:((KF P).lookup mz).isSome=true:=by kernel_rfl
end
theorem Yi:(decide mI.Nodup)=true:=by kernel_rfl
theorem Yj:(decide (mI.take 4=[nh 0,nh 1,nh 2,nh 3]))=true:=by kernel_rfl
noncomputable def XW(w:qk):Wx where prog:=H.pw;w:=w;K:=KF w.params;N:=NM;gc:=rP;kZ:=nu;AF:=fun i j x h1 h2=>by obtain⟨hi,e1⟩:=bp.mp h1;obtain⟨hj,e2⟩:=bp.mp h2;exact(xo (cA Yi)).mp (e1.trans e2.symm)
theorem Ks:∀{l:List (Nat×Nat)}{k v:Nat},sn l k=D v->(k,v)∈l
|[],k,v,h=>nS h|(a,b)::r,k,v,h=>by
 by_cases e:a=k;.cases(af e).symm.trans h;cases e;exact .head _
 .exact .tail _ (Ks ((am e).symm.trans h))
theorem Ku{c k f:Nat}(h:WD.nZ c k=D f):∃l,qG[c]?=D l/\(k,f)∈l:=by cases e:qG[c]? with|none=>exact nS ((show(match qG[c]? with|some l=>sn l k|none=>I)=D f from h).symm.trans (by rw[e])|>.symm)|some l=>exact⟨l,rfl,Ks ((show(match qG[c]? with|some l=>sn l k|none=>I)=D f from h).symm.trans (by rw[e])|>.symm)⟩
theorem Bs{bA:Type}{l:List (Option bA)}{i:Nat}{x:bA}(h:(l[i]?).getD I=D x):l[i]?=D (D x):=by cases e:l[i]? with|none=>rw[e]at h;exact nS h|some y=>rw[e]at h;exact aI D h
theorem Yk(w:qk):oM (XW w)where
rH:=Yh w.params;gu c f x h hx:=by have h':(match uV[c]? with|some l=>l.contains f|none=>aj)=true:=h;cases hl:uV[c]? with|none=>rw[hl]at h';exact nB h'|some l=>rw[hl]at h';have h2:=fR.mp (oR (Yb w.params) hl) f (u?.mp h');rw[show mI[f]?=D x from hx]at h2;have h4:=bR (bR h2);refine⟨⟨bL h2,bL (bR h2)⟩,?_,aV.mp (bL (bR h4)),bL (bR (bR h4)),aV.mp (bR (bR (bR h4)))⟩;have q:=bL h4;cases ha:findIn (KF w.params) (.ref (rP c)) x with|none=>rw[ha]at q;exact nB q|some a=>rw[ha]at q;exact⟨a,ha,q⟩
nZ c k f x h hx:=by obtain⟨l,hl,hm⟩:=Ku h;have h2:=bR (fR.mp (oR (Ko w.params) hl) _ hm);rw[show mI[k]?=D x from hx]at h2;exact⟨bL h2,aV.mp (bL (bR h2)),aV.mp (bR (bR h2))⟩
theorem Yl(w:qk):tZ (XW w)where
mH g x d hx hd:=by have h1:=oR (Yg w.params) (show ya[g]?=D x from hx);rw[show yb[g]?=D d from hd]at h1;have h2:Kl (KF w.params) x d=true:=h1;obtain⟨o,ho,h3⟩:=(LX ..).mp h2;obtain⟨v,rfl,h4⟩:=(LX ..).mp h3;exact⟨v,ho,Ke h4⟩
fn f x hx:=by have h1:=oR (Yd w.params) (Bs (show(yc[f]?).getD I=D x from hx));exact⟨aV.mp (bL h1),bR h1⟩
cn c x hx:=by have h1:=oR (Ye w.params) (show yd[c]?=D x from hx);exact⟨aV.mp (bL h1),bR h1⟩
bi b:=⟨aV.mp (bL (Kp w.params b)),aV.mp (bR (Kp w.params b))⟩;gq:=⟨aV.mp (bL (Kq w.params)),aV.mp (bR (Kq w.params))⟩;aR k hk:=by
 have h2:(mI.take 4)[k]?=D (nh k):=by rw[show mI.take 4=_ from cA Yj];induction k,hk using qJ<;>rfl
 exact(BN hk).symm.trans h2
Jk c k f h:=by obtain⟨l,hl,hm⟩:=Ku h;exact bL (fR.mp (oR (Ko w.params) hl) _ hm)
Jl c i h:=by have h1:=oR (Yc w.params) (Bs (show(ye[c]?).getD I=D i from h));refine⟨bL h1,?_⟩;cases i with|none=>exact aV.mp (bR h1)|some f=>exact⟨aV.mp (bL (bR h1)),aV.mp (bR (bR h1))⟩
theorem Ym(w:qk):Bn (XW w) lJ where
J6 f F h:=by have h0:pi[f]?=D (D F):=Bs (show(pi[f]?).getD I=D F from(by cases e:pi[f]?<;>rfl:(pi[f]?).getD I=(pi[f]?).join).trans h);exact X1 (X:=XW w) (oR (X9 w.params) h0)
av:=⟨bL (Kr w.params),aV.mp (bR (Kr w.params))⟩;t1:=Yl w;t2:=Yk w
end
section
open PySem.W PySem.Calls PyProof.Rows
theorem Yn(P:uF):((KF P).all fun p=>p.2.cls !=.type "list")=true:=by kernel_rfl
theorem Yo(P:uF):(decide ((H.mG P).length=1229))=true:=by kernel_rfl
theorem Yp(P:uF):((H.mG P).all fun o=>!o.isFreed)=true:=by kernel_rfl
theorem Yq:∀{l:List iG}{k a:Nat}{o:iG},((KU k l.length).zip l).lookup a=D o->∃i,a=k+i/\l[i]?=D o:=by intro l;induction l with|nil=>intro k a o h;exact nS h|cons x r Z=>intro k a o h;simp only[iD,List.range'_succ,List.zip_cons_cons,js]at h;induction e:a==k using xw with|true=>rw[e]at h;exact⟨0,aV.mp e,h⟩|false=>rw[e]at h;obtain⟨i,X,U⟩:=Z h;exact⟨i+1,X.trans (um k 1 i),U⟩
theorem Yr{X:Type}{k:X}:∀{l:List (Nat×X)},l.lookup x=D k->(x,k)∈l:=by intro l;induction l with|nil=>intro h;exact nS h|cons U r J=>obtain⟨n,v⟩:=U;intro h;rw[js]at h;induction Z:x==n using xw with|true=>rw[Z]at h;cases h;rw[aV.mp Z];exact .head _|false=>rw[Z]at h;exact .tail _ (J h)
theorem Ys(cj:H.YP w h):(KF w.params).In h:=by intro a o e;unfold KF at e;rw[KV,<-(cA (Yo w.params))]at e;obtain⟨i,X,Z⟩:=Yq e;rw[gj]at X;subst X;refine cj a o ?_;have J:=gW (fR.mp (Yp w.params) o (jQ Z));show(match(⟨⟨H.mG w.params⟩,{}⟩:ln).objs[a]? with|some ⟨_,_,.freed,_⟩=>I|o=>o)=D o;have U:(⟨⟨H.mG w.params⟩,{}⟩:ln).objs[a]?=D o:=(List.getElem?_toArray ..).trans Z;rw[U];clear e Z U;obtain⟨c,d,Q,O⟩:=o;cases Q with|freed=>exact nB ((show Y=aj from J).symm)|_=>rfl
theorem Yt(h:H.hE.toRowW.claim.pre args=Y):∃l:List Int,args=[.list (l.map .int)]/\l.length<=63:=by
 obtain⟨X,U⟩:=pre_splitW h;clear h;obtain⟨d,r,rfl,J,Q⟩:=hasAllW_cons (e:=.list .int) (es:=[]) X;obtain rfl:=hasAllW_nil Q;obtain⟨xs,rfl,O⟩:=hasW_list J;have E:∀xs:List WData,WShape.hasItems H.hE.records xs .int=Y->∃l:List Int,xs=l.map .int:=by intro xs;induction xs with|nil=>intro _;exact⟨[],rfl⟩|cons x xs C=>intro h;obtain⟨i,rfl⟩:=hasW_int (bL h);obtain⟨l,rfl⟩:=C (bR h);exact⟨i::l,rfl⟩
 obtain⟨l,rfl⟩:=E xs O;refine⟨l,rfl,?_⟩;have Z:LY [] (.and (.not (.lt (.lit (.int 63)) (.len (.arg 0)))) (.lit (.bool Y))) {args:=[.list (l.map .int)]}=true:=U;unfold WTm.holds at Z;simp[A']at Z;have e:less? (A? 63) (A? (l.length:Int))=D (decide ((63:Int)<l.length)):=rfl;rw[e]at Z;rcases qf 63 l.length with q|q;.rw[aN (show(63:Int)<l.length by exact ax 0x281f88210d03f10409 rfl q)]at Z;simp at Z
 .exact q
theorem Yu:∀{l:List Int}{vs:List aH},WellAll P h vs (l.map .int)->∀{G:Gm}{m:Mp},eJ G m (l.map .int) vs:=by intro l;induction l with|nil=>intro vs Z G m;cases Z;exact .nil|cons i l X=>intro vs Z G m;cases Z with|cons U J=>cases U;exact .cons .int (X J)
theorem Yv(P:uF):(nsIn (KF P) jr H.hE.name==D (D (.ref (nu 152))))=true:=by kernel_rfl
theorem Yw(h:CW n f vs σ k):iK WD lJ n f vs σ k:=by unfold CW at h;exact h
def Bt:Prop:=∀l:List Int,l.length<=63->CW 111 152 [.ref 0] [.list (l.map .int)] fun d _=>d=.bool Y
theorem ui{x p:Z}(e:[x][i]?=D p):i=0/\p=x:=by induction i using nM with|zero=>cases e;exact⟨rfl,rfl⟩|succ i=>cases e
set_option tactic.hygienic true in theorem Yx(C:Bt):WalkO H.qv H.o4 (XL H.qv []) H.YP H.hE.toRowW H.nR [] (fun f vs=>PySem.call f vs):=by
 intro w X U mg mb G cj a o pm cd doc dV kV s h M? hD O hg args ew as E M K r N';clear M K;obtain⟨l,rfl,L⟩:=Yt E;have u:=Ys cj;have k:a=nu 152:=by have h2:mg H.hE.name=D (.ref a):=O;rw[(mg_of u G.T.g (aV.mp (Yv w.params)))]at h2;clear s O;cases h2;rfl
 clear s O;subst k;cases r with|cons m c=>cases c;cases m with|list J Z=>
 rename_i b vs;have nG:(KF w.params).lookup b=none:=by induction e:(KF w.params).lookup b using cN with|none=>rfl|some o'=>have e1:=u b o' e;rw[J]at e1;cases e1;have q:=fR.mp (Yn w.params) _ (Yr e);exact nB (bne_self_eq_false (Value.type "list")▸q)
 let y:Cf:=⟨fun z=>(KF w.params).lookup z,[(b,b)],U⟩;have S:HR (XW w) [.list (l.map .int)] y:=by
  refine⟨u,fun _ _ e=>e,rfl,fun i j p q e1 e2 t=>?_,fun i p e=>?_,fun i p o e1 e2=>?_⟩;.exact ae ((ui e1).1.trans (ui e2).1.symm) t
  .obtain⟨rfl,rfl⟩:=ui e;exact⟨nG,nG⟩
  .obtain⟨rfl,rfl⟩:=ui e1;cases e2;exact .list (vs:=vs.toArray) (n:=0) rfl J (Yu Z)
 have hc:=XT (Ym w) 111 (Yw (C l L)) (A:=callerA) (y:=y) (Q:=fun v s'=>GoodWG H.hE.toRowW.claim (classAt X.heap) (ExcName.means X.heap) [.list (l.map .int)] U (.ok (.ret v)) s') ⟨rfl,(by show(301:Nat)+6*111<=1000;decide),(by show(4:Nat)+63*111<=9900;decide)⟩ S (.ag (.ref (p:=(b,b)) rfl)) fun d σ z v h x S' hv=>?_;.exact nj.call hc
 .subst h;refine VR.bE hv ?_;refine GoodW.toG ⟨.inl ⟨_,.bool Y,[],rfl,fun _=>rfl,.bool Y,(by show LY [] (.eq .res (.lit (.bool Y))) _=Y;simp[LY,A',same]),fun _=>⟨.nil,fun a k=>nomatch k⟩⟩,fun b' o' e=>?_,by rw[x.fr],by rw[x.fr];exact hg⟩;exact x.keep b' o' e id fun i p hi hp=>ae (ui hp).1 hi
theorem Yy(Z:LZ.wellSaid=Y)(X:H.hE.wellSaid=Y)(C:Bt):PySem.Challenge.rw_pq0593_01.Holds:=⟨Z,H.MQ X (Yx C)⟩
end
section
open PySem.W PySem.Calls PyProof.Rows
theorem Yz:Bt:=fun l h=>Ue (n:=0) h fun _=>rfl
end
section
open PySem.W PySem.Calls PyProof.Rows
set_option maxRecDepth 1000000
set_option maxHeartbeats 0
theorem YA:av0 LZ=true:=by
 unfold PySem.W.Fast.tw9446332074065402090 PySem.W.Fast.tw17960256430627541270 PySem.W.Fast.tw2436336058641802641 PySem.W.Fast.tw12908688711261696721;repeat'(with_reducible refine look_both ?_ ?_)
 all_goals(first|(with_reducible rfl)|decide+kernel)
theorem joined:PySem.Challenge.rw_pq0593_01.Holds:=have h:LZ.wellSaid=true:=(congrFun aw0 _).trans YA;Yy h (row_said h) Yz
end
end Mine
theorem PySem.Challenge.cw_pq0593_01_holds : PySem.Challenge.rw_pq0593_01.Holds :=
  Mine.joined
